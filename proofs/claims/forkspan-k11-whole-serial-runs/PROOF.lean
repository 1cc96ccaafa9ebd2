import PyProof.Rows.All
import Wide.All
import OpenK.AllK
import Wide.FinOn
import KE.KStateDown
import Lean
import HandS.Base
import HandS.Call
import HandS.List
import HandS.Dict
import HandS.Ends
import HandS.More
import HandS.Words
import HandS.WordsExc
import HandS.Codes
import HandS.Exc
import HandS.ExcInit
import HandS.ExcField
import HandS.Defaults
import HandS.Head0
import HandS.Head1
import HandS.Head2
import HandS.HeadEnd
import HandS.HeadHook1
import HandS.HeadHook2
import HandS.HeadHook3
import HandS.HeadHook4
import HandS.EndBits
import PyProof.StrBlock2
import PyProof.DictUpdate
import KE.KDictCopyH
import HandS.Text
import HandS.Iter
import HandS.Comp
import HandS.DictComp
import HandS.Flow
import HandS.IsInst
import HandS.TupAny
import HandS.Deep
import HandS.WordsList
import HandS.RaiseMore
import HandS.Wide
import HandS.NoneIn
import KE.GoesEnum
import HandS.TupSets
import HandS.SetBool
import KE.SortData
import HandS.ExcCtx
import HandS.ExcInitHot
import HandS.HotCalls
import HandS.Walk
import PySem.Challenge.RW_forkspan_k11_whole_serial_runs
set_option Elab.async false
set_option linter.all false
set_option maxRecDepth 100000
set_option maxHeartbeats 8000000
namespace K11
open PySem PySem.Spec PyProof.Rows L2
/-! ### the text by places -/
def top (i : Nat) : Stmt := PySem.Challenge.pw_forkspan_k11_whole_serial_runs.main.body.getD i (.Pass ⟨0, 0, 0, 0⟩)
abbrev s_Undefined_init : Stmt := inClass (top 5) 0
abbrev s_is_integer : Stmt := top 11
abbrev s_is_value : Stmt := top 12
abbrev s_is_word : Stmt := top 13
abbrev s_is_name : Stmt := top 14
abbrev s_is_pair : Stmt := top 15
abbrev s_is_words : Stmt := top 16
abbrev s_need_words : Stmt := top 17
abbrev s_operated : Stmt := top 18
abbrev s_worked_out : Stmt := top 21
abbrev s_parts_of_fold : Stmt := top 22
abbrev s_Block_init : Stmt := inClass (top 23) 0
abbrev s_Unfolding_init : Stmt := inClass (top 24) 0
abbrev s_Unfolding_unfold : Stmt := inClass (top 24) 1
abbrev s_Unfolding_statement_of : Stmt := inClass (top 24) 2
abbrev s_Unfolding_env_of : Stmt := inClass (top 24) 3
abbrev s_Unfolding_last_of : Stmt := inClass (top 24) 4
abbrev s_Unfolding_last_in : Stmt := inClass (top 24) 5
abbrev s_Unfolding_meant_start : Stmt := inClass (top 24) 6
abbrev s_Unfolding_ahead_of_statement : Stmt := inClass (top 24) 7
abbrev s_Unfolding_ahead_of_join : Stmt := inClass (top 24) 8
abbrev s_Unfolding_part_of_fold : Stmt := inClass (top 24) 9
abbrev s_Unfolding_ahead_with_gaps : Stmt := inClass (top 24) 10
abbrev s_Unfolding_ahead : Stmt := inClass (top 24) 11
abbrev s_Unfolding_expression_of : Stmt := inClass (top 24) 14
abbrev s_Unfolding_result_by : Stmt := inClass (top 24) 15
abbrev s_Unfolding_do : Stmt := inClass (top 24) 16
abbrev s_Unfolding_go_on : Stmt := inClass (top 24) 17
abbrev s_Unfolding_go_on_with_fold : Stmt := inClass (top 24) 18
abbrev s_Unfolding_words : Stmt := inClass (top 24) 21
abbrev s_SerialRun_init : Stmt := inClass (top 26) 0
abbrev s_SerialRun_do : Stmt := inClass (top 26) 1
abbrev s_SerialRun_do_block : Stmt := inClass (top 26) 2
abbrev s_is_one_of : Stmt := top 34
abbrev s_begins_with_word : Stmt := top 35
abbrev s_is_expression : Stmt := top 36
abbrev s_is_set : Stmt := top 37
abbrev s_is_statement : Stmt := top 38
abbrev s_is_block : Stmt := top 39
abbrev s_is_program : Stmt := top 40
abbrev s_need_program : Stmt := top 41
abbrev s_serial_run : Stmt := top 43
abbrev s_run_with : Stmt := top 44
abbrev s_serial_deeds : Stmt := top 45
abbrev s_serial_end : Stmt := top 46
abbrev s_result_of : Stmt := top 47
abbrev s_law_draws : Stmt := top 49
abbrev s_law_equal : Stmt := top 50
abbrev s_law_pool : Stmt := top 51
abbrev s_law_stream : Stmt := top 52
abbrev s_law_expression : Stmt := top 53
abbrev s_law_statement : Stmt := top 54
abbrev s_law_block : Stmt := top 55
abbrev s_law_turns : Stmt := top 56
abbrev s_law_most : Stmt := top 57
abbrev s_law_program : Stmt := top 58
abbrev s_law_words : Stmt := top 59
abbrev s_law_operated : Stmt := top 60
abbrev s_law_value : Stmt := top 61
abbrev s_law_read_words : Stmt := top 62
abbrev s_law_once : Stmt := top 63
abbrev s_law_deed : Stmt := top 64
abbrev s_law_fold_run : Stmt := top 65
abbrev s_law_blocks_run : Stmt := top 66
abbrev s_law_statement_run : Stmt := top 67
abbrev s_law_block_run : Stmt := top 68
abbrev s_law_run : Stmt := top 69
abbrev s_law_is_undefined : Stmt := top 70
abbrev s_law_is_right : Stmt := top 71
abbrev s_law : Stmt := top 72
/-! ### a def, a method as the top has left it -/
/-- a def of the module under its name -/
def DF (K : PySem.W.Frag) (mg : Str → Option Value) (x : Str) (st : Stmt) (ps : List Str) : Prop := ∃ (f : Addr) (fd : FuncData), FunD K x x (defArgs st) (defBody st) (defScope st) [] [] f fd ∧ mg x = some (.ref f) ∧ Binds K fd ps []
/-- a method of the class at C -/
def MF (K : PySem.W.Frag) (C : Addr) (m qual : Str) (st : Stmt) (ps : List Str) : Prop := ∃ (f : Addr) (fd : FuncData), Meth K C m f ∧ FunD K m qual (defArgs st) (defBody st) (defScope st) [] [] f fd ∧ Binds K fd ps []
/-- a class and its __init__ -/
def IF (K : PySem.W.Frag) (C : Addr) (qual : Str) (st : Stmt) (ps : List Str) : Prop := ∃ (f : Addr) (fd : FuncData), Mk K C f ∧ FunD K "__init__" qual (defArgs st) (defBody st) (defScope st) [] [] f fd ∧ Binds K fd ps []
/-- an exception's class and its __init__ -/
def EF (K : PySem.W.Frag) (C : Addr) (qual : Str) (st : Stmt) (ps : List Str) : Prop := ∃ (f : Addr) (fd : FuncData), PySem.W.findIn K (.ref C) "__init__" = some (some (.ref f)) ∧ PySem.W.typeIn K (.ref f) = some (.type "function") ∧ FunD K "__init__" qual (defArgs st) (defBody st) (defScope st) [] [] f fd ∧ Binds K fd ps []
/-- the look that gives OexC -/
def oexB (K : PySem.W.Frag) (C : Addr) : Bool := match K.lookup C with
  | some ⟨.type "type", _, .cls cd, sl⟩ => (match cd.mro, sl.toList with
    | .ref C' :: bm, [_, _, _, _, some (.builtin n), _] => C' == C && (n == "ValueError.__new__" && (!cd.hasDel && (cd.hasDict && PySem.HandSPX.refsVE bm)))
    | _, _ => false)
  | _ => false
theorem oexB_ok {K : PySem.W.Frag} {C : Addr} (q : oexB K C = true) : ∃ nm qn N bs bm sn sub ab col dd k0 k1 k2 k3 k5, K.lookup C = some (excClassObj nm qn C N bs bm true sn sub ab col dd k0 k1 k2 k3 k5 "ValueError.__new__") ∧ PySem.HandSPX.refsVE bm = true := by
  unfold oexB at q
  split at q
  · rename_i dd cd sl ho
    split at q
    · rename_i C' bm k0 k1 k2 k3 n k5 hm hs
      simp only [Bool.and_eq_true, beq_iff_eq, Bool.not_eq_true'] at q
      obtain ⟨rfl, rfl, hdel, hdic, ht⟩ := q
      obtain ⟨nm, bs, mro, ns, qn, hd, sn, sub, ab, col, del⟩ := cd
      dsimp only at hm hdel hdic
      subst hm hdel hdic
      have hsl : sl = #[k0, k1, k2, k3, some (.builtin "ValueError.__new__"), k5] := by
        obtain ⟨l⟩ := sl
        simp only at hs
        rw [hs]
      subst hsl
      exact ⟨nm, qn, ns, bs, bm, sn, sub, ab, col, dd, k0, k1, k2, k3, k5, ho, ht⟩
    · cases q
  · cases q
/-- the addresses of classes, tuples and tables, by names -/
abbrev ad (K : PySem.W.Frag) (x : Str) : Addr := He.ga K x
/-! ### the facts -/
structure Txt (w : World) (K : PySem.W.Frag) (mg : Str → Option Value) : Prop where
  z_len : mg "len" = none
  z_all : mg "all" = none
  z_isinstance : mg "isinstance" = none
  z_sorted : mg "sorted" = none
  z_tuple : mg "tuple" = none
  z_list : mg "list" = none
  z_dict : mg "dict" = none
  z_range : mg "range" = none
  z_enumerate : mg "enumerate" = none
  z_max : mg "max" = none
  z_min : mg "min" = none
  z_int : mg "int" = none
  z_str : mg "str" = none
  z_bool : mg "bool" = none
  g_PRIME : ∃ t, mg "PRIME" = some (.int 1000003 t)
  g_MOST_LETTERS : ∃ t, mg "MOST_LETTERS" = some (.int 8 t)
  g_MOST_TIMES : ∃ t, mg "MOST_TIMES" = some (.int 7 t)
  g_MOST_BLOCKS : ∃ t, mg "MOST_BLOCKS" = some (.int 4 t)
  g_LETTERS : ∃ t, mg "LETTERS" = some (.str "abcdefghijklmnopqrstuvwxyz" t)
  g_NO_NAMES : mg "NO_NAMES" = some (.ref (ad K "NO_NAMES"))
  t_NO_NAMES : ∀ H : Hp, SqT K H (ad K "NO_NAMES") [.str "if", .str "fork", .str "each", .str "fold", .str "start", .str "await", .str "max", .str "min"]
  g_OPS : mg "OPS" = some (.ref (ad K "OPS"))
  t_OPS : ∀ H : Hp, SqT K H (ad K "OPS") [.str "+", .str "-", .str "*", .str "max", .str "min", .str "<", .str "="]
  g_ADD_OPS : mg "ADD_OPS" = some (.ref (ad K "ADD_OPS"))
  t_ADD_OPS : ∀ H : Hp, SqT K H (ad K "ADD_OPS") [.str "+", .str "*", .str "max", .str "min"]
  g_FOLD_OPS : mg "FOLD_OPS" = some (.ref (ad K "FOLD_OPS"))
  t_FOLD_OPS : ∀ H : Hp, SqT K H (ad K "FOLD_OPS") [.str "+", .str "-", .str "*", .str "max", .str "min"]
  g_SIZES : mg "SIZES" = some (.ref (ad K "SIZES"))
  d_SIZES : ∃ es n, KDict K w (ad K "SIZES") es n
  v_SIZES_set : ∃ u, PySem.W.nsIn K (ad K "SIZES") "set" = some (some u) ∧ RelV (.int 3) u
  v_SIZES_add : ∃ u, PySem.W.nsIn K (ad K "SIZES") "add" = some (some u) ∧ RelV (.int 4) u
  v_SIZES_if : ∃ u, PySem.W.nsIn K (ad K "SIZES") "if" = some (some u) ∧ RelV (.int 4) u
  v_SIZES_fork : ∃ u, PySem.W.nsIn K (ad K "SIZES") "fork" = some (some u) ∧ RelV (.int 2) u
  v_SIZES_each : ∃ u, PySem.W.nsIn K (ad K "SIZES") "each" = some (some u) ∧ RelV (.int 4) u
  v_SIZES_fold : ∃ u, PySem.W.nsIn K (ad K "SIZES") "fold" = some (some u) ∧ RelV (.int 6) u
  v_SIZES_start : ∃ u, PySem.W.nsIn K (ad K "SIZES") "start" = some (some u) ∧ RelV (.int 3) u
  v_SIZES_await : ∃ u, PySem.W.nsIn K (ad K "SIZES") "await" = some (some u) ∧ RelV (.int 2) u
  g_PARTS : mg "PARTS" = some (.ref (ad K "PARTS"))
  d_PARTS : ∃ es n, KDict K w (ad K "PARTS") es n
  v_PARTS_number : ∃ u, PySem.W.nsIn K (ad K "PARTS") "number" = some (some u) ∧ RelV (.int 2) u
  v_PARTS_word : ∃ u, PySem.W.nsIn K (ad K "PARTS") "word" = some (some u) ∧ RelV (.int 2) u
  v_PARTS_local : ∃ u, PySem.W.nsIn K (ad K "PARTS") "local" = some (some u) ∧ RelV (.int 2) u
  v_PARTS_do : ∃ u, PySem.W.nsIn K (ad K "PARTS") "do" = some (some u) ∧ RelV (.int 4) u
  g_Block : mg "Block" = some (.ref (ad K "Block"))
  c_Block : Cls K (ad K "Block")
  n_Block_statements : NoAttr K (ad K "Block") "statements"
  n_Block_env : NoAttr K (ad K "Block") "env"
  n_Block_hangs_on : NoAttr K (ad K "Block") "hangs_on"
  n_Block_around : NoAttr K (ad K "Block") "around"
  g_Unfolding : mg "Unfolding" = some (.ref (ad K "Unfolding"))
  c_Unfolding : Cls K (ad K "Unfolding")
  n_Unfolding_store : NoAttr K (ad K "Unfolding") "store"
  n_Unfolding_done : NoAttr K (ad K "Unfolding") "done"
  n_Unfolding_blocks : NoAttr K (ad K "Unfolding") "blocks"
  n_Unfolding_known : NoAttr K (ad K "Unfolding") "known"
  n_Unfolding_times : NoAttr K (ad K "Unfolding") "times"
  g_SerialRun : mg "SerialRun" = some (.ref (ad K "SerialRun"))
  c_SerialRun : Cls K (ad K "SerialRun")
  n_SerialRun_run : NoAttr K (ad K "SerialRun") "run"
  n_SerialRun_order : NoAttr K (ad K "SerialRun") "order"
  n_SerialRun_before : NoAttr K (ad K "SerialRun") "before"
  g_Undefined : mg "Undefined" = some (.ref (ad K "Undefined"))
  o_Undefined : OexC K (ad K "Undefined")
  n_Undefined : PySem.W.findIn K (.ref (ad K "Undefined")) "what" = some none
  x_Undefined : XfC K (ad K "Undefined")
  e_Undefined : PySem.W.exmOne K (.ref (ad K "Undefined")) (.ref (ad K "Undefined")) = some true
  f_Undefined_init : EF K (ad K "Undefined") "Undefined.__init__" s_Undefined_init ["self", "what"]
  f_is_integer : DF K mg "is_integer" s_is_integer ["value"]
  f_is_value : DF K mg "is_value" s_is_value ["value"]
  f_is_word : DF K mg "is_word" s_is_word ["value"]
  f_is_name : DF K mg "is_name" s_is_name ["value"]
  f_is_pair : DF K mg "is_pair" s_is_pair ["value"]
  f_is_words : DF K mg "is_words" s_is_words ["value"]
  f_need_words : DF K mg "need_words" s_need_words ["value"]
  f_operated : DF K mg "operated" s_operated ["op", "a", "b"]
  f_worked_out : DF K mg "worked_out" s_worked_out ["expression", "store", "env"]
  f_parts_of_fold : DF K mg "parts_of_fold" s_parts_of_fold ["low", "high"]
  f_Block_init : IF K (ad K "Block") "Block.__init__" s_Block_init ["self", "statements", "env", "hangs_on", "around"]
  f_Unfolding_init : IF K (ad K "Unfolding") "Unfolding.__init__" s_Unfolding_init ["self", "program", "words"]
  f_Unfolding_unfold : MF K (ad K "Unfolding") "unfold" "Unfolding.unfold" s_Unfolding_unfold ["self", "q", "block"]
  f_Unfolding_statement_of : MF K (ad K "Unfolding") "statement_of" "Unfolding.statement_of" s_Unfolding_statement_of ["self", "name"]
  f_Unfolding_env_of : MF K (ad K "Unfolding") "env_of" "Unfolding.env_of" s_Unfolding_env_of ["self", "name"]
  f_Unfolding_last_of : MF K (ad K "Unfolding") "last_of" "Unfolding.last_of" s_Unfolding_last_of ["self", "name"]
  f_Unfolding_last_in : MF K (ad K "Unfolding") "last_in" "Unfolding.last_in" s_Unfolding_last_in ["self", "q", "otherwise"]
  f_Unfolding_meant_start : MF K (ad K "Unfolding") "meant_start" "Unfolding.meant_start" s_Unfolding_meant_start ["self", "name"]
  f_Unfolding_ahead_of_statement : MF K (ad K "Unfolding") "ahead_of_statement" "Unfolding.ahead_of_statement" s_Unfolding_ahead_of_statement ["self", "name"]
  f_Unfolding_ahead_of_join : MF K (ad K "Unfolding") "ahead_of_join" "Unfolding.ahead_of_join" s_Unfolding_ahead_of_join ["self", "name"]
  f_Unfolding_part_of_fold : MF K (ad K "Unfolding") "part_of_fold" "Unfolding.part_of_fold" s_Unfolding_part_of_fold ["self", "name", "low", "high"]
  f_Unfolding_ahead_with_gaps : MF K (ad K "Unfolding") "ahead_with_gaps" "Unfolding.ahead_with_gaps" s_Unfolding_ahead_with_gaps ["self", "name"]
  f_Unfolding_ahead : MF K (ad K "Unfolding") "ahead" "Unfolding.ahead" s_Unfolding_ahead ["self", "name"]
  f_Unfolding_expression_of : MF K (ad K "Unfolding") "expression_of" "Unfolding.expression_of" s_Unfolding_expression_of ["self", "name"]
  f_Unfolding_result_by : MF K (ad K "Unfolding") "result_by" "Unfolding.result_by" s_Unfolding_result_by ["self", "name"]
  f_Unfolding_do : MF K (ad K "Unfolding") "do" "Unfolding.do" s_Unfolding_do ["self", "name"]
  f_Unfolding_go_on : MF K (ad K "Unfolding") "go_on" "Unfolding.go_on" s_Unfolding_go_on ["self", "name", "statement", "value"]
  f_Unfolding_go_on_with_fold : MF K (ad K "Unfolding") "go_on_with_fold" "Unfolding.go_on_with_fold" s_Unfolding_go_on_with_fold ["self", "name", "value"]
  f_Unfolding_words : MF K (ad K "Unfolding") "words" "Unfolding.words" s_Unfolding_words ["self"]
  f_SerialRun_init : IF K (ad K "SerialRun") "SerialRun.__init__" s_SerialRun_init ["self", "program", "words"]
  f_SerialRun_do : MF K (ad K "SerialRun") "do" "SerialRun.do" s_SerialRun_do ["self", "name"]
  f_SerialRun_do_block : MF K (ad K "SerialRun") "do_block" "SerialRun.do_block" s_SerialRun_do_block ["self", "q"]
  f_is_one_of : DF K mg "is_one_of" s_is_one_of ["value", "ops"]
  f_begins_with_word : DF K mg "begins_with_word" s_begins_with_word ["value"]
  f_is_expression : DF K mg "is_expression" s_is_expression ["value", "local_names"]
  f_is_set : DF K mg "is_set" s_is_set ["value", "local_names"]
  f_is_statement : DF K mg "is_statement" s_is_statement ["value", "local_names", "tickets"]
  f_is_block : DF K mg "is_block" s_is_block ["value", "local_names", "tickets"]
  f_is_program : DF K mg "is_program" s_is_program ["value"]
  f_need_program : DF K mg "need_program" s_need_program ["value"]
  f_serial_run : DF K mg "serial_run" s_serial_run ["program", "words"]
  f_run_with : DF K mg "run_with" s_run_with ["program", "words", "deed"]
  f_serial_deeds : DF K mg "serial_deeds" s_serial_deeds ["program", "words"]
  f_serial_end : DF K mg "serial_end" s_serial_end ["program", "words"]
  f_result_of : DF K mg "result_of" s_result_of ["program", "words", "deed"]
  f_law_draws : DF K mg "_law_draws" s_law_draws ["_law_script", "_law_k", "_law_bounds"]
  f_law_equal : DF K mg "_law_equal" s_law_equal ["_law_actual", "_law_expected"]
  f_law_pool : DF K mg "_law_pool" s_law_pool ["_law_script", "_law_k", "_law_size"]
  f_law_stream : DF K mg "_law_stream" s_law_stream ["_law_script", "_law_k", "_law_cells"]
  f_law_expression : DF K mg "_law_expression" s_law_expression ["_law_stream_here", "_law_at", "_law_pool_here", "_law_locals_here", "_law_deep"]
  f_law_statement : DF K mg "_law_statement" s_law_statement ["_law_stream_here", "_law_at", "_law_pool_here", "_law_locals_here", "_law_tickets", "_law_deep"]
  f_law_block : DF K mg "_law_block" s_law_block ["_law_stream_here", "_law_at", "_law_pool_here", "_law_locals_here", "_law_tickets", "_law_deep"]
  f_law_turns : DF K mg "_law_turns" s_law_turns ["_law_expression_here"]
  f_law_most : DF K mg "_law_most" s_law_most ["_law_block_here"]
  f_law_program : DF K mg "_law_program" s_law_program ["_law_script", "_law_k", "_law_pool_here", "_law_most_here"]
  f_law_words : DF K mg "_law_words" s_law_words ["_law_script", "_law_k", "_law_pool_here"]
  f_law_operated : DF K mg "_law_operated" s_law_operated ["_law_op", "_law_a", "_law_b"]
  f_law_value : DF K mg "_law_value" s_law_value ["_law_expression_here", "_law_words_here", "_law_local_values"]
  f_law_read_words : DF K mg "_law_read_words" s_law_read_words ["_law_expression_here"]
  f_law_once : DF K mg "_law_once" s_law_once ["_law_row"]
  f_law_deed : DF K mg "_law_deed" s_law_deed ["_law_deeds", "_law_name", "_law_kind", "_law_reads", "_law_sets", "_law_joins", "_law_result", "_law_behind"]
  f_law_fold_run : DF K mg "_law_fold_run" s_law_fold_run ["_law_deeds", "_law_statement_here", "_law_name", "_law_first", "_law_low", "_law_high", "_law_words_here", "_law_local_values"]
  f_law_blocks_run : DF K mg "_law_blocks_run" s_law_blocks_run ["_law_deeds", "_law_blocks", "_law_name", "_law_first", "_law_words_here", "_law_local_rows", "_law_ends"]
  f_law_statement_run : DF K mg "_law_statement_run" s_law_statement_run ["_law_deeds", "_law_statement_here", "_law_name", "_law_last", "_law_words_here", "_law_local_values", "_law_ends"]
  f_law_block_run : DF K mg "_law_block_run" s_law_block_run ["_law_deeds", "_law_block_here", "_law_name", "_law_last", "_law_words_here", "_law_local_values", "_law_ends"]
  f_law_run : DF K mg "_law_run" s_law_run ["_law_program_here", "_law_words_here"]
  f_law_is_undefined : DF K mg "_law_is_undefined" s_law_is_undefined ["_law_program_here", "_law_words_here", "_law_deed_here"]
  f_law_is_right : DF K mg "_law_is_right" s_law_is_right ["_law_program_here", "_law_words_here"]
  f_law : DF K mg "law" s_law ["_law_script"]
/-! ### the head: facts by names, the run -/
def d_Undefined_init : He.DefD := ⟨("Undefined", some "__init__"), "__init__", "Undefined.__init__", defArgs s_Undefined_init, defBody s_Undefined_init, defScope s_Undefined_init, [], []⟩
def d_is_integer : He.DefD := ⟨("is_integer", none), "is_integer", "is_integer", defArgs s_is_integer, defBody s_is_integer, defScope s_is_integer, [], []⟩
def d_is_value : He.DefD := ⟨("is_value", none), "is_value", "is_value", defArgs s_is_value, defBody s_is_value, defScope s_is_value, [], []⟩
def d_is_word : He.DefD := ⟨("is_word", none), "is_word", "is_word", defArgs s_is_word, defBody s_is_word, defScope s_is_word, [], []⟩
def d_is_name : He.DefD := ⟨("is_name", none), "is_name", "is_name", defArgs s_is_name, defBody s_is_name, defScope s_is_name, [], []⟩
def d_is_pair : He.DefD := ⟨("is_pair", none), "is_pair", "is_pair", defArgs s_is_pair, defBody s_is_pair, defScope s_is_pair, [], []⟩
def d_is_words : He.DefD := ⟨("is_words", none), "is_words", "is_words", defArgs s_is_words, defBody s_is_words, defScope s_is_words, [], []⟩
def d_need_words : He.DefD := ⟨("need_words", none), "need_words", "need_words", defArgs s_need_words, defBody s_need_words, defScope s_need_words, [], []⟩
def d_operated : He.DefD := ⟨("operated", none), "operated", "operated", defArgs s_operated, defBody s_operated, defScope s_operated, [], []⟩
def d_worked_out : He.DefD := ⟨("worked_out", none), "worked_out", "worked_out", defArgs s_worked_out, defBody s_worked_out, defScope s_worked_out, [], []⟩
def d_parts_of_fold : He.DefD := ⟨("parts_of_fold", none), "parts_of_fold", "parts_of_fold", defArgs s_parts_of_fold, defBody s_parts_of_fold, defScope s_parts_of_fold, [], []⟩
def d_Block_init : He.DefD := ⟨("Block", some "__init__"), "__init__", "Block.__init__", defArgs s_Block_init, defBody s_Block_init, defScope s_Block_init, [], []⟩
def d_Unfolding_init : He.DefD := ⟨("Unfolding", some "__init__"), "__init__", "Unfolding.__init__", defArgs s_Unfolding_init, defBody s_Unfolding_init, defScope s_Unfolding_init, [], []⟩
def d_Unfolding_unfold : He.DefD := ⟨("Unfolding", some "unfold"), "unfold", "Unfolding.unfold", defArgs s_Unfolding_unfold, defBody s_Unfolding_unfold, defScope s_Unfolding_unfold, [], []⟩
def d_Unfolding_statement_of : He.DefD := ⟨("Unfolding", some "statement_of"), "statement_of", "Unfolding.statement_of", defArgs s_Unfolding_statement_of, defBody s_Unfolding_statement_of, defScope s_Unfolding_statement_of, [], []⟩
def d_Unfolding_env_of : He.DefD := ⟨("Unfolding", some "env_of"), "env_of", "Unfolding.env_of", defArgs s_Unfolding_env_of, defBody s_Unfolding_env_of, defScope s_Unfolding_env_of, [], []⟩
def d_Unfolding_last_of : He.DefD := ⟨("Unfolding", some "last_of"), "last_of", "Unfolding.last_of", defArgs s_Unfolding_last_of, defBody s_Unfolding_last_of, defScope s_Unfolding_last_of, [], []⟩
def d_Unfolding_last_in : He.DefD := ⟨("Unfolding", some "last_in"), "last_in", "Unfolding.last_in", defArgs s_Unfolding_last_in, defBody s_Unfolding_last_in, defScope s_Unfolding_last_in, [], []⟩
def d_Unfolding_meant_start : He.DefD := ⟨("Unfolding", some "meant_start"), "meant_start", "Unfolding.meant_start", defArgs s_Unfolding_meant_start, defBody s_Unfolding_meant_start, defScope s_Unfolding_meant_start, [], []⟩
def d_Unfolding_ahead_of_statement : He.DefD := ⟨("Unfolding", some "ahead_of_statement"), "ahead_of_statement", "Unfolding.ahead_of_statement", defArgs s_Unfolding_ahead_of_statement, defBody s_Unfolding_ahead_of_statement, defScope s_Unfolding_ahead_of_statement, [], []⟩
def d_Unfolding_ahead_of_join : He.DefD := ⟨("Unfolding", some "ahead_of_join"), "ahead_of_join", "Unfolding.ahead_of_join", defArgs s_Unfolding_ahead_of_join, defBody s_Unfolding_ahead_of_join, defScope s_Unfolding_ahead_of_join, [], []⟩
def d_Unfolding_part_of_fold : He.DefD := ⟨("Unfolding", some "part_of_fold"), "part_of_fold", "Unfolding.part_of_fold", defArgs s_Unfolding_part_of_fold, defBody s_Unfolding_part_of_fold, defScope s_Unfolding_part_of_fold, [], []⟩
def d_Unfolding_ahead_with_gaps : He.DefD := ⟨("Unfolding", some "ahead_with_gaps"), "ahead_with_gaps", "Unfolding.ahead_with_gaps", defArgs s_Unfolding_ahead_with_gaps, defBody s_Unfolding_ahead_with_gaps, defScope s_Unfolding_ahead_with_gaps, [], []⟩
def d_Unfolding_ahead : He.DefD := ⟨("Unfolding", some "ahead"), "ahead", "Unfolding.ahead", defArgs s_Unfolding_ahead, defBody s_Unfolding_ahead, defScope s_Unfolding_ahead, [], []⟩
def d_Unfolding_expression_of : He.DefD := ⟨("Unfolding", some "expression_of"), "expression_of", "Unfolding.expression_of", defArgs s_Unfolding_expression_of, defBody s_Unfolding_expression_of, defScope s_Unfolding_expression_of, [], []⟩
def d_Unfolding_result_by : He.DefD := ⟨("Unfolding", some "result_by"), "result_by", "Unfolding.result_by", defArgs s_Unfolding_result_by, defBody s_Unfolding_result_by, defScope s_Unfolding_result_by, [], []⟩
def d_Unfolding_do : He.DefD := ⟨("Unfolding", some "do"), "do", "Unfolding.do", defArgs s_Unfolding_do, defBody s_Unfolding_do, defScope s_Unfolding_do, [], []⟩
def d_Unfolding_go_on : He.DefD := ⟨("Unfolding", some "go_on"), "go_on", "Unfolding.go_on", defArgs s_Unfolding_go_on, defBody s_Unfolding_go_on, defScope s_Unfolding_go_on, [], []⟩
def d_Unfolding_go_on_with_fold : He.DefD := ⟨("Unfolding", some "go_on_with_fold"), "go_on_with_fold", "Unfolding.go_on_with_fold", defArgs s_Unfolding_go_on_with_fold, defBody s_Unfolding_go_on_with_fold, defScope s_Unfolding_go_on_with_fold, [], []⟩
def d_Unfolding_words : He.DefD := ⟨("Unfolding", some "words"), "words", "Unfolding.words", defArgs s_Unfolding_words, defBody s_Unfolding_words, defScope s_Unfolding_words, [], []⟩
def d_SerialRun_init : He.DefD := ⟨("SerialRun", some "__init__"), "__init__", "SerialRun.__init__", defArgs s_SerialRun_init, defBody s_SerialRun_init, defScope s_SerialRun_init, [], []⟩
def d_SerialRun_do : He.DefD := ⟨("SerialRun", some "do"), "do", "SerialRun.do", defArgs s_SerialRun_do, defBody s_SerialRun_do, defScope s_SerialRun_do, [], []⟩
def d_SerialRun_do_block : He.DefD := ⟨("SerialRun", some "do_block"), "do_block", "SerialRun.do_block", defArgs s_SerialRun_do_block, defBody s_SerialRun_do_block, defScope s_SerialRun_do_block, [], []⟩
def d_is_one_of : He.DefD := ⟨("is_one_of", none), "is_one_of", "is_one_of", defArgs s_is_one_of, defBody s_is_one_of, defScope s_is_one_of, [], []⟩
def d_begins_with_word : He.DefD := ⟨("begins_with_word", none), "begins_with_word", "begins_with_word", defArgs s_begins_with_word, defBody s_begins_with_word, defScope s_begins_with_word, [], []⟩
def d_is_expression : He.DefD := ⟨("is_expression", none), "is_expression", "is_expression", defArgs s_is_expression, defBody s_is_expression, defScope s_is_expression, [], []⟩
def d_is_set : He.DefD := ⟨("is_set", none), "is_set", "is_set", defArgs s_is_set, defBody s_is_set, defScope s_is_set, [], []⟩
def d_is_statement : He.DefD := ⟨("is_statement", none), "is_statement", "is_statement", defArgs s_is_statement, defBody s_is_statement, defScope s_is_statement, [], []⟩
def d_is_block : He.DefD := ⟨("is_block", none), "is_block", "is_block", defArgs s_is_block, defBody s_is_block, defScope s_is_block, [], []⟩
def d_is_program : He.DefD := ⟨("is_program", none), "is_program", "is_program", defArgs s_is_program, defBody s_is_program, defScope s_is_program, [], []⟩
def d_need_program : He.DefD := ⟨("need_program", none), "need_program", "need_program", defArgs s_need_program, defBody s_need_program, defScope s_need_program, [], []⟩
def d_serial_run : He.DefD := ⟨("serial_run", none), "serial_run", "serial_run", defArgs s_serial_run, defBody s_serial_run, defScope s_serial_run, [], []⟩
def d_run_with : He.DefD := ⟨("run_with", none), "run_with", "run_with", defArgs s_run_with, defBody s_run_with, defScope s_run_with, [], []⟩
def d_serial_deeds : He.DefD := ⟨("serial_deeds", none), "serial_deeds", "serial_deeds", defArgs s_serial_deeds, defBody s_serial_deeds, defScope s_serial_deeds, [], []⟩
def d_serial_end : He.DefD := ⟨("serial_end", none), "serial_end", "serial_end", defArgs s_serial_end, defBody s_serial_end, defScope s_serial_end, [], []⟩
def d_result_of : He.DefD := ⟨("result_of", none), "result_of", "result_of", defArgs s_result_of, defBody s_result_of, defScope s_result_of, [], []⟩
def d_law_draws : He.DefD := ⟨("_law_draws", none), "_law_draws", "_law_draws", defArgs s_law_draws, defBody s_law_draws, defScope s_law_draws, [], []⟩
def d_law_equal : He.DefD := ⟨("_law_equal", none), "_law_equal", "_law_equal", defArgs s_law_equal, defBody s_law_equal, defScope s_law_equal, [], []⟩
def d_law_pool : He.DefD := ⟨("_law_pool", none), "_law_pool", "_law_pool", defArgs s_law_pool, defBody s_law_pool, defScope s_law_pool, [], []⟩
def d_law_stream : He.DefD := ⟨("_law_stream", none), "_law_stream", "_law_stream", defArgs s_law_stream, defBody s_law_stream, defScope s_law_stream, [], []⟩
def d_law_expression : He.DefD := ⟨("_law_expression", none), "_law_expression", "_law_expression", defArgs s_law_expression, defBody s_law_expression, defScope s_law_expression, [], []⟩
def d_law_statement : He.DefD := ⟨("_law_statement", none), "_law_statement", "_law_statement", defArgs s_law_statement, defBody s_law_statement, defScope s_law_statement, [], []⟩
def d_law_block : He.DefD := ⟨("_law_block", none), "_law_block", "_law_block", defArgs s_law_block, defBody s_law_block, defScope s_law_block, [], []⟩
def d_law_turns : He.DefD := ⟨("_law_turns", none), "_law_turns", "_law_turns", defArgs s_law_turns, defBody s_law_turns, defScope s_law_turns, [], []⟩
def d_law_most : He.DefD := ⟨("_law_most", none), "_law_most", "_law_most", defArgs s_law_most, defBody s_law_most, defScope s_law_most, [], []⟩
def d_law_program : He.DefD := ⟨("_law_program", none), "_law_program", "_law_program", defArgs s_law_program, defBody s_law_program, defScope s_law_program, [], []⟩
def d_law_words : He.DefD := ⟨("_law_words", none), "_law_words", "_law_words", defArgs s_law_words, defBody s_law_words, defScope s_law_words, [], []⟩
def d_law_operated : He.DefD := ⟨("_law_operated", none), "_law_operated", "_law_operated", defArgs s_law_operated, defBody s_law_operated, defScope s_law_operated, [], []⟩
def d_law_value : He.DefD := ⟨("_law_value", none), "_law_value", "_law_value", defArgs s_law_value, defBody s_law_value, defScope s_law_value, [], []⟩
def d_law_read_words : He.DefD := ⟨("_law_read_words", none), "_law_read_words", "_law_read_words", defArgs s_law_read_words, defBody s_law_read_words, defScope s_law_read_words, [], []⟩
def d_law_once : He.DefD := ⟨("_law_once", none), "_law_once", "_law_once", defArgs s_law_once, defBody s_law_once, defScope s_law_once, [], []⟩
def d_law_deed : He.DefD := ⟨("_law_deed", none), "_law_deed", "_law_deed", defArgs s_law_deed, defBody s_law_deed, defScope s_law_deed, [], []⟩
def d_law_fold_run : He.DefD := ⟨("_law_fold_run", none), "_law_fold_run", "_law_fold_run", defArgs s_law_fold_run, defBody s_law_fold_run, defScope s_law_fold_run, [], []⟩
def d_law_blocks_run : He.DefD := ⟨("_law_blocks_run", none), "_law_blocks_run", "_law_blocks_run", defArgs s_law_blocks_run, defBody s_law_blocks_run, defScope s_law_blocks_run, [], []⟩
def d_law_statement_run : He.DefD := ⟨("_law_statement_run", none), "_law_statement_run", "_law_statement_run", defArgs s_law_statement_run, defBody s_law_statement_run, defScope s_law_statement_run, [], []⟩
def d_law_block_run : He.DefD := ⟨("_law_block_run", none), "_law_block_run", "_law_block_run", defArgs s_law_block_run, defBody s_law_block_run, defScope s_law_block_run, [], []⟩
def d_law_run : He.DefD := ⟨("_law_run", none), "_law_run", "_law_run", defArgs s_law_run, defBody s_law_run, defScope s_law_run, [], []⟩
def d_law_is_undefined : He.DefD := ⟨("_law_is_undefined", none), "_law_is_undefined", "_law_is_undefined", defArgs s_law_is_undefined, defBody s_law_is_undefined, defScope s_law_is_undefined, [], []⟩
def d_law_is_right : He.DefD := ⟨("_law_is_right", none), "_law_is_right", "_law_is_right", defArgs s_law_is_right, defBody s_law_is_right, defScope s_law_is_right, [], []⟩
def d_law : He.DefD := ⟨("law", none), "law", "law", defArgs s_law, defBody s_law, defScope s_law, [], []⟩
def fn0 : List He.DefD := [d_Undefined_init, d_is_integer, d_is_value, d_is_word, d_is_name, d_is_pair, d_is_words, d_need_words, d_operated, d_worked_out, d_parts_of_fold, d_Block_init, d_Unfolding_init, d_Unfolding_unfold, d_Unfolding_statement_of]
def fn1 : List He.DefD := [d_Unfolding_env_of, d_Unfolding_last_of, d_Unfolding_last_in, d_Unfolding_meant_start, d_Unfolding_ahead_of_statement, d_Unfolding_ahead_of_join, d_Unfolding_part_of_fold, d_Unfolding_ahead_with_gaps, d_Unfolding_ahead, d_Unfolding_expression_of, d_Unfolding_result_by, d_Unfolding_do, d_Unfolding_go_on, d_Unfolding_go_on_with_fold, d_Unfolding_words]
def fn2 : List He.DefD := [d_SerialRun_init, d_SerialRun_do, d_SerialRun_do_block, d_is_one_of, d_begins_with_word, d_is_expression, d_is_set, d_is_statement, d_is_block, d_is_program, d_need_program, d_serial_run, d_run_with, d_serial_deeds, d_serial_end]
def fn3 : List He.DefD := [d_result_of, d_law_draws, d_law_equal, d_law_pool, d_law_stream, d_law_expression, d_law_statement, d_law_block, d_law_turns, d_law_most, d_law_program, d_law_words, d_law_operated, d_law_value, d_law_read_words]
def fn4 : List He.DefD := [d_law_once, d_law_deed, d_law_fold_run, d_law_blocks_run, d_law_statement_run, d_law_block_run, d_law_run, d_law_is_undefined, d_law_is_right, d_law]
def fn : List He.DefD := fn0 ++ (fn1 ++ (fn2 ++ (fn3 ++ (fn4))))
def fa0 : List He.Fa := [.free "len", .free "all", .free "isinstance", .free "sorted", .free "tuple", .free "list", .free "dict", .free "range", .free "enumerate", .free "max", .free "min", .free "int", .free "str", .free "bool", .int "PRIME" 1000003]
def fa1 : List He.Fa := [.int "MOST_LETTERS" 8, .int "MOST_TIMES" 7, .int "MOST_BLOCKS" 4, .str "LETTERS" "abcdefghijklmnopqrstuvwxyz", .glo "NO_NAMES", .glo "OPS", .glo "ADD_OPS", .glo "FOLD_OPS", .glo "SIZES", .glo "PARTS", .glo "Block", .glo "Unfolding", .glo "SerialRun", .glo "Undefined", .cls "Block"]
def fa2 : List He.Fa := [.mkr "Block", .noat "Block" "statements", .noat "Block" "env", .noat "Block" "hangs_on", .noat "Block" "around", .cls "Unfolding", .mkr "Unfolding", .noat "Unfolding" "store", .noat "Unfolding" "done", .noat "Unfolding" "blocks", .noat "Unfolding" "known", .noat "Unfolding" "times", .cls "SerialRun", .mkr "SerialRun", .noat "SerialRun" "run"]
def fa3 : List He.Fa := [.noat "SerialRun" "order", .noat "SerialRun" "before", .noat "Undefined" "what", .exm "Undefined" "Undefined" true, .glo "is_integer", .glo "is_value", .glo "is_word", .glo "is_name", .glo "is_pair", .glo "is_words", .glo "need_words", .glo "operated", .glo "worked_out", .glo "parts_of_fold", .meth "Unfolding" "unfold"]
def fa4 : List He.Fa := [.meth "Unfolding" "statement_of", .meth "Unfolding" "env_of", .meth "Unfolding" "last_of", .meth "Unfolding" "last_in", .meth "Unfolding" "meant_start", .meth "Unfolding" "ahead_of_statement", .meth "Unfolding" "ahead_of_join", .meth "Unfolding" "part_of_fold", .meth "Unfolding" "ahead_with_gaps", .meth "Unfolding" "ahead", .meth "Unfolding" "expression_of", .meth "Unfolding" "result_by", .meth "Unfolding" "do", .meth "Unfolding" "go_on", .meth "Unfolding" "go_on_with_fold"]
def fa5 : List He.Fa := [.meth "Unfolding" "words", .meth "SerialRun" "do", .meth "SerialRun" "do_block", .glo "is_one_of", .glo "begins_with_word", .glo "is_expression", .glo "is_set", .glo "is_statement", .glo "is_block", .glo "is_program", .glo "need_program", .glo "serial_run", .glo "run_with", .glo "serial_deeds", .glo "serial_end"]
def fa6 : List He.Fa := [.glo "result_of", .glo "_law_draws", .glo "_law_equal", .glo "_law_pool", .glo "_law_stream", .glo "_law_expression", .glo "_law_statement", .glo "_law_block", .glo "_law_turns", .glo "_law_most", .glo "_law_program", .glo "_law_words", .glo "_law_operated", .glo "_law_value", .glo "_law_read_words"]
def fa7 : List He.Fa := [.glo "_law_once", .glo "_law_deed", .glo "_law_fold_run", .glo "_law_blocks_run", .glo "_law_statement_run", .glo "_law_block_run", .glo "_law_run", .glo "_law_is_undefined", .glo "_law_is_right", .glo "law"]
def fa : List He.Fa := fa0 ++ (fa1 ++ (fa2 ++ (fa3 ++ (fa4 ++ (fa5 ++ (fa6 ++ (fa7)))))))
def ts : List He.Tab := [(fun K => ad K "SIZES", ["set", "add", "if", "fork", "each", "fold", "start", "await"]), (fun K => ad K "PARTS", ["number", "word", "local", "do"])]
def ex (K : PySem.W.Frag) : Bool := He.tupB K "NO_NAMES" [.str "if", .str "fork", .str "each", .str "fold", .str "start", .str "await", .str "max", .str "min"] && (He.tupB K "OPS" [.str "+", .str "-", .str "*", .str "max", .str "min", .str "<", .str "="] && (He.tupB K "ADD_OPS" [.str "+", .str "*", .str "max", .str "min"] && (He.tupB K "FOLD_OPS" [.str "+", .str "-", .str "*", .str "max", .str "min"] && (He.valsB K (ad K "SIZES") [("set", .int 3), ("add", .int 4), ("if", .int 4), ("fork", .int 2), ("each", .int 4), ("fold", .int 6), ("start", .int 3), ("await", .int 2)] && (He.valsB K (ad K "PARTS") [("number", .int 2), ("word", .int 2), ("local", .int 2), ("do", .int 4)] && (oexB K (ad K "Undefined") && (decide (PySem.W.findIn K (.ref (ad K "Undefined")) "__setattr__" = some (some (.builtin "object.__setattr__"))) && (decide (PySem.W.subIn K (.ref (ad K "Undefined")) (.type "BaseException") = some true) && (decide (PySem.W.typeIn K (.ref (ad K "Undefined")) = some (.type "type")) && (PySem.W.keepIn K (.ref (ad K "Undefined")) && (xfB K (ad K "Undefined") && (decide (PySem.W.findIn K (.ref (ad K "Undefined")) "__init__" = some (some (.ref (He.ma K (ad K "Undefined") "__init__")))) && (decide (PySem.W.typeIn K (.ref (He.ma K (ad K "Undefined") "__init__")) = some (.type "function")))))))))))))))
abbrev R : PySem.W.OpenRow := PySem.W.OpenLaw.row PySem.Challenge.rw_forkspan_k11_whole_serial_runs
abbrev hk : PySem.W.Hook := He.hookX 4 fa fn ts [] ex
def ob (s : PySem.W.SharedT) : He.AlX := He.obsX 4 fa fn ts [] ex (HandSHeadRun.getT s)
theorem ob_eq (s : PySem.W.SharedT) : ob s = hk.obs s.abs := He.obsX_eq (HandSHeadRun.getT_eq s)
def nm0 : List Str := ["_wall", "SpanError", "InvalidProgram", "InvalidWords", "Undefined", "PRIME", "LETTERS", "MOST_LETTERS", "NO_NAMES", "is_integer", "is_value", "is_word", "is_name", "is_pair", "is_words", "need_words", "operated", "MOST_TIMES", "worked_out", "parts_of_fold", "Block", "Unfolding", "SerialRun", "OPS", "ADD_OPS"]
def nm1 : List Str := ["FOLD_OPS", "MOST_BLOCKS", "SIZES", "PARTS", "is_one_of", "begins_with_word", "is_expression", "is_set", "is_statement", "is_block", "is_program", "need_program", "serial_run", "run_with", "serial_deeds", "serial_end", "result_of", "_law_draws", "_law_equal", "_law_pool", "_law_stream", "_law_expression", "_law_statement", "_law_block", "_law_turns"]
def nm2 : List Str := ["_law_most", "_law_program", "_law_words", "_law_operated", "_law_value", "_law_read_words", "_law_once", "_law_deed", "_law_fold_run", "_law_blocks_run", "_law_statement_run", "_law_block_run", "_law_run", "_law_is_undefined", "_law_is_right"]
def names : List Str := nm0 ++ (nm1 ++ (nm2))
theorem mem_ex {a b : Bool} (h : (a && b) = true) : a = true ∧ b = true := Bool.and_eq_true_iff.mp h
theorem txt_of {w : World} {K : PySem.W.Frag} {h : Heap} {mg : Str → Option Value} (X : K.In h) (G : h.Ns mainGlobals mg) (S : He.SaysX fa fn ts [] ex w h K) : Txt w K mg := by
  have T := S.t
  have c := T.d
  have x0 := S.more
  unfold ex at x0
  obtain ⟨e0, x1⟩ := mem_ex x0
  obtain ⟨e1, x2⟩ := mem_ex x1
  obtain ⟨e2, x3⟩ := mem_ex x2
  obtain ⟨e3, x4⟩ := mem_ex x3
  obtain ⟨e4, x5⟩ := mem_ex x4
  obtain ⟨e5, x6⟩ := mem_ex x5
  obtain ⟨e6, x7⟩ := mem_ex x6
  obtain ⟨e7, x8⟩ := mem_ex x7
  obtain ⟨e8, x9⟩ := mem_ex x8
  obtain ⟨e9, x10⟩ := mem_ex x9
  obtain ⟨e10, x11⟩ := mem_ex x10
  obtain ⟨e11, x12⟩ := mem_ex x11
  obtain ⟨e12, x13⟩ := mem_ex x12
  exact {
    z_len := He.free_ok X G (c.fact 0 (f := .free "len") rfl)
    z_all := He.free_ok X G (c.fact 1 (f := .free "all") rfl)
    z_isinstance := He.free_ok X G (c.fact 2 (f := .free "isinstance") rfl)
    z_sorted := He.free_ok X G (c.fact 3 (f := .free "sorted") rfl)
    z_tuple := He.free_ok X G (c.fact 4 (f := .free "tuple") rfl)
    z_list := He.free_ok X G (c.fact 5 (f := .free "list") rfl)
    z_dict := He.free_ok X G (c.fact 6 (f := .free "dict") rfl)
    z_range := He.free_ok X G (c.fact 7 (f := .free "range") rfl)
    z_enumerate := He.free_ok X G (c.fact 8 (f := .free "enumerate") rfl)
    z_max := He.free_ok X G (c.fact 9 (f := .free "max") rfl)
    z_min := He.free_ok X G (c.fact 10 (f := .free "min") rfl)
    z_int := He.free_ok X G (c.fact 11 (f := .free "int") rfl)
    z_str := He.free_ok X G (c.fact 12 (f := .free "str") rfl)
    z_bool := He.free_ok X G (c.fact 13 (f := .free "bool") rfl)
    g_PRIME := He.int_ok X G (c.fact 14 (f := .int "PRIME" 1000003) rfl)
    g_MOST_LETTERS := He.int_ok X G (c.fact 15 (f := .int "MOST_LETTERS" 8) rfl)
    g_MOST_TIMES := He.int_ok X G (c.fact 16 (f := .int "MOST_TIMES" 7) rfl)
    g_MOST_BLOCKS := He.int_ok X G (c.fact 17 (f := .int "MOST_BLOCKS" 4) rfl)
    g_LETTERS := He.str_ok X G (c.fact 18 (f := .str "LETTERS" "abcdefghijklmnopqrstuvwxyz") rfl)
    g_NO_NAMES := He.glo_ok X G (c.fact 19 (f := .glo "NO_NAMES") rfl)
    t_NO_NAMES := fun H => He.tupB_ok e0 H
    g_OPS := He.glo_ok X G (c.fact 20 (f := .glo "OPS") rfl)
    t_OPS := fun H => He.tupB_ok e1 H
    g_ADD_OPS := He.glo_ok X G (c.fact 21 (f := .glo "ADD_OPS") rfl)
    t_ADD_OPS := fun H => He.tupB_ok e2 H
    g_FOLD_OPS := He.glo_ok X G (c.fact 22 (f := .glo "FOLD_OPS") rfl)
    t_FOLD_OPS := fun H => He.tupB_ok e3 H
    g_SIZES := He.glo_ok X G (c.fact 23 (f := .glo "SIZES") rfl)
    d_SIZES := T.tab 0 rfl
    v_SIZES_set := He.valsB_ok e4 (q := ("set", .int 3)) (List.mem_of_getElem? (i := 0) rfl)
    v_SIZES_add := He.valsB_ok e4 (q := ("add", .int 4)) (List.mem_of_getElem? (i := 1) rfl)
    v_SIZES_if := He.valsB_ok e4 (q := ("if", .int 4)) (List.mem_of_getElem? (i := 2) rfl)
    v_SIZES_fork := He.valsB_ok e4 (q := ("fork", .int 2)) (List.mem_of_getElem? (i := 3) rfl)
    v_SIZES_each := He.valsB_ok e4 (q := ("each", .int 4)) (List.mem_of_getElem? (i := 4) rfl)
    v_SIZES_fold := He.valsB_ok e4 (q := ("fold", .int 6)) (List.mem_of_getElem? (i := 5) rfl)
    v_SIZES_start := He.valsB_ok e4 (q := ("start", .int 3)) (List.mem_of_getElem? (i := 6) rfl)
    v_SIZES_await := He.valsB_ok e4 (q := ("await", .int 2)) (List.mem_of_getElem? (i := 7) rfl)
    g_PARTS := He.glo_ok X G (c.fact 24 (f := .glo "PARTS") rfl)
    d_PARTS := T.tab 1 rfl
    v_PARTS_number := He.valsB_ok e5 (q := ("number", .int 2)) (List.mem_of_getElem? (i := 0) rfl)
    v_PARTS_word := He.valsB_ok e5 (q := ("word", .int 2)) (List.mem_of_getElem? (i := 1) rfl)
    v_PARTS_local := He.valsB_ok e5 (q := ("local", .int 2)) (List.mem_of_getElem? (i := 2) rfl)
    v_PARTS_do := He.valsB_ok e5 (q := ("do", .int 4)) (List.mem_of_getElem? (i := 3) rfl)
    g_Block := He.glo_ok X G (c.fact 25 (f := .glo "Block") rfl)
    c_Block := He.cls_ok (c.fact 29 (f := .cls "Block") rfl)
    n_Block_statements := He.noat_ok (c.fact 31 (f := .noat "Block" "statements") rfl)
    n_Block_env := He.noat_ok (c.fact 32 (f := .noat "Block" "env") rfl)
    n_Block_hangs_on := He.noat_ok (c.fact 33 (f := .noat "Block" "hangs_on") rfl)
    n_Block_around := He.noat_ok (c.fact 34 (f := .noat "Block" "around") rfl)
    g_Unfolding := He.glo_ok X G (c.fact 26 (f := .glo "Unfolding") rfl)
    c_Unfolding := He.cls_ok (c.fact 35 (f := .cls "Unfolding") rfl)
    n_Unfolding_store := He.noat_ok (c.fact 37 (f := .noat "Unfolding" "store") rfl)
    n_Unfolding_done := He.noat_ok (c.fact 38 (f := .noat "Unfolding" "done") rfl)
    n_Unfolding_blocks := He.noat_ok (c.fact 39 (f := .noat "Unfolding" "blocks") rfl)
    n_Unfolding_known := He.noat_ok (c.fact 40 (f := .noat "Unfolding" "known") rfl)
    n_Unfolding_times := He.noat_ok (c.fact 41 (f := .noat "Unfolding" "times") rfl)
    g_SerialRun := He.glo_ok X G (c.fact 27 (f := .glo "SerialRun") rfl)
    c_SerialRun := He.cls_ok (c.fact 42 (f := .cls "SerialRun") rfl)
    n_SerialRun_run := He.noat_ok (c.fact 44 (f := .noat "SerialRun" "run") rfl)
    n_SerialRun_order := He.noat_ok (c.fact 45 (f := .noat "SerialRun" "order") rfl)
    n_SerialRun_before := He.noat_ok (c.fact 46 (f := .noat "SerialRun" "before") rfl)
    g_Undefined := He.glo_ok X G (c.fact 28 (f := .glo "Undefined") rfl)
    o_Undefined := ⟨oexB_ok e6, of_decide_eq_true e7, of_decide_eq_true e8, of_decide_eq_true e9, e10⟩
    n_Undefined := He.noat_ok (c.fact 47 (f := .noat "Undefined" "what") rfl)
    x_Undefined := xfB_ok e11
    e_Undefined := He.exm_ok (c.fact 48 (f := .exm "Undefined" "Undefined" true) rfl)
    f_Undefined_init := by
      obtain ⟨fd, F⟩ := c.def_ 0 (d := d_Undefined_init) rfl
      exact ⟨_, fd, of_decide_eq_true e12, of_decide_eq_true x13, F, F.bindsN (ps := ["self", "what"]) fun _ _ _ _ _ _ us hl => match us, hl with | [_, _], _ => rfl⟩
    f_is_integer := by
      obtain ⟨fd, F⟩ := c.def_ 1 (d := d_is_integer) rfl
      exact ⟨_, fd, F, He.glo_ok X G (c.fact 49 (f := .glo "is_integer") rfl), F.bindsN (ps := ["value"]) fun _ _ _ _ _ _ us hl => match us, hl with | [_], _ => rfl⟩
    f_is_value := by
      obtain ⟨fd, F⟩ := c.def_ 2 (d := d_is_value) rfl
      exact ⟨_, fd, F, He.glo_ok X G (c.fact 50 (f := .glo "is_value") rfl), F.bindsN (ps := ["value"]) fun _ _ _ _ _ _ us hl => match us, hl with | [_], _ => rfl⟩
    f_is_word := by
      obtain ⟨fd, F⟩ := c.def_ 3 (d := d_is_word) rfl
      exact ⟨_, fd, F, He.glo_ok X G (c.fact 51 (f := .glo "is_word") rfl), F.bindsN (ps := ["value"]) fun _ _ _ _ _ _ us hl => match us, hl with | [_], _ => rfl⟩
    f_is_name := by
      obtain ⟨fd, F⟩ := c.def_ 4 (d := d_is_name) rfl
      exact ⟨_, fd, F, He.glo_ok X G (c.fact 52 (f := .glo "is_name") rfl), F.bindsN (ps := ["value"]) fun _ _ _ _ _ _ us hl => match us, hl with | [_], _ => rfl⟩
    f_is_pair := by
      obtain ⟨fd, F⟩ := c.def_ 5 (d := d_is_pair) rfl
      exact ⟨_, fd, F, He.glo_ok X G (c.fact 53 (f := .glo "is_pair") rfl), F.bindsN (ps := ["value"]) fun _ _ _ _ _ _ us hl => match us, hl with | [_], _ => rfl⟩
    f_is_words := by
      obtain ⟨fd, F⟩ := c.def_ 6 (d := d_is_words) rfl
      exact ⟨_, fd, F, He.glo_ok X G (c.fact 54 (f := .glo "is_words") rfl), F.bindsN (ps := ["value"]) fun _ _ _ _ _ _ us hl => match us, hl with | [_], _ => rfl⟩
    f_need_words := by
      obtain ⟨fd, F⟩ := c.def_ 7 (d := d_need_words) rfl
      exact ⟨_, fd, F, He.glo_ok X G (c.fact 55 (f := .glo "need_words") rfl), F.bindsN (ps := ["value"]) fun _ _ _ _ _ _ us hl => match us, hl with | [_], _ => rfl⟩
    f_operated := by
      obtain ⟨fd, F⟩ := c.def_ 8 (d := d_operated) rfl
      exact ⟨_, fd, F, He.glo_ok X G (c.fact 56 (f := .glo "operated") rfl), F.bindsN (ps := ["op", "a", "b"]) fun _ _ _ _ _ _ us hl => match us, hl with | [_, _, _], _ => rfl⟩
    f_worked_out := by
      obtain ⟨fd, F⟩ := c.def_ 9 (d := d_worked_out) rfl
      exact ⟨_, fd, F, He.glo_ok X G (c.fact 57 (f := .glo "worked_out") rfl), F.bindsN (ps := ["expression", "store", "env"]) fun _ _ _ _ _ _ us hl => match us, hl with | [_, _, _], _ => rfl⟩
    f_parts_of_fold := by
      obtain ⟨fd, F⟩ := c.def_ 10 (d := d_parts_of_fold) rfl
      exact ⟨_, fd, F, He.glo_ok X G (c.fact 58 (f := .glo "parts_of_fold") rfl), F.bindsN (ps := ["low", "high"]) fun _ _ _ _ _ _ us hl => match us, hl with | [_, _], _ => rfl⟩
    f_Block_init := by
      obtain ⟨fd, F⟩ := c.def_ 11 (d := d_Block_init) rfl
      exact ⟨_, fd, He.mkr_ok (c.fact 30 (f := .mkr "Block") rfl), F, F.bindsN (ps := ["self", "statements", "env", "hangs_on", "around"]) fun _ _ _ _ _ _ us hl => match us, hl with | [_, _, _, _, _], _ => rfl⟩
    f_Unfolding_init := by
      obtain ⟨fd, F⟩ := c.def_ 12 (d := d_Unfolding_init) rfl
      exact ⟨_, fd, He.mkr_ok (c.fact 36 (f := .mkr "Unfolding") rfl), F, F.bindsN (ps := ["self", "program", "words"]) fun _ _ _ _ _ _ us hl => match us, hl with | [_, _, _], _ => rfl⟩
    f_Unfolding_unfold := by
      obtain ⟨fd, F⟩ := c.def_ 13 (d := d_Unfolding_unfold) rfl
      exact ⟨_, fd, He.meth_ok (c.fact 59 (f := .meth "Unfolding" "unfold") rfl), F, F.bindsN (ps := ["self", "q", "block"]) fun _ _ _ _ _ _ us hl => match us, hl with | [_, _, _], _ => rfl⟩
    f_Unfolding_statement_of := by
      obtain ⟨fd, F⟩ := c.def_ 14 (d := d_Unfolding_statement_of) rfl
      exact ⟨_, fd, He.meth_ok (c.fact 60 (f := .meth "Unfolding" "statement_of") rfl), F, F.bindsN (ps := ["self", "name"]) fun _ _ _ _ _ _ us hl => match us, hl with | [_, _], _ => rfl⟩
    f_Unfolding_env_of := by
      obtain ⟨fd, F⟩ := c.def_ 15 (d := d_Unfolding_env_of) rfl
      exact ⟨_, fd, He.meth_ok (c.fact 61 (f := .meth "Unfolding" "env_of") rfl), F, F.bindsN (ps := ["self", "name"]) fun _ _ _ _ _ _ us hl => match us, hl with | [_, _], _ => rfl⟩
    f_Unfolding_last_of := by
      obtain ⟨fd, F⟩ := c.def_ 16 (d := d_Unfolding_last_of) rfl
      exact ⟨_, fd, He.meth_ok (c.fact 62 (f := .meth "Unfolding" "last_of") rfl), F, F.bindsN (ps := ["self", "name"]) fun _ _ _ _ _ _ us hl => match us, hl with | [_, _], _ => rfl⟩
    f_Unfolding_last_in := by
      obtain ⟨fd, F⟩ := c.def_ 17 (d := d_Unfolding_last_in) rfl
      exact ⟨_, fd, He.meth_ok (c.fact 63 (f := .meth "Unfolding" "last_in") rfl), F, F.bindsN (ps := ["self", "q", "otherwise"]) fun _ _ _ _ _ _ us hl => match us, hl with | [_, _, _], _ => rfl⟩
    f_Unfolding_meant_start := by
      obtain ⟨fd, F⟩ := c.def_ 18 (d := d_Unfolding_meant_start) rfl
      exact ⟨_, fd, He.meth_ok (c.fact 64 (f := .meth "Unfolding" "meant_start") rfl), F, F.bindsN (ps := ["self", "name"]) fun _ _ _ _ _ _ us hl => match us, hl with | [_, _], _ => rfl⟩
    f_Unfolding_ahead_of_statement := by
      obtain ⟨fd, F⟩ := c.def_ 19 (d := d_Unfolding_ahead_of_statement) rfl
      exact ⟨_, fd, He.meth_ok (c.fact 65 (f := .meth "Unfolding" "ahead_of_statement") rfl), F, F.bindsN (ps := ["self", "name"]) fun _ _ _ _ _ _ us hl => match us, hl with | [_, _], _ => rfl⟩
    f_Unfolding_ahead_of_join := by
      obtain ⟨fd, F⟩ := c.def_ 20 (d := d_Unfolding_ahead_of_join) rfl
      exact ⟨_, fd, He.meth_ok (c.fact 66 (f := .meth "Unfolding" "ahead_of_join") rfl), F, F.bindsN (ps := ["self", "name"]) fun _ _ _ _ _ _ us hl => match us, hl with | [_, _], _ => rfl⟩
    f_Unfolding_part_of_fold := by
      obtain ⟨fd, F⟩ := c.def_ 21 (d := d_Unfolding_part_of_fold) rfl
      exact ⟨_, fd, He.meth_ok (c.fact 67 (f := .meth "Unfolding" "part_of_fold") rfl), F, F.bindsN (ps := ["self", "name", "low", "high"]) fun _ _ _ _ _ _ us hl => match us, hl with | [_, _, _, _], _ => rfl⟩
    f_Unfolding_ahead_with_gaps := by
      obtain ⟨fd, F⟩ := c.def_ 22 (d := d_Unfolding_ahead_with_gaps) rfl
      exact ⟨_, fd, He.meth_ok (c.fact 68 (f := .meth "Unfolding" "ahead_with_gaps") rfl), F, F.bindsN (ps := ["self", "name"]) fun _ _ _ _ _ _ us hl => match us, hl with | [_, _], _ => rfl⟩
    f_Unfolding_ahead := by
      obtain ⟨fd, F⟩ := c.def_ 23 (d := d_Unfolding_ahead) rfl
      exact ⟨_, fd, He.meth_ok (c.fact 69 (f := .meth "Unfolding" "ahead") rfl), F, F.bindsN (ps := ["self", "name"]) fun _ _ _ _ _ _ us hl => match us, hl with | [_, _], _ => rfl⟩
    f_Unfolding_expression_of := by
      obtain ⟨fd, F⟩ := c.def_ 24 (d := d_Unfolding_expression_of) rfl
      exact ⟨_, fd, He.meth_ok (c.fact 70 (f := .meth "Unfolding" "expression_of") rfl), F, F.bindsN (ps := ["self", "name"]) fun _ _ _ _ _ _ us hl => match us, hl with | [_, _], _ => rfl⟩
    f_Unfolding_result_by := by
      obtain ⟨fd, F⟩ := c.def_ 25 (d := d_Unfolding_result_by) rfl
      exact ⟨_, fd, He.meth_ok (c.fact 71 (f := .meth "Unfolding" "result_by") rfl), F, F.bindsN (ps := ["self", "name"]) fun _ _ _ _ _ _ us hl => match us, hl with | [_, _], _ => rfl⟩
    f_Unfolding_do := by
      obtain ⟨fd, F⟩ := c.def_ 26 (d := d_Unfolding_do) rfl
      exact ⟨_, fd, He.meth_ok (c.fact 72 (f := .meth "Unfolding" "do") rfl), F, F.bindsN (ps := ["self", "name"]) fun _ _ _ _ _ _ us hl => match us, hl with | [_, _], _ => rfl⟩
    f_Unfolding_go_on := by
      obtain ⟨fd, F⟩ := c.def_ 27 (d := d_Unfolding_go_on) rfl
      exact ⟨_, fd, He.meth_ok (c.fact 73 (f := .meth "Unfolding" "go_on") rfl), F, F.bindsN (ps := ["self", "name", "statement", "value"]) fun _ _ _ _ _ _ us hl => match us, hl with | [_, _, _, _], _ => rfl⟩
    f_Unfolding_go_on_with_fold := by
      obtain ⟨fd, F⟩ := c.def_ 28 (d := d_Unfolding_go_on_with_fold) rfl
      exact ⟨_, fd, He.meth_ok (c.fact 74 (f := .meth "Unfolding" "go_on_with_fold") rfl), F, F.bindsN (ps := ["self", "name", "value"]) fun _ _ _ _ _ _ us hl => match us, hl with | [_, _, _], _ => rfl⟩
    f_Unfolding_words := by
      obtain ⟨fd, F⟩ := c.def_ 29 (d := d_Unfolding_words) rfl
      exact ⟨_, fd, He.meth_ok (c.fact 75 (f := .meth "Unfolding" "words") rfl), F, F.bindsN (ps := ["self"]) fun _ _ _ _ _ _ us hl => match us, hl with | [_], _ => rfl⟩
    f_SerialRun_init := by
      obtain ⟨fd, F⟩ := c.def_ 30 (d := d_SerialRun_init) rfl
      exact ⟨_, fd, He.mkr_ok (c.fact 43 (f := .mkr "SerialRun") rfl), F, F.bindsN (ps := ["self", "program", "words"]) fun _ _ _ _ _ _ us hl => match us, hl with | [_, _, _], _ => rfl⟩
    f_SerialRun_do := by
      obtain ⟨fd, F⟩ := c.def_ 31 (d := d_SerialRun_do) rfl
      exact ⟨_, fd, He.meth_ok (c.fact 76 (f := .meth "SerialRun" "do") rfl), F, F.bindsN (ps := ["self", "name"]) fun _ _ _ _ _ _ us hl => match us, hl with | [_, _], _ => rfl⟩
    f_SerialRun_do_block := by
      obtain ⟨fd, F⟩ := c.def_ 32 (d := d_SerialRun_do_block) rfl
      exact ⟨_, fd, He.meth_ok (c.fact 77 (f := .meth "SerialRun" "do_block") rfl), F, F.bindsN (ps := ["self", "q"]) fun _ _ _ _ _ _ us hl => match us, hl with | [_, _], _ => rfl⟩
    f_is_one_of := by
      obtain ⟨fd, F⟩ := c.def_ 33 (d := d_is_one_of) rfl
      exact ⟨_, fd, F, He.glo_ok X G (c.fact 78 (f := .glo "is_one_of") rfl), F.bindsN (ps := ["value", "ops"]) fun _ _ _ _ _ _ us hl => match us, hl with | [_, _], _ => rfl⟩
    f_begins_with_word := by
      obtain ⟨fd, F⟩ := c.def_ 34 (d := d_begins_with_word) rfl
      exact ⟨_, fd, F, He.glo_ok X G (c.fact 79 (f := .glo "begins_with_word") rfl), F.bindsN (ps := ["value"]) fun _ _ _ _ _ _ us hl => match us, hl with | [_], _ => rfl⟩
    f_is_expression := by
      obtain ⟨fd, F⟩ := c.def_ 35 (d := d_is_expression) rfl
      exact ⟨_, fd, F, He.glo_ok X G (c.fact 80 (f := .glo "is_expression") rfl), F.bindsN (ps := ["value", "local_names"]) fun _ _ _ _ _ _ us hl => match us, hl with | [_, _], _ => rfl⟩
    f_is_set := by
      obtain ⟨fd, F⟩ := c.def_ 36 (d := d_is_set) rfl
      exact ⟨_, fd, F, He.glo_ok X G (c.fact 81 (f := .glo "is_set") rfl), F.bindsN (ps := ["value", "local_names"]) fun _ _ _ _ _ _ us hl => match us, hl with | [_, _], _ => rfl⟩
    f_is_statement := by
      obtain ⟨fd, F⟩ := c.def_ 37 (d := d_is_statement) rfl
      exact ⟨_, fd, F, He.glo_ok X G (c.fact 82 (f := .glo "is_statement") rfl), F.bindsN (ps := ["value", "local_names", "tickets"]) fun _ _ _ _ _ _ us hl => match us, hl with | [_, _, _], _ => rfl⟩
    f_is_block := by
      obtain ⟨fd, F⟩ := c.def_ 38 (d := d_is_block) rfl
      exact ⟨_, fd, F, He.glo_ok X G (c.fact 83 (f := .glo "is_block") rfl), F.bindsN (ps := ["value", "local_names", "tickets"]) fun _ _ _ _ _ _ us hl => match us, hl with | [_, _, _], _ => rfl⟩
    f_is_program := by
      obtain ⟨fd, F⟩ := c.def_ 39 (d := d_is_program) rfl
      exact ⟨_, fd, F, He.glo_ok X G (c.fact 84 (f := .glo "is_program") rfl), F.bindsN (ps := ["value"]) fun _ _ _ _ _ _ us hl => match us, hl with | [_], _ => rfl⟩
    f_need_program := by
      obtain ⟨fd, F⟩ := c.def_ 40 (d := d_need_program) rfl
      exact ⟨_, fd, F, He.glo_ok X G (c.fact 85 (f := .glo "need_program") rfl), F.bindsN (ps := ["value"]) fun _ _ _ _ _ _ us hl => match us, hl with | [_], _ => rfl⟩
    f_serial_run := by
      obtain ⟨fd, F⟩ := c.def_ 41 (d := d_serial_run) rfl
      exact ⟨_, fd, F, He.glo_ok X G (c.fact 86 (f := .glo "serial_run") rfl), F.bindsN (ps := ["program", "words"]) fun _ _ _ _ _ _ us hl => match us, hl with | [_, _], _ => rfl⟩
    f_run_with := by
      obtain ⟨fd, F⟩ := c.def_ 42 (d := d_run_with) rfl
      exact ⟨_, fd, F, He.glo_ok X G (c.fact 87 (f := .glo "run_with") rfl), F.bindsN (ps := ["program", "words", "deed"]) fun _ _ _ _ _ _ us hl => match us, hl with | [_, _, _], _ => rfl⟩
    f_serial_deeds := by
      obtain ⟨fd, F⟩ := c.def_ 43 (d := d_serial_deeds) rfl
      exact ⟨_, fd, F, He.glo_ok X G (c.fact 88 (f := .glo "serial_deeds") rfl), F.bindsN (ps := ["program", "words"]) fun _ _ _ _ _ _ us hl => match us, hl with | [_, _], _ => rfl⟩
    f_serial_end := by
      obtain ⟨fd, F⟩ := c.def_ 44 (d := d_serial_end) rfl
      exact ⟨_, fd, F, He.glo_ok X G (c.fact 89 (f := .glo "serial_end") rfl), F.bindsN (ps := ["program", "words"]) fun _ _ _ _ _ _ us hl => match us, hl with | [_, _], _ => rfl⟩
    f_result_of := by
      obtain ⟨fd, F⟩ := c.def_ 45 (d := d_result_of) rfl
      exact ⟨_, fd, F, He.glo_ok X G (c.fact 90 (f := .glo "result_of") rfl), F.bindsN (ps := ["program", "words", "deed"]) fun _ _ _ _ _ _ us hl => match us, hl with | [_, _, _], _ => rfl⟩
    f_law_draws := by
      obtain ⟨fd, F⟩ := c.def_ 46 (d := d_law_draws) rfl
      exact ⟨_, fd, F, He.glo_ok X G (c.fact 91 (f := .glo "_law_draws") rfl), F.bindsN (ps := ["_law_script", "_law_k", "_law_bounds"]) fun _ _ _ _ _ _ us hl => match us, hl with | [_, _, _], _ => rfl⟩
    f_law_equal := by
      obtain ⟨fd, F⟩ := c.def_ 47 (d := d_law_equal) rfl
      exact ⟨_, fd, F, He.glo_ok X G (c.fact 92 (f := .glo "_law_equal") rfl), F.bindsN (ps := ["_law_actual", "_law_expected"]) fun _ _ _ _ _ _ us hl => match us, hl with | [_, _], _ => rfl⟩
    f_law_pool := by
      obtain ⟨fd, F⟩ := c.def_ 48 (d := d_law_pool) rfl
      exact ⟨_, fd, F, He.glo_ok X G (c.fact 93 (f := .glo "_law_pool") rfl), F.bindsN (ps := ["_law_script", "_law_k", "_law_size"]) fun _ _ _ _ _ _ us hl => match us, hl with | [_, _, _], _ => rfl⟩
    f_law_stream := by
      obtain ⟨fd, F⟩ := c.def_ 49 (d := d_law_stream) rfl
      exact ⟨_, fd, F, He.glo_ok X G (c.fact 94 (f := .glo "_law_stream") rfl), F.bindsN (ps := ["_law_script", "_law_k", "_law_cells"]) fun _ _ _ _ _ _ us hl => match us, hl with | [_, _, _], _ => rfl⟩
    f_law_expression := by
      obtain ⟨fd, F⟩ := c.def_ 50 (d := d_law_expression) rfl
      exact ⟨_, fd, F, He.glo_ok X G (c.fact 95 (f := .glo "_law_expression") rfl), F.bindsN (ps := ["_law_stream_here", "_law_at", "_law_pool_here", "_law_locals_here", "_law_deep"]) fun _ _ _ _ _ _ us hl => match us, hl with | [_, _, _, _, _], _ => rfl⟩
    f_law_statement := by
      obtain ⟨fd, F⟩ := c.def_ 51 (d := d_law_statement) rfl
      exact ⟨_, fd, F, He.glo_ok X G (c.fact 96 (f := .glo "_law_statement") rfl), F.bindsN (ps := ["_law_stream_here", "_law_at", "_law_pool_here", "_law_locals_here", "_law_tickets", "_law_deep"]) fun _ _ _ _ _ _ us hl => match us, hl with | [_, _, _, _, _, _], _ => rfl⟩
    f_law_block := by
      obtain ⟨fd, F⟩ := c.def_ 52 (d := d_law_block) rfl
      exact ⟨_, fd, F, He.glo_ok X G (c.fact 97 (f := .glo "_law_block") rfl), F.bindsN (ps := ["_law_stream_here", "_law_at", "_law_pool_here", "_law_locals_here", "_law_tickets", "_law_deep"]) fun _ _ _ _ _ _ us hl => match us, hl with | [_, _, _, _, _, _], _ => rfl⟩
    f_law_turns := by
      obtain ⟨fd, F⟩ := c.def_ 53 (d := d_law_turns) rfl
      exact ⟨_, fd, F, He.glo_ok X G (c.fact 98 (f := .glo "_law_turns") rfl), F.bindsN (ps := ["_law_expression_here"]) fun _ _ _ _ _ _ us hl => match us, hl with | [_], _ => rfl⟩
    f_law_most := by
      obtain ⟨fd, F⟩ := c.def_ 54 (d := d_law_most) rfl
      exact ⟨_, fd, F, He.glo_ok X G (c.fact 99 (f := .glo "_law_most") rfl), F.bindsN (ps := ["_law_block_here"]) fun _ _ _ _ _ _ us hl => match us, hl with | [_], _ => rfl⟩
    f_law_program := by
      obtain ⟨fd, F⟩ := c.def_ 55 (d := d_law_program) rfl
      exact ⟨_, fd, F, He.glo_ok X G (c.fact 100 (f := .glo "_law_program") rfl), F.bindsN (ps := ["_law_script", "_law_k", "_law_pool_here", "_law_most_here"]) fun _ _ _ _ _ _ us hl => match us, hl with | [_, _, _, _], _ => rfl⟩
    f_law_words := by
      obtain ⟨fd, F⟩ := c.def_ 56 (d := d_law_words) rfl
      exact ⟨_, fd, F, He.glo_ok X G (c.fact 101 (f := .glo "_law_words") rfl), F.bindsN (ps := ["_law_script", "_law_k", "_law_pool_here"]) fun _ _ _ _ _ _ us hl => match us, hl with | [_, _, _], _ => rfl⟩
    f_law_operated := by
      obtain ⟨fd, F⟩ := c.def_ 57 (d := d_law_operated) rfl
      exact ⟨_, fd, F, He.glo_ok X G (c.fact 102 (f := .glo "_law_operated") rfl), F.bindsN (ps := ["_law_op", "_law_a", "_law_b"]) fun _ _ _ _ _ _ us hl => match us, hl with | [_, _, _], _ => rfl⟩
    f_law_value := by
      obtain ⟨fd, F⟩ := c.def_ 58 (d := d_law_value) rfl
      exact ⟨_, fd, F, He.glo_ok X G (c.fact 103 (f := .glo "_law_value") rfl), F.bindsN (ps := ["_law_expression_here", "_law_words_here", "_law_local_values"]) fun _ _ _ _ _ _ us hl => match us, hl with | [_, _, _], _ => rfl⟩
    f_law_read_words := by
      obtain ⟨fd, F⟩ := c.def_ 59 (d := d_law_read_words) rfl
      exact ⟨_, fd, F, He.glo_ok X G (c.fact 104 (f := .glo "_law_read_words") rfl), F.bindsN (ps := ["_law_expression_here"]) fun _ _ _ _ _ _ us hl => match us, hl with | [_], _ => rfl⟩
    f_law_once := by
      obtain ⟨fd, F⟩ := c.def_ 60 (d := d_law_once) rfl
      exact ⟨_, fd, F, He.glo_ok X G (c.fact 105 (f := .glo "_law_once") rfl), F.bindsN (ps := ["_law_row"]) fun _ _ _ _ _ _ us hl => match us, hl with | [_], _ => rfl⟩
    f_law_deed := by
      obtain ⟨fd, F⟩ := c.def_ 61 (d := d_law_deed) rfl
      exact ⟨_, fd, F, He.glo_ok X G (c.fact 106 (f := .glo "_law_deed") rfl), F.bindsN (ps := ["_law_deeds", "_law_name", "_law_kind", "_law_reads", "_law_sets", "_law_joins", "_law_result", "_law_behind"]) fun _ _ _ _ _ _ us hl => match us, hl with | [_, _, _, _, _, _, _, _], _ => rfl⟩
    f_law_fold_run := by
      obtain ⟨fd, F⟩ := c.def_ 62 (d := d_law_fold_run) rfl
      exact ⟨_, fd, F, He.glo_ok X G (c.fact 107 (f := .glo "_law_fold_run") rfl), F.bindsN (ps := ["_law_deeds", "_law_statement_here", "_law_name", "_law_first", "_law_low", "_law_high", "_law_words_here", "_law_local_values"]) fun _ _ _ _ _ _ us hl => match us, hl with | [_, _, _, _, _, _, _, _], _ => rfl⟩
    f_law_blocks_run := by
      obtain ⟨fd, F⟩ := c.def_ 63 (d := d_law_blocks_run) rfl
      exact ⟨_, fd, F, He.glo_ok X G (c.fact 108 (f := .glo "_law_blocks_run") rfl), F.bindsN (ps := ["_law_deeds", "_law_blocks", "_law_name", "_law_first", "_law_words_here", "_law_local_rows", "_law_ends"]) fun _ _ _ _ _ _ us hl => match us, hl with | [_, _, _, _, _, _, _], _ => rfl⟩
    f_law_statement_run := by
      obtain ⟨fd, F⟩ := c.def_ 64 (d := d_law_statement_run) rfl
      exact ⟨_, fd, F, He.glo_ok X G (c.fact 109 (f := .glo "_law_statement_run") rfl), F.bindsN (ps := ["_law_deeds", "_law_statement_here", "_law_name", "_law_last", "_law_words_here", "_law_local_values", "_law_ends"]) fun _ _ _ _ _ _ us hl => match us, hl with | [_, _, _, _, _, _, _], _ => rfl⟩
    f_law_block_run := by
      obtain ⟨fd, F⟩ := c.def_ 65 (d := d_law_block_run) rfl
      exact ⟨_, fd, F, He.glo_ok X G (c.fact 110 (f := .glo "_law_block_run") rfl), F.bindsN (ps := ["_law_deeds", "_law_block_here", "_law_name", "_law_last", "_law_words_here", "_law_local_values", "_law_ends"]) fun _ _ _ _ _ _ us hl => match us, hl with | [_, _, _, _, _, _, _], _ => rfl⟩
    f_law_run := by
      obtain ⟨fd, F⟩ := c.def_ 66 (d := d_law_run) rfl
      exact ⟨_, fd, F, He.glo_ok X G (c.fact 111 (f := .glo "_law_run") rfl), F.bindsN (ps := ["_law_program_here", "_law_words_here"]) fun _ _ _ _ _ _ us hl => match us, hl with | [_, _], _ => rfl⟩
    f_law_is_undefined := by
      obtain ⟨fd, F⟩ := c.def_ 67 (d := d_law_is_undefined) rfl
      exact ⟨_, fd, F, He.glo_ok X G (c.fact 112 (f := .glo "_law_is_undefined") rfl), F.bindsN (ps := ["_law_program_here", "_law_words_here", "_law_deed_here"]) fun _ _ _ _ _ _ us hl => match us, hl with | [_, _, _], _ => rfl⟩
    f_law_is_right := by
      obtain ⟨fd, F⟩ := c.def_ 68 (d := d_law_is_right) rfl
      exact ⟨_, fd, F, He.glo_ok X G (c.fact 113 (f := .glo "_law_is_right") rfl), F.bindsN (ps := ["_law_program_here", "_law_words_here"]) fun _ _ _ _ _ _ us hl => match us, hl with | [_, _], _ => rfl⟩
    f_law := by
      obtain ⟨fd, F⟩ := c.def_ 69 (d := d_law) rfl
      exact ⟨_, fd, F, He.glo_ok X G (c.fact 114 (f := .glo "law") rfl), F.bindsN (ps := ["_law_script"]) fun _ _ _ _ _ _ us hl => match us, hl with | [_], _ => rfl⟩
  }
end K11
set_option Elab.async false
set_option linter.all false
set_option maxRecDepth 100000
set_option maxHeartbeats 0
namespace K11
open PySem PySem.Spec PyProof.Rows L2
theorem run_f (w : World) : HandSHeadRun.RunEq R (PySem.W.view R.prog [72]) hk ob 9000 names (w.withFollow "special-get-raises" false) := by
  intro os
  kernel_rfl
theorem run_t (w : World) : HandSHeadRun.RunEq R (PySem.W.view R.prog [72]) hk ob 9000 names (w.withFollow "special-get-raises" true) := by
  intro os
  kernel_rfl
theorem run : ∀ w : World, HandSHeadRun.RunEq R (PySem.W.view R.prog [72]) hk ob 9000 names w :=
  PySem.W.byRow2 "special-get-raises" run_f run_t
end K11
set_option Elab.async false
set_option linter.all false
set_option maxRecDepth 100000
set_option maxHeartbeats 4000000
/-! rules that the hand layer lacks, first part -/
namespace K11
open PySem PySem.Spec PyProof.Rows L2
section
variable {X : Cx}
/-! ### f(k = v, ..), keywords alone -/
theorem pe_callKw {CX : CXT} {k : Nat} {f : Addr} {fd : FuncData} {ps ks : List Str} {sp : Sp} {E : XK} {x : Str} {p pos : Pos} {kws : List Keyword} {tk : TA} {g : List Value → List Value → List Value} {gV : List V → List V → List V}
    (F : FnOk X.prog X.w X.K X.mg X.base CX k f fd ps sp) (hr : Room k X.A) (hg : Gl X x) (hm : X.mg x = some (.ref f)) (hk : PySem.W.keepIn X.K (.ref f) = true) (hb : KBinds X.K fd ps ks g gV) (hx : Passes CX X E) (hkw : PK X kws tk)
    (hall : (backToKw pos (keywordEach kws X.env)).all (·.1.isSome) = true := by rfl) (hks : (backToKw pos (keywordEach kws X.env)).filterMap (·.1) = ks := by rfl) (hdb : (x == ("__debug__" : Str)) = false := by decide)
    (hpl : ((backTo pos (starEach [] X.env)).any (·.1) || (backToKw pos (keywordEach kws X.env)).any (·.1.isNone)) = false := by rfl) :
    PE X (.Call (.Name x p) [] kws pos) (fun σ H Q => tk σ H fun zs H1 => sp (gV [] zs) H1 Q E) := by
  refine ⟨fun pins s σ H Q I h => ?_⟩
  refine wpAny_Call_Name_kw (ld_glob I hg hm ?_ hdb)
  refine PySem.W.callWith_KW0 (first := []) (h₀ := X.base) I.ok.mod.kin hk hall ?_ hpl
  refine thn (hkw.run pos pins s σ H _ I h) fun ws s2 ⟨zs, H2, I2, rz, q2⟩ => ⟨I2.kIn, ?_⟩
  rw [hks]
  exact run_fnk (us := []) (vs := []) F hr hb hx I2 .nil rz q2
/-! ### a text, no times or once -/
theorem mulOk_bit {z : Str} {i : Int} (hi : i = 0 ∨ i = 1) (hz : z.length ≤ 1000) : MulOk z i := by
  rcases hi with rfl | rfl
  · exact ⟨by decide, fun h => absurd (by decide) h, fun h => absurd (by decide) h⟩
  · exact ⟨by decide, fun _ h => absurd h (by simp), fun _ h => absurd h (by simp)⟩
theorem op_mulBit : OpR X (binaryOp .Mult) (fun x y H Q => ∃ (z : Str) (i : Int), x = .str z ∧ y = .int i ∧ (i = 0 ∨ i = 1) ∧ z.length ≤ 1000 ∧ Q (.str (if i = 0 then Str.empty else z)) H) := by
  intro pins s σ H x y v u Q I rx ry h
  obtain ⟨z, i, rfl, rfl, hi, hz, q⟩ := h
  obtain ⟨t, rfl⟩ := rx
  obtain ⟨t', rfl⟩ := ry
  refine SB.mul (mulOk_bit hi hz) fun t2 k => ?_
  refine ⟨.str _, H, I.tok k, ⟨_, rfl⟩, ?_⟩
  rcases hi with rfl | rfl
  · exact q
  · exact q
/-! ### merging a dict into another: by the interpreter's own loop -/
section
variable {prog : Program} {w : World} {K : Type} [DecidableEq K] {knd : KeyKind prog w K} {A : Around} {E : Value → Shared → Prop} {s : Shared}
theorem put_pairs {d : Addr} {kvs : List (K × Value)} {k : K} {key v : Value} {Q : Unit → Shared → Prop} (hkey : knd.is k key = true) (hm : s.heap.DictOf knd d kvs) (hsz : kvs.length ≤ sizeLine)
    (hQ : ∀ h', h'.DictOf knd d (stored kvs k v) → Heap.SameBut d s.heap h' → Q () { s with heap := h' }) : wpAny (model prog w) A (dictPut d (knd.hash k) key v) Q E s := by
  obtain ⟨o, es, ep, ho, hc, hd, hk, hp, hn⟩ := hm
  have hes : es.size ≤ sizeLine := by
    have e1 := hp.length
    have e2 : es.toList.length = es.size := by simp
    omega
  have hx : (es.findIdx? fun e => knd.is k e.key) = kvs.findIdx? fun kv => decide (kv.1 = k) := by
    have q := hp.findIdx k
    obtain ⟨l⟩ := es
    simpa using q
  unfold dictPut
  refine wpAny_bind (wpAny_dictFind_of hkey ho hd hk ?_)
  cases hi : es.findIdx? fun e => knd.is k e.key with
  | some i =>
    have a := any_of_findIdx_some (hx ▸ hi)
    refine wpAny_updateDict ho hd (hQ _ ?_ (Heap.SameBut.update ..))
    refine ⟨_, _, ep, Heap.get?_update_self _ ho (Obj.isFreed_of_dict (Obj.data_mapDict hd _)), hc.mapDict _, Obj.data_mapDict hd _, hk.modify _ _, ?_, ?_⟩
    · unfold stored
      rw [if_pos a]
      have hi2 : (es.toList.findIdx? fun e => knd.is k e.key) = some i := by
        rw [← hi]
        obtain ⟨l⟩ := es
        simp
      have q := hp.modify hn hi2 v
      obtain ⟨l⟩ := es
      simpa using q
    · unfold stored
      rw [if_pos a, keys_map_store]
      exact hn
  | none =>
    have a := not_mem_of_findIdx_none (hx ▸ hi)
    have b : ¬ (kvs.any fun kv => decide (kv.1 = k)) = true := fun z => by
      obtain ⟨kv, h1, h2⟩ := List.any_eq_true.mp z
      exact a (List.mem_map.mpr ⟨kv, h1, of_decide_eq_true h2⟩)
    refine wpAny_updateDictKeys (hz := hes) ho hd (hQ _ ?_ (Heap.SameBut.update ..))
    refine ⟨_, _, ep + 1, Heap.get?_update_self _ ho (Obj.isFreed_of_dict (Obj.data_mapDictKeys hd _)), hc.mapDictKeys _, Obj.data_mapDictKeys hd _, hk.push hkey _, ?_, ?_⟩
    · unfold stored
      rw [if_neg b]
      have q := hp.append hkey (knd.hash k) v
      obtain ⟨l⟩ := es
      simpa using q
    · unfold stored
      rw [if_neg b, List.map_append, List.nodup_append]
      refine ⟨hn, by simp, fun y hy z hz e => a ?_⟩
      have z1 : z = k := by simpa using hz
      rw [← z1, ← e]
      exact hy
theorem merge_pairs {d o : Addr} {kvs more : List (K × Value)} {Q : Unit → Shared → Prop} (hdo : d ≠ o) (hoS : (o == sysModules) = false) (hb : ∀ k v, knd.is k v = true → ∀ a, v ≠ .ref a) (hd : s.heap.DictOf knd d kvs) (ho : s.heap.DictOf knd o more)
    (hsz : kvs.length + more.length ≤ sizeLine) (hQ : ∀ h', h'.DictOf knd d (merged kvs more) → Heap.SameBut d s.heap h' → Q () { s with heap := h' }) : wpAny (model prog w) A (mergeMapping d (.ref o) false) Q E s := by
  have hty := ho.typeIs
  obtain ⟨od, esd, epd, hod, hcd, hdd, hkd, hpd, hnd⟩ := id hd
  obtain ⟨oo, eso, epo, hoo, hco, hdo', hko, hpo, hno⟩ := id ho
  have hlen : more.length = eso.size := by
    rw [← hpo.length]
    simp
  unfold mergeMapping
  refine wpAny_bind (wpAny_isInstance hty isSubtype_dict_dict ?_)
  rw [if_pos rfl]
  refine wpAny_bind (wpAny_specialOf hty F.slot_dict_iter.lookup (wpAny_bind (wpAny_pure ?_)))
  rw [show (some (Value.builtin "dict.__iter__") == some (Value.builtin "dict.__iter__")) = true from by decide]
  dsimp only
  rw [if_neg (by rw [hoS]; exact Bool.false_ne_true)]
  have loop : wpAny (model prog w) A (do
      let l ← dictEntries o
      let epoch ← dictEpoch o
      for i in List.range l.size do
        let some e := (← dictEntries o)[i]? | unsupported "dict.changed-during-merge"
        holding [e.key, e.val] do
          if false = true then
            if (← dictFind d e.key e.hash).isSome then rule "dict.merge.duplicate-key"; raiseNew (← newExc (.type "KeyError") [e.key])
          dictPut d e.hash e.key e.val
        if (← dictEpoch o) != epoch then unsupported "dict.changed-during-merge") Q E s := by
    refine wpAny_bind (wpAny_dictEntries hoo hdo' ?_)
    refine wpAny_bind (wpAny_dictEpoch hoo hdo' ?_)
    refine wpAny_bind (wpAny_forIn_list _ (fun rest _ s' => ∃ h' i, s' = { s with heap := h' } ∧ rest = (List.range eso.size).drop i ∧ i ≤ eso.size ∧ h'.DictOf knd d (merged kvs (more.take i)) ∧ h'.get? o = some oo ∧ Heap.SameBut d s.heap h') _ ?_ ?_ _ _
      ⟨s.heap, 0, rfl, List.drop_zero.symm, Nat.zero_le _, hd, hoo, Heap.SameBut.refl _ _⟩)
    · rintro x rest b s' ⟨h', i, rfl, hr, hi, hd', hoo', hs'⟩
      have hlt : i < eso.size := by
        rcases Nat.lt_or_ge i eso.size with h | h
        · exact h
        · rw [List.drop_eq_nil_of_le (by simpa using h)] at hr
          cases hr
      have hl2 : i < (List.range eso.size).length := by simpa using hlt
      rw [List.drop_eq_getElem_cons hl2] at hr
      injection hr with hx hrest
      have hx : x = i := by rw [hx, List.getElem_range]
      subst hx
      refine wpAny_bind (wpAny_dictEntries hoo' hdo' ?_)
      rw [Array.getElem?_eq_getElem hlt]
      obtain ⟨⟨k, v⟩, hkv⟩ : ∃ kv, more[x]? = some kv := ⟨more[x]'(by rw [hlen]; exact hlt), List.getElem?_eq_getElem _⟩
      obtain ⟨hkey, hval⟩ := hpo.get? (e := eso[x]) (by simp [hlt]) hkv
      obtain ⟨k', hkey', hhash⟩ := hko eso[x] (Array.getElem_mem hlt)
      obtain rfl : k' = k := knd.inj _ _ _ hkey' hkey
      have hmx : (merged kvs (more.take x)).length ≤ sizeLine := by
        have e1 := merged_length_le kvs (more.take x)
        have e2 : (more.take x).length ≤ more.length := by
          rw [List.length_take]
          omega
        omega
      refine wpAny_bind (wpAny_holding ?_)
      rw [if_neg Bool.false_ne_true]
      rw [hhash, hval]
      refine put_pairs (s := { s with heap := h' }) hkey hd' hmx fun h2 hd2 hs2 => ?_
      have hoo2 : h2.get? o = some oo := (hs2.2 o (Ne.symm hdo)).trans hoo'
      refine wpAny_bind (wpAny_dictEpoch (s := { s with heap := h2 }) hoo2 hdo' ?_)
      rw [if_neg (by simp)]
      exact wpAny_pure ⟨h2, x + 1, rfl, hrest, hlt, by rw [merged_take_succ kvs more x _ hkv]; exact hd2, hoo2, hs'.trans hs2⟩
    · rintro b s' ⟨h', i, rfl, hr, hi, hd', hoo', hs'⟩
      have hin : more.length ≤ i := by
        rcases Nat.lt_or_ge i eso.size with h | h
        · rw [List.drop_eq_getElem_cons (by simpa using h)] at hr
          cases hr
        · omega
      rw [List.take_of_length_le hin] at hd'
      exact wpAny_pure (hQ h' hd' hs')
  refine wpAny_bind (wpAny_dictEntries hod hdd ?_)
  split
  · refine wpAny_bind (wpAny_dictEntries hoo hdo' ?_)
    refine wpAny_bind ?_
    refine wpAny_forIn_array' _ (fun rest _ s' => s' = s ∧ ∀ e ∈ rest, e ∈ eso) _ ?_ ?_ _ _ ⟨rfl, fun e he => by simpa using he⟩
    · rintro e rest b s' ⟨rfl, hm⟩
      obtain ⟨k, hk1, _⟩ := hko e (hm e List.mem_cons_self)
      have hnr := hb k e.key hk1
      split
      · rename_i a ha
        exact absurd ha (hnr a)
      · exact wpAny_pure ⟨rfl, fun e' h' => hm e' (List.mem_cons_of_mem _ h')⟩
    · rintro b s' ⟨rfl, _⟩
      exact loop
  · exact loop
end
end
end K11
set_option Elab.async false
set_option linter.all false
set_option maxRecDepth 100000
set_option maxHeartbeats 4000000
namespace K11
open PySem PySem.Spec PyProof.Rows L2
/-- a dict's merge at the abstract heap: a goes into the new, still empty p -/
theorem merge_new {X : Cx} {pins : List (Addr × Obj)} {σ : L2.St} {H : Hp} {s : Shared} {p a : Addr} {kvs : List (Key × V)} {A : Around} {E : Value → Shared → Prop} {Q : Unit → Shared → Prop} (I : Inv X pins σ H s) (hp : H p = some (.dK [])) (ha : Rd H a (.dK kvs)) (hne : p ≠ a)
    (h : ∀ s', Inv X pins σ (upd H p (.dK kvs)) s' → Q () s') : wpAny (model X.prog X.w) A (mergeMapping p (.ref a) false) Q E s := by
  obtain ⟨z, hd, vs, rel, dd⟩ := dk_rd I.hok ha
  obtain ⟨z0, hd0, vs0, rel0, dd0⟩ := dk_of I.hok hp
  cases rel0
  have nod : (vs.map (·.1)).Nodup := by
    obtain ⟨_, _, _, _, _, _, _, _, n⟩ := dd
    exact n
  refine merge_pairs hne hd (fun k v e b => ?_) dd0 dd (by rw [← rel.length]; simpa using z) fun h' dd' sb => ?_
  · rcases keyIs_shape e with ⟨i, t, _, rfl⟩ | ⟨x, t, _, rfl⟩
    · exact fun z => nomatch z
    · exact fun z => nomatch z
  · rw [merged_nil_of_nodup vs nod] at dd'
    have he : ∃ q, h'.get? p = some q := let ⟨q, _, _, hq, _⟩ := dd'; ⟨q, hq⟩
    exact h _ (d_write I (t' := s.toks) (by rw [hp]; exact True.intro) sb he (dk_new z hd0 rel dd'))
/-- .. one pair goes into p -/
theorem merge_one {X : Cx} {pins : List (Addr × Obj)} {σ : L2.St} {H : Hp} {s : Shared} {p a : Addr} {kvs more : List (Key × V)} {A : Around} {E : Value → Shared → Prop} {Q : Unit → Shared → Prop} (I : Inv X pins σ H s) (hp : H p = some (.dK kvs)) (ha : Rd H a (.dK more)) (hne : p ≠ a) (hz : kvs.length + more.length ≤ sizeLine)
    (h : ∀ s', Inv X pins σ (upd H p (.dK (mergeK kvs more))) s' → Q () s') : wpAny (model X.prog X.w) A (mergeMapping p (.ref a) false) Q E s := by
  obtain ⟨z, hd, vs, rel, dd⟩ := dk_rd I.hok ha
  obtain ⟨z0, hd0, vs0, rel0, dd0⟩ := dk_of I.hok hp
  refine merge_pairs hne hd (fun k v e b => ?_) dd0 dd (by rw [← rel.length, ← rel0.length]; exact hz) fun h' dd' sb => ?_
  · rcases keyIs_shape e with ⟨i, t, _, rfl⟩ | ⟨x, t, _, rfl⟩
    · exact fun z => nomatch z
    · exact fun z => nomatch z
  · have he : ∃ q, h'.get? p = some q := let ⟨q, _, _, hq, _⟩ := dd'; ⟨q, hq⟩
    have hl : (mergeK kvs more).length ≤ sizeLine := Nat.le_trans (length_mergeK more kvs) hz
    exact h _ (d_write I (t' := s.toks) (by rw [hp]; exact True.intro) sb he (dk_new hl hd0 (rel.merge rel0) dd'))
section
variable {X : Cx} {d k v : Expr} {td tk tv : TE} {pos : Pos}
/-- {**d, k: v}: p the new dict, q one that is made on the way -/
def tDStar (td tk tv : TE) : TE := fun σ H Q => ∀ p, H p = none → td σ (upd H p (.dK [])) fun x H1 => ∃ a kvs, x = .ref a ∧ H1 p = some (.dK []) ∧ Rd H1 a (.dK kvs) ∧ p ≠ a ∧ kvs.length < sizeLine ∧
  ∀ q, upd H1 p (.dK kvs) q = none → tk σ (upd (upd H1 p (.dK kvs)) q (.dK [])) fun y H2 => tv σ H2 fun z H3 => ∃ key : Key, y = kV key ∧ H3 p = some (.dK kvs) ∧ H3 q = some (.dK []) ∧
    Q (.ref p) (upd (upd H3 q (.dK [(key, z)])) p (.dK (putK kvs key z)))
theorem pe_dstar (hd : PE X d td) (hk : PE X k tk) (hv : PE X v tv) : PE X (.Dict [none, some k] [d, v] pos) (tDStar td tk tv) := by
  refine ⟨fun pins s σ H Q I h => ?_⟩
  show wpAny _ _ (do standAt pos; dictDisplay [(none, do let x ← eval d X.env; standAt pos; pure x), (some (eval k X.env), do let x ← eval v X.env; standAt pos; pure x)]) _ _ _
  refine wpAny_bind (wpAny_standAt ?_)
  unfold dictDisplay
  dsimp only
  refine wpAny_bind ?_
  rw [List.forIn_cons]
  dsimp only
  refine wpAny_bind (wpAny_bind ?_)
  rw [if_pos List.isEmpty_nil]
  refine wpAny_pure (wpAny_bind (wpAny_alloc ?_))
  have hn := I.hok.fresh (Nat.le_refl s.heap.objs.size)
  have I1 := I.laid (a := s.heap.objs.size) (o := .dK []) (h' := s.heap.push { cls := .type "dict", data := .dict #[] }) (t' := s.toks) (fun _ _ q => Heap.get?_push_of_some _ q) (Nat.le_refl _) (dk_empty s.heap I.big)
  refine wpAny_bind (wpAny_holding (wpAny_bind (thn (hd.run pins _ σ _ _ I1 (h _ hn)) fun u s1 ⟨x, H1, J1, rx, q1⟩ => ?_)))
  obtain ⟨a, kvs, ex, hp, ha, hne, hz, q1⟩ := q1
  subst ex
  obtain rfl : u = Value.ref a := rx
  refine wpAny_bind (wpAny_standAt (wpAny_pure ?_))
  refine wpAny_bind (wpAny_onRaise (wpAny_tryCatch (wpAny_onRaise (wpAny_holding (merge_new J1 hp ha hne fun s2 J2 => ?_)))))
  refine wpAny_pure ?_
  dsimp only
  rw [List.forIn_cons]
  dsimp only
  rw [if_neg (by simp)]
  refine wpAny_bind (wpAny_pure ?_)
  dsimp only
  rw [List.forIn_nil]
  refine wpAny_pure (wpAny_bind ?_)
  dsimp only
  rw [if_neg (by simp)]
  refine wpAny_bind (wpAny_holding ?_)
  unfold subDict
  refine wpAny_bind (wpAny_alloc (wpAny_bind (wpAny_holding ?_)))
  rw [if_pos (by simp)]
  have hn2 := J2.hok.fresh (Nat.le_refl s2.heap.objs.size)
  have J3 := J2.laid (a := s2.heap.objs.size) (o := .dK []) (h' := s2.heap.push { cls := .type "dict", data := .dict #[] }) (t' := s2.toks) (fun _ _ q => Heap.get?_push_of_some _ q) (Nat.le_refl _) (dk_empty s2.heap J2.big)
  show wpAny _ _ (do let vs ← evalPairs [(eval k X.env, do let x ← eval v X.env; standAt pos; pure x)]; _) _ _ _
  refine wpAny_bind ?_
  unfold evalPairs
  refine wpAny_bind (thn (hk.run pins _ σ _ _ J3 (q1 _ hn2)) fun ku s3 ⟨y, H2, J4, ry, q2⟩ => ?_)
  refine wpAny_bind (wpAny_holding (wpAny_bind (thn (hv.run pins _ σ _ _ J4 q2) fun vu s4 ⟨z, H3, J5, rz, q3⟩ => ?_)))
  obtain ⟨key, ey, hp3, hq3, q3⟩ := q3
  subst ey
  refine wpAny_bind (wpAny_standAt (wpAny_pure ?_))
  refine wpAny_bind (wpAny_holding ?_)
  unfold evalPairs
  refine wpAny_pure (wpAny_pure (wpAny_holding (wpAny_bind ?_)))
  rw [List.forIn_cons]
  refine wpAny_bind (wpAny_bind ?_)
  unfold dictSet
  refine wpAny_holding (wpAny_bind ((mixKind X.prog X.w).pyHash (kV_is ry) ?_))
  obtain ⟨z0, hd0, vs0, rel0, dd0⟩ := dk_of J5.hok hq3
  cases rel0
  refine wpAny_dictSetHashed_pairs (s := { s4 with toks := s4.toks + 1 }) (kV_is ry) dd0 fun h' dd' sb => ?_
  have he : ∃ q, h'.get? s2.heap.objs.size = some q := let ⟨q, _, _, hq, _⟩ := dd'; ⟨q, hq⟩
  have J7 : Inv X pins σ (upd H3 s2.heap.objs.size (.dK [(key, z)])) { s4 with heap := h', toks := s4.toks + 1 } :=
    d_write J5 (t' := s4.toks + 1) (by rw [hq3]; exact True.intro) sb he (dk_new (by show 1 ≤ sizeLine; decide) hd0 (.cons ⟨rfl, rz⟩ .nil) dd')
  refine wpAny_pure ?_
  dsimp only
  rw [List.forIn_nil]
  refine wpAny_pure (wpAny_pure (wpAny_pure (wpAny_bind (wpAny_onRaise (wpAny_holding ?_)))))
  have hpq : s.heap.objs.size ≠ s2.heap.objs.size := fun e => by
    rw [← e, upd_same] at hn2
    cases hn2
  refine merge_one J7 (kvs := kvs) (more := [(key, z)]) (by rw [upd_ne hpq]; exact hp3) (.inl upd_same) hpq hz fun s5 J8 => ?_
  exact wpAny_pure (wpAny_pure ⟨.ref s.heap.objs.size, _, J8, rfl, q3⟩)
end
end K11
set_option Elab.async false
set_option linter.all false
set_option maxRecDepth 100000
set_option maxHeartbeats 4000000
namespace K11
open PySem PySem.Spec L2
/-! ### d.update(e), both with tuples as keys, d not empty -/
def mergeT (kvs more : List (List Key × V)) : List (List Key × V) := more.foldl (fun acc kv => putK acc kv.1 kv.2) kvs
theorem length_mergeT : ∀ (more kvs : List (List Key × V)), (mergeT kvs more).length ≤ kvs.length + more.length
  | [], kvs => Nat.le_refl _
  | p :: r, kvs => by
    have h1 := length_mergeT r (putK kvs p.1 p.2)
    have h2 := length_putK kvs p.1 p.2
    show (mergeT (putK kvs p.1 p.2) r).length ≤ kvs.length + (r.length + 1)
    omega
theorem KT.merge {H : Hp} {more : List (List Key × V)} {ys : List (List Key × Addr × Value)} (r : KT H more ys) : ∀ {kvs : List (List Key × V)} {xs : List (List Key × Addr × Value)}, KT H kvs xs → KT H (mergeT kvs more) (storedAllH xs ys) := by
  induction r with
  | nil => intro kvs xs q; exact q
  | @cons p q ps qs h t ih =>
    intro kvs xs r0
    obtain ⟨h1, h2, h3⟩ := h
    have e : KT H (putK kvs p.1 p.2) (storedH xs q.1 q.2.1 q.2.2) := by
      rw [← h1]
      exact r0.put p.1 h2 h3
    exact ih e
def rUpdT : V → List V → Hp → VK → Prop := fun x vs H Q => ∃ (a b : Addr) (kvs more : List (List Key × V)), x = .ref a ∧ vs = [.ref b] ∧ a ≠ b ∧ H a = some (.dT kvs) ∧ Rd H b (.dT more) ∧ kvs ≠ [] ∧ kvs.length + more.length ≤ sizeLine ∧
  Q .non (upd H a (.dT (mergeT kvs more)))
theorem mt_updT {X : Cx} (hu : X.A.units + 1 < cLine) : MtR X "dict.update" rUpdT := by
  intro pins s σ H x vs v us Q I rx rv h
  obtain ⟨a, b, kvs, more, rfl, rfl, hab, ha, hb, hne, hz, q⟩ := h
  obtain rfl : v = Value.ref a := rx
  obtain ⟨u, rfl, ru⟩ := rv.one
  obtain rfl : u = Value.ref b := ru
  obtain ⟨z1, hd1, xs, r1, d1⟩ := dt_of I.hok ha
  obtain ⟨z2, hd2, ys, r2, d2⟩ := dt_rd I.hok hb
  have l1 : xs.length = kvs.length := (Paired.length r1).symm
  have l2 : ys.length = more.length := (Paired.length r2).symm
  have nx : xs ≠ [] := fun e => by
    rw [e] at l1
    exact hne (List.length_eq_zero_iff.mp l1.symm)
  refine call_update_dictH (knd := tupleKind (mixKind X.prog X.w)) (tupleKind_room_in1 hu) hab hd2 d1 d2 (.inl nx) (by rw [l1, l2]; exact hz) fun h' d1' d2' sb => ?_
  obtain ⟨o, es, ep, ho, h2, h3, h4, _, h5⟩ := d1'
  have new : ObjOk X.prog X.w (upd H a (.dT (mergeT kvs more))) h' a (.dT (mergeT kvs more)) :=
    ⟨Nat.le_trans (length_mergeT more kvs) hz, hd1, storedAllH xs ys, (KT.merge r2 r1).keeps fun c zs ec => (by
      rw [upd_ne (ne_of ec ha (fun z => nomatch z))]
      exact ec), o, es, ep, ho, h2, h3, h4, h5⟩
  exact ⟨.non, _, d_write I (t' := s.toks) (by rw [ha]; exact True.intro) sb ⟨o, ho⟩ new, rfl, q⟩
end K11
set_option Elab.async false
set_option linter.all false
set_option maxRecDepth 100000
set_option maxHeartbeats 4000000
namespace K11
open PySem PySem.Spec PyProof.Rows L2
/-! ### a def, a method, a class by its body -/
section
variable {P : Program} {w : World} {K : PySem.W.Frag} {mg : Str → Option Value} {base : Heap}
/-- what a body owes -/
def Owes (CX : CXT) (P : Program) (w : World) (K : PySem.W.Frag) (mg : Str → Option Value) (base : Heap) (k : Nat) (N : List Str) (qual : Str) (st : Stmt) (sp : Sp) : Prop :=
  ∀ (f : Addr) (cdv : Value) (A : Around) (outer : List Env) (s : Shared) (H : Hp) (vs : List V) (Q : VK) (E : XK), Room k (A.deeper (envOfC qual (defScope st) s.heap.objs.size f cdv)) → sp vs H Q E →
    ∃ t, PSs (cxOf CX P w K mg base N qual (defScope st) f cdv A outer s H E) (defBody st) t ∧ t { nx := fun _ H' => Q .non H', rt := Q } (start N vs) H
/-- .. and lets nothing out -/
def Owes0 (P : Program) (w : World) (K : PySem.W.Frag) (mg : Str → Option Value) (base : Heap) (k : Nat) (N : List Str) (qual : Str) (st : Stmt) (sp : Sp) : Prop :=
  ∀ (f : Addr) (cdv : Value) (A : Around) (outer : List Env) (s : Shared) (H : Hp) (vs : List V) (Q : VK) (E : XK), Room k (A.deeper (envOfC qual (defScope st) s.heap.objs.size f cdv)) → sp vs H Q E →
    ∃ t, PSs (cxOf C8.CX0 P w K mg base N qual (defScope st) f cdv A outer s H E).nox (defBody st) t ∧ t { nx := fun _ H' => Q .non H', rt := Q } (start N vs) H
theorem Owes0.owes {k : Nat} {N : List Str} {qual : Str} {st : Stmt} {sp : Sp} (o : Owes0 P w K mg base k N qual st sp) : Owes C8.CX0 P w K mg base k N qual st sp := fun f cdv A outer s H vs Q E hr h => by
  obtain ⟨t, p, q⟩ := o f cdv A outer s H vs Q E hr h
  exact ⟨t, p.nox, q⟩
theorem DF.cal {x : Str} {st : Stmt} {N ps : List Str} {k : Nat} {sp : Sp} (F : DF K mg x st ps) (S : FnScope N ps (defScope st)) (len : ∀ vs H Q E, sp vs H Q E → vs.length = ps.length)
    (o : Owes0 P w K mg base k N x st sp) : C8.Cal P w K mg base (k + 1) x sp [] := by
  obtain ⟨f, fd, D, hm, b⟩ := F
  exact ⟨f, fd, ps, [], D.ok S len fun cdv A outer s H vs Q E hr h => o.owes f cdv A outer s H vs Q E hr h, hm, D.kp, b, .nil⟩
theorem DF.none {x : Str} {st : Stmt} {ps : List Str} {k : Nat} {sp : Sp} (F : DF K mg x st ps) (no : ∀ vs H Q E, ¬ sp vs H Q E) : C8.Cal P w K mg base k x sp [] := by
  obtain ⟨f, fd, D, hm, b⟩ := F
  exact ⟨f, fd, ps, [], ⟨fun vs H Q E h => absurd h (no vs H Q E), fun A outer s H args us vs Q E _ _ _ _ h => absurd h (no vs H Q E)⟩, hm, D.kp, b, .nil⟩
theorem MF.none {C : Addr} {m qual : Str} {st : Stmt} {ps : List Str} {k : Nat} {sp : Sp} (c : Cls K C) (F : MF K C m qual st ps) (no : ∀ vs H Q E, ¬ sp vs H Q E) : C8.Met P w K mg base k C m sp [] := by
  obtain ⟨f, fd, me, D, b⟩ := F
  exact ⟨f, fd, ps, [], c, me, ⟨fun vs H Q E h => absurd h (no vs H Q E), fun A outer s H args us vs Q E _ _ _ _ h => absurd h (no vs H Q E)⟩, b, .nil⟩
theorem MF.met {C : Addr} {m qual : Str} {st : Stmt} {N ps : List Str} {k : Nat} {sp : Sp} (c : Cls K C) (F : MF K C m qual st ps) (S : FnScope N ps (defScope st)) (len : ∀ vs H Q E, sp vs H Q E → vs.length = ps.length)
    (o : Owes0 P w K mg base k N qual st sp) : C8.Met P w K mg base (k + 1) C m sp [] := by
  obtain ⟨f, fd, me, D, b⟩ := F
  exact ⟨f, fd, ps, [], c, me, D.ok S len fun cdv A outer s H vs Q E hr h => o.owes f cdv A outer s H vs Q E hr h, b, .nil⟩
theorem IF.mak {C : Addr} {x qual : Str} {st : Stmt} {N ps : List Str} {k : Nat} {sp : Sp} (hm : mg x = some (.ref C)) (F : IF K C qual st ps) (S : FnScope N ps (defScope st)) (len : ∀ vs H Q E, sp vs H Q E → vs.length = ps.length)
    (o : Owes0 P w K mg base k N qual st sp) : C8.Mak P w K mg base (k + 1) x C sp [] := by
  obtain ⟨f, fd, M, D, b⟩ := F
  exact ⟨f, fd, ps, [], M, D.ok S len fun cdv A outer s H vs Q E hr h => o.owes f cdv A outer s H vs Q E hr h, hm, b, .nil⟩
end
theorem Txt.PRIME {w : World} {K : PySem.W.Frag} {mg : Str → Option Value} (T : Txt w K mg) : ∃ u, mg "PRIME" = some u ∧ RelV (.int 1000003) u := T.g_PRIME.elim fun t h => ⟨_, h, t, rfl⟩
theorem Txt.MOST_LETTERS {w : World} {K : PySem.W.Frag} {mg : Str → Option Value} (T : Txt w K mg) : ∃ u, mg "MOST_LETTERS" = some u ∧ RelV (.int 8) u := T.g_MOST_LETTERS.elim fun t h => ⟨_, h, t, rfl⟩
theorem Txt.MOST_TIMES {w : World} {K : PySem.W.Frag} {mg : Str → Option Value} (T : Txt w K mg) : ∃ u, mg "MOST_TIMES" = some u ∧ RelV (.int 7) u := T.g_MOST_TIMES.elim fun t h => ⟨_, h, t, rfl⟩
theorem Txt.MOST_BLOCKS {w : World} {K : PySem.W.Frag} {mg : Str → Option Value} (T : Txt w K mg) : ∃ u, mg "MOST_BLOCKS" = some u ∧ RelV (.int 4) u := T.g_MOST_BLOCKS.elim fun t h => ⟨_, h, t, rfl⟩
theorem Txt.LETTERS {w : World} {K : PySem.W.Frag} {mg : Str → Option Value} (T : Txt w K mg) : ∃ u, mg "LETTERS" = some u ∧ RelV (.str "abcdefghijklmnopqrstuvwxyz") u := T.g_LETTERS.elim fun t h => ⟨_, h, t, rfl⟩
theorem Txt.NO_NAMES {w : World} {K : PySem.W.Frag} {mg : Str → Option Value} (T : Txt w K mg) : ∃ u, mg "NO_NAMES" = some u ∧ RelV (.ref (ad K "NO_NAMES")) u := ⟨_, T.g_NO_NAMES, rfl⟩
theorem Txt.OPS {w : World} {K : PySem.W.Frag} {mg : Str → Option Value} (T : Txt w K mg) : ∃ u, mg "OPS" = some u ∧ RelV (.ref (ad K "OPS")) u := ⟨_, T.g_OPS, rfl⟩
theorem Txt.ADD_OPS {w : World} {K : PySem.W.Frag} {mg : Str → Option Value} (T : Txt w K mg) : ∃ u, mg "ADD_OPS" = some u ∧ RelV (.ref (ad K "ADD_OPS")) u := ⟨_, T.g_ADD_OPS, rfl⟩
theorem Txt.FOLD_OPS {w : World} {K : PySem.W.Frag} {mg : Str → Option Value} (T : Txt w K mg) : ∃ u, mg "FOLD_OPS" = some u ∧ RelV (.ref (ad K "FOLD_OPS")) u := ⟨_, T.g_FOLD_OPS, rfl⟩
theorem Txt.SIZES {w : World} {K : PySem.W.Frag} {mg : Str → Option Value} (T : Txt w K mg) : ∃ u, mg "SIZES" = some u ∧ RelV (.ref (ad K "SIZES")) u := ⟨_, T.g_SIZES, rfl⟩
theorem Txt.PARTS {w : World} {K : PySem.W.Frag} {mg : Str → Option Value} (T : Txt w K mg) : ∃ u, mg "PARTS" = some u ∧ RelV (.ref (ad K "PARTS")) u := ⟨_, T.g_PARTS, rfl⟩
theorem mem_SIZES {w : World} {K : PySem.W.Frag} {mg : Str → Option Value} (T : Txt w K mg) : True := trivial
/-! ### the data -/
inductive Exp where
  | num (n : Int)
  | word (x : Str)
  | loc (x : Str)
  | op (o : Str) (l r : Exp)
inductive Stm where
  | set (x : Str) (e : Exp)
  | add (x o : Str) (e : Exp)
  | cond (e : Exp) (a b : List Stm)
  | fork (bs : List (List Stm))
  | each (x : Str) (e : Exp) (b : List Stm)
  | fold (x o i : Str) (e l : Exp)
  | start (t : Str) (b : List Stm)
  | wait (t : Str)
abbrev Blk := List Stm
/-- an expression at a value -/
def DE (H : Hp) : Exp → V → Prop
  | .num n, v => ∃ a, v = .ref a ∧ H a = some (.tup [.str "number", .int n])
  | .word x, v => ∃ a, v = .ref a ∧ H a = some (.tup [.str "word", .str x])
  | .loc x, v => ∃ a, v = .ref a ∧ H a = some (.tup [.str "local", .str x])
  | .op o l r, v => ∃ a vl vr, v = .ref a ∧ H a = some (.tup [.str "do", .str o, vl, vr]) ∧ DE H l vl ∧ DE H r vr
mutual
/-- a statement at a value -/
def DS (H : Hp) : Stm → V → Prop
  | .set x e, v => ∃ a ve, v = .ref a ∧ H a = some (.tup [.str "set", .str x, ve]) ∧ DE H e ve
  | .add x o e, v => ∃ a ve, v = .ref a ∧ H a = some (.tup [.str "add", .str x, .str o, ve]) ∧ DE H e ve
  | .cond e b c, v => ∃ a ve vb vc xb xc, v = .ref a ∧ H a = some (.tup [.str "if", ve, .ref vb, .ref vc]) ∧ DE H e ve ∧ H vb = some (.tup xb) ∧ DSs H b xb ∧ H vc = some (.tup xc) ∧ DSs H c xc
  | .fork bs, v => ∃ a vb xs, v = .ref a ∧ H a = some (.tup [.str "fork", .ref vb]) ∧ H vb = some (.tup xs) ∧ DBs H bs xs
  | .each x e b, v => ∃ a ve vb xb, v = .ref a ∧ H a = some (.tup [.str "each", .str x, ve, .ref vb]) ∧ DE H e ve ∧ H vb = some (.tup xb) ∧ DSs H b xb
  | .fold x o i e l, v => ∃ a ve vl, v = .ref a ∧ H a = some (.tup [.str "fold", .str x, .str o, .str i, ve, vl]) ∧ DE H e ve ∧ DE H l vl
  | .start t b, v => ∃ a vb xb, v = .ref a ∧ H a = some (.tup [.str "start", .str t, .ref vb]) ∧ H vb = some (.tup xb) ∧ DSs H b xb
  | .wait t, v => ∃ a, v = .ref a ∧ H a = some (.tup [.str "await", .str t])
def DSs (H : Hp) : List Stm → List V → Prop
  | [], vs => vs = []
  | s :: ss, vs => ∃ v r, vs = v :: r ∧ DS H s v ∧ DSs H ss r
def DBs (H : Hp) : List (List Stm) → List V → Prop
  | [], vs => vs = []
  | b :: bs, vs => ∃ a xs r, vs = .ref a :: r ∧ H a = some (.tup xs) ∧ DSs H b xs ∧ DBs H bs r
end
/-- a block at an address -/
def DB (H : Hp) (b : Blk) (a : Addr) : Prop := ∃ xs, H a = some (.tup xs) ∧ DSs H b xs
/-- tuples stay -/
def Tk (H H' : Hp) : Prop := ∀ a vs, H a = some (.tup vs) → H' a = some (.tup vs)
theorem Tk.refl (H : Hp) : Tk H H := fun _ _ h => h
theorem Tk.trans {H H1 H2 : Hp} (a : Tk H H1) (b : Tk H1 H2) : Tk H H2 := fun c o h => b c o (a c o h)
theorem Tk.same {H H' : Hp} (s : Same H H') : Tk H H' := fun a _ h => s a _ h
theorem DE.mono {H H' : Hp} (k : Tk H H') : ∀ {e : Exp} {v : V}, DE H e v → DE H' e v
  | .num _, _, ⟨a, e, h⟩ => ⟨a, e, k _ _ h⟩
  | .word _, _, ⟨a, e, h⟩ => ⟨a, e, k _ _ h⟩
  | .loc _, _, ⟨a, e, h⟩ => ⟨a, e, k _ _ h⟩
  | .op _ _ _, _, ⟨a, vl, vr, e, h, hl, hr⟩ => ⟨a, vl, vr, e, k _ _ h, DE.mono k hl, DE.mono k hr⟩
mutual
theorem DS.mono {H H' : Hp} (k : Tk H H') : ∀ {s : Stm} {v : V}, DS H s v → DS H' s v
  | .set _ _, _, ⟨a, ve, e, h, he⟩ => ⟨a, ve, e, k _ _ h, he.mono k⟩
  | .add _ _ _, _, ⟨a, ve, e, h, he⟩ => ⟨a, ve, e, k _ _ h, he.mono k⟩
  | .cond _ _ _, _, ⟨a, ve, vb, vc, xb, xc, e, h, he, h1, d1, h2, d2⟩ => ⟨a, ve, vb, vc, xb, xc, e, k _ _ h, he.mono k, k _ _ h1, DSs.mono k d1, k _ _ h2, DSs.mono k d2⟩
  | .fork _, _, ⟨a, vb, xs, e, h, h1, d1⟩ => ⟨a, vb, xs, e, k _ _ h, k _ _ h1, DBs.mono k d1⟩
  | .each _ _ _, _, ⟨a, ve, vb, xb, e, h, he, h1, d1⟩ => ⟨a, ve, vb, xb, e, k _ _ h, he.mono k, k _ _ h1, DSs.mono k d1⟩
  | .fold _ _ _ _ _, _, ⟨a, ve, vl, e, h, he, hl⟩ => ⟨a, ve, vl, e, k _ _ h, he.mono k, hl.mono k⟩
  | .start _ _, _, ⟨a, vb, xb, e, h, h1, d1⟩ => ⟨a, vb, xb, e, k _ _ h, k _ _ h1, DSs.mono k d1⟩
  | .wait _, _, ⟨a, e, h⟩ => ⟨a, e, k _ _ h⟩
theorem DSs.mono {H H' : Hp} (k : Tk H H') : ∀ {ss : List Stm} {vs : List V}, DSs H ss vs → DSs H' ss vs
  | [], _, h => h
  | _ :: _, _, ⟨v, r, e, h, d⟩ => ⟨v, r, e, DS.mono k h, DSs.mono k d⟩
theorem DBs.mono {H H' : Hp} (k : Tk H H') : ∀ {bs : List (List Stm)} {vs : List V}, DBs H bs vs → DBs H' bs vs
  | [], _, h => h
  | _ :: _, _, ⟨a, xs, r, e, h, d, ds⟩ => ⟨a, xs, r, e, k _ _ h, DSs.mono k d, DBs.mono k ds⟩
end
theorem DB.mono {H H' : Hp} (k : Tk H H') {b : Blk} {a : Addr} (h : DB H b a) : DB H' b a := h.elim fun xs d => ⟨xs, k _ _ d.1, d.2.mono k⟩
theorem DSs.length : ∀ {H : Hp} {ss : List Stm} {vs : List V}, DSs H ss vs → vs.length = ss.length
  | _, [], _, h => by rw [show _ = _ from h]; rfl
  | _, _ :: _, _, ⟨v, r, e, _, d⟩ => by rw [e, List.length_cons, List.length_cons, DSs.length d]
theorem DSs.get : ∀ {H : Hp} {ss : List Stm} {vs : List V}, DSs H ss vs → ∀ {i : Nat} {v : V}, vs[i]? = some v → ∃ s, ss[i]? = some s ∧ DS H s v
  | _, [], _, h, i, v, q => by rw [show _ = _ from h] at q; simp at q
  | _, s :: ss, _, ⟨u, r, e, hs, d⟩, i, v, q => by
    subst e
    cases i with
    | zero => simp at q; subst q; exact ⟨s, rfl, hs⟩
    | succ i => simpa using DSs.get d (i := i) (v := v) (by simpa using q)
theorem DSs.at {H : Hp} {ss : List Stm} {vs : List V} (d : DSs H ss vs) {i : Nat} {s : Stm} (e : ss[i]? = some s) : ∃ v, vs[i]? = some v ∧ DS H s v := by
  have hi : i < vs.length := by rw [d.length]; exact (List.getElem?_eq_some_iff.mp e).1
  obtain ⟨s', e', h⟩ := d.get (List.getElem?_eq_getElem hi)
  rw [e] at e'; cases e'
  exact ⟨_, List.getElem?_eq_getElem hi, h⟩
theorem DBs.length : ∀ {H : Hp} {ss : List (List Stm)} {vs : List V}, DBs H ss vs → vs.length = ss.length
  | _, [], _, h => by rw [show _ = _ from h]; rfl
  | _, _ :: _, _, ⟨v, _, r, e, _, _, d⟩ => by rw [e, List.length_cons, List.length_cons, DBs.length d]
theorem DBs.get : ∀ {H : Hp} {ss : List (List Stm)} {vs : List V}, DBs H ss vs → ∀ {i : Nat} {v : V}, vs[i]? = some v → ∃ s a, ss[i]? = some s ∧ v = .ref a ∧ DB H s a
  | _, [], _, h, i, v, q => by rw [show _ = _ from h] at q; simp at q
  | _, s :: ss, _, ⟨u, xs, r, e, hs, hd, d⟩, i, v, q => by
    subst e
    cases i with
    | zero => simp at q; subst q; exact ⟨s, u, rfl, rfl, xs, hs, hd⟩
    | succ i => simpa using DBs.get d (i := i) (v := v) (by simpa using q)
theorem DBs.at {H : Hp} {ss : List (List Stm)} {vs : List V} (d : DBs H ss vs) {i : Nat} {s : List Stm} (e : ss[i]? = some s) : ∃ a, vs[i]? = some (.ref a) ∧ DB H s a := by
  have hi : i < vs.length := by rw [d.length]; exact (List.getElem?_eq_some_iff.mp e).1
  obtain ⟨s', a, e', hv, h⟩ := d.get (List.getElem?_eq_getElem hi)
  rw [e] at e'; cases e'
  exact ⟨a, by rw [List.getElem?_eq_getElem hi, hv], h⟩
/-! ### frames -/
theorem same_new {H : Hp} {p : Addr} (h : H p = none) (o : HO) : Same H (upd H p o) := fun b u q => by rw [upd_ne (ne_of_none q h)]; exact q
theorem same_put {H H1 : Hp} {p : Addr} (h : H p = none) (s : Same H H1) (o : HO) : Same H (upd H1 p o) := fun b u q => by rw [upd_ne (ne_of_none q h)]; exact s b u q
theorem tk_upd {H : Hp} {p : Addr} {o : HO} (h : ∀ vs, H p ≠ some (.tup vs)) : Tk H (upd H p o) := fun a vs q => by
  by_cases e : a = p
  · subst e; exact absurd q (h vs)
  · rw [upd_ne e]; exact q
end K11
set_option Elab.async false
set_option linter.all false
set_option maxRecDepth 100000
set_option maxHeartbeats 4000000
namespace K11
open PySem PySem.Spec PyProof.Rows L2
/-! ### small helps -/
theorem RelV_ty (n : String) : RelV (.ty n) (.type n) := rfl
theorem ty_int {K : PySem.W.Frag} {H : Hp} (i : Int) : TyX K H (.int i) (.type "int") := .base (.int i)
theorem ty_str {K : PySem.W.Frag} {H : Hp} (i : Str) : TyX K H (.str i) (.type "str") := .base (.str i)
theorem ty_tup {K : PySem.W.Frag} {H : Hp} {a : Addr} {xs : List V} (e : H a = some (.tup xs)) : TyX K H (.ref a) (.type "tuple") := .base (.tup e)
/-- isinstance's answers, as far as they are asked -/
inductive IsB (H : Hp) : List V → Bool → Prop where
  | ii {i : Int} : IsB H [.int i, .ty "int"] true
  | ib {i : Int} : IsB H [.int i, .ty "bool"] false
  | ss {x : Str} : IsB H [.str x, .ty "str"] true
  | sb {x : Str} : IsB H [.str x, .ty "bool"] false
  | si {x : Str} : IsB H [.str x, .ty "int"] false
  | tt {a : Addr} {xs : List V} (e : H a = some (.tup xs)) : IsB H [.ref a, .ty "tuple"] true
  | tb {a : Addr} {xs : List V} (e : H a = some (.tup xs)) : IsB H [.ref a, .ty "bool"] false
  | ti {a : Addr} {xs : List V} (e : H a = some (.tup xs)) : IsB H [.ref a, .ty "int"] false
  | ts {a : Addr} {xs : List V} (e : H a = some (.tup xs)) : IsB H [.ref a, .ty "str"] false
theorem call_isB {X : Cx} : CallR X (.builtin "isinstance") (fun xs H Q => ∃ b, IsB H xs b ∧ Q (.bl b) H) := by
  intro pins s σ H xs us Q I r h
  obtain ⟨b, c, q⟩ := h
  refine call_isi pins s σ H xs us Q I r ?_
  cases c with
  | ii => exact ⟨_, _, _, _, _, rfl, .ty _, ty_int _, kit_ty (by decide +kernel), q⟩
  | ib => exact ⟨_, _, _, _, _, rfl, .ty _, ty_int _, kit_ty (by decide +kernel), q⟩
  | ss => exact ⟨_, _, _, _, _, rfl, .ty _, ty_str _, kit_ty (by decide +kernel), q⟩
  | sb => exact ⟨_, _, _, _, _, rfl, .ty _, ty_str _, kit_ty (by decide +kernel), q⟩
  | si => exact ⟨_, _, _, _, _, rfl, .ty _, ty_str _, kit_ty (by decide +kernel), q⟩
  | tt e => exact ⟨_, _, _, _, _, rfl, .ty _, ty_tup e, kit_ty (by decide +kernel), q⟩
  | tb e => exact ⟨_, _, _, _, _, rfl, .ty _, ty_tup e, kit_ty (by decide +kernel), q⟩
  | ti e => exact ⟨_, _, _, _, _, rfl, .ty _, ty_tup e, kit_ty (by decide +kernel), q⟩
  | ts e => exact ⟨_, _, _, _, _, rfl, .ty _, ty_tup e, kit_ty (by decide +kernel), q⟩
theorem iteD {p A B : Prop} [Decidable p] (h : p) (a : A) : if decide p = true then A else B := by rw [decide_eq_true h]; exact iteT a
theorem iteDF {p A B : Prop} [Decidable p] (h : ¬ p) (b : B) : if decide p = true then A else B := by rw [decide_eq_false h]; exact iteF b
theorem iteN {p A B : Prop} [Decidable p] (h : p) (b : B) : if (!decide p) = true then A else B := by rw [decide_eq_true h]; exact iteF b
theorem iteNF {p A B : Prop} [Decidable p] (h : ¬ p) (a : A) : if (!decide p) = true then A else B := by rw [decide_eq_false h]; exact iteT a
theorem dT {p : Prop} [Decidable p] (h : p) {Q : VK} {H : Hp} (q : Q (.bl true) H) : Q (.bl (decide p)) H := by rw [decide_eq_true h]; exact q
theorem dF {p : Prop} [Decidable p] (h : ¬ p) {Q : VK} {H : Hp} (q : Q (.bl false) H) : Q (.bl (decide p)) H := by rw [decide_eq_false h]; exact q
section
variable {α : Type} {a b c d e f : α} {r : List α}
theorem at0 : atI (a :: r) 0 = some a := atI_nat (j := 0) rfl
theorem at1 : atI (a :: b :: r) 1 = some b := atI_nat (j := 1) rfl
theorem at2 : atI (a :: b :: c :: r) 2 = some c := atI_nat (j := 2) rfl
theorem at3 : atI (a :: b :: c :: d :: r) 3 = some d := atI_nat (j := 3) rfl
theorem at4 : atI (a :: b :: c :: d :: e :: r) 4 = some e := atI_nat (j := 4) rfl
theorem at5 : atI (a :: b :: c :: d :: e :: f :: r) 5 = some f := atI_nat (j := 5) rfl
end
theorem le_line {n : Nat} (h : n ≤ 1000) : n ≤ sizeLine := Nat.le_of_lt (small1000 h)
theorem lt_line {n : Nat} (h : n ≤ 1000) : n < sizeLine := small1000 h
/-! ### a comprehension without ifs: what it makes -/
theorem lc_map {J : It} {n : Nat} {g : TG} {te : TE} {vs : List Nat} {σ : L2.St} {H1 : Hp} {D : Addr} {Qd : Hp → Prop} (R : Nat → V → Hp → Prop) (mono : ∀ i y H H', Tk H H' → R i y H → R i y H')
    (hn : n < sizeLine) (hD : H1 D = none) (hgo : ∀ i H, i < n → Same H1 H → J.go i H) (hst : ∀ H, Same H1 H → J.stop n H)
    (hs : ∀ i H x H' (Qn : VK), i < n → Same H1 H → J.yld i H x H' → (∀ y H4, Same H H4 → R i y H4 → Qn y H4) → g x (wipe σ vs) H' fun σ2 H2 => wipe σ2 vs = wipe σ vs ∧ te σ2 H2 Qn)
    (hd : ∀ H ys, Same H1 H → H D = some (.lst ys) → ys.length = n → (∀ i y, ys[i]? = some y → R i y H) → Qd H) :
    ∃ W : Nat → Nat → Hp → Prop, (∃ m, W 0 m (upd H1 D (.lst []))) ∧ ∀ i m H, W i m H →
      (J.stop i H ∧ Qd H) ∨ (J.go i H ∧ ∃ Nx : Hp → Prop, (∀ H', Nx H' → ∃ m', m' < m ∧ W (i + 1) m' H') ∧ ∀ x H', J.yld i H x H' → g x (wipe σ vs) H' fun σ2 H2 => wipe σ2 vs = wipe σ vs ∧ tYes σ2 H2 fun b H3 =>
        if b = true then te σ2 H3 fun y H4 => ∃ acc, H4 D = some (.lst acc) ∧ acc.length < sizeLine ∧ Nx (upd H4 D (.lst (acc ++ [y]))) else Nx H3) := by
  let Pv : Nat → Hp → Prop := fun i H => ∃ ys, H D = some (.lst ys) ∧ ys.length = i ∧ Same H1 H ∧ ∀ j y, ys[j]? = some y → R j y H
  refine ⟨fun i m H => m = n - i ∧ i ≤ n ∧ Pv i H, ⟨n, by simp, Nat.zero_le _, [], upd_same, rfl, same_new hD _, fun j y h => by simp at h⟩, ?_⟩
  rintro i m H ⟨rfl, hi, ys, hy, hl, hS, hR⟩
  by_cases hlt : i < n
  · refine .inr ⟨hgo i H hlt hS, Pv (i + 1), fun H' p' => ⟨n - (i + 1), by omega, rfl, hlt, p'⟩, fun x H' yl => ?_⟩
    have q := hs i H x H' (fun y H4 => ∃ acc, H4 D = some (.lst acc) ∧ acc.length < sizeLine ∧ Pv (i + 1) (upd H4 D (.lst (acc ++ [y])))) hlt hS yl fun y H4 s4 r4 => ?_
    · exact q
    · refine ⟨ys, s4 _ _ hy, by omega, ys ++ [y], upd_same, by rw [List.length_append, hl]; rfl, same_put hD (hS.trans s4) _, fun j z hz => ?_⟩
      have k : Tk H4 (upd H4 D (.lst (ys ++ [y]))) := tk_upd fun vs e => by rw [s4 _ _ hy] at e; cases e
      by_cases hj : j < ys.length
      · rw [List.getElem?_append_left hj] at hz
        exact mono _ _ _ _ ((Tk.same s4).trans k) (hR j z hz)
      · rw [List.getElem?_append_right (by omega)] at hz
        have e : j - ys.length = 0 := by
          by_cases e : j - ys.length = 0
          · exact e
          · rw [List.getElem?_eq_none (by simp; omega)] at hz; cases hz
        rw [e] at hz
        cases hz
        have : j = i := by omega
        subst this
        exact mono _ _ _ _ k r4
  · have e : i = n := by omega
    subst e
    exact .inl ⟨hst H hS, hd H ys hS hy hl hR⟩
/-- values that are known -/
theorem lc_pure {J : It} {n : Nat} {g : TG} {te : TE} {vs : List Nat} {σ : L2.St} {H1 : Hp} {D : Addr} {Qd : Hp → Prop} (f : Nat → V)
    (hn : n < sizeLine) (hD : H1 D = none) (hgo : ∀ i H, i < n → Same H1 H → J.go i H) (hst : ∀ H, Same H1 H → J.stop n H)
    (hs : ∀ i H x H' (Qn : VK), i < n → Same H1 H → J.yld i H x H' → (∀ H4, Same H H4 → Qn (f i) H4) → g x (wipe σ vs) H' fun σ2 H2 => wipe σ2 vs = wipe σ vs ∧ te σ2 H2 Qn)
    (hd : ∀ H, Same H1 H → H D = some (.lst ((List.range n).map f)) → Qd H) :
    ∃ W : Nat → Nat → Hp → Prop, (∃ m, W 0 m (upd H1 D (.lst []))) ∧ ∀ i m H, W i m H →
      (J.stop i H ∧ Qd H) ∨ (J.go i H ∧ ∃ Nx : Hp → Prop, (∀ H', Nx H' → ∃ m', m' < m ∧ W (i + 1) m' H') ∧ ∀ x H', J.yld i H x H' → g x (wipe σ vs) H' fun σ2 H2 => wipe σ2 vs = wipe σ vs ∧ tYes σ2 H2 fun b H3 =>
        if b = true then te σ2 H3 fun y H4 => ∃ acc, H4 D = some (.lst acc) ∧ acc.length < sizeLine ∧ Nx (upd H4 D (.lst (acc ++ [y]))) else Nx H3) := by
  refine lc_map (fun i y _ => y = f i) (fun _ _ _ _ _ h => h) hn hD hgo hst (fun i H x H' Qn hi hS yl k => hs i H x H' Qn hi hS yl fun H4 s4 => k _ _ s4 rfl) fun H ys hS hy hl hR => hd H hS ?_
  have e : ys = (List.range n).map f := by
    refine List.ext_getElem? fun i => ?_
    by_cases hi : i < n
    · have h1 := List.getElem?_eq_getElem (l := ys) (i := i) (by omega)
      rw [h1, hR i _ h1, List.getElem?_map, List.getElem?_range hi]
      rfl
    · rw [List.getElem?_eq_none (by omega), List.getElem?_eq_none (by simp; omega)]
  rw [← e]; exact hy
theorem Itt.go_of {K : PySem.W.Frag} {H : Hp} {a : Addr} {xs : List V} {i : Nat} (h : H a = some (.tup xs)) (hi : i < xs.length) : (Itt K a).go i H := ⟨xs, xs[i], SqT.of h, by simp [hi]⟩
theorem Itt.stop_of {K : PySem.W.Frag} {H : Hp} {a : Addr} {xs : List V} (h : H a = some (.tup xs)) : (Itt K a).stop xs.length H := ⟨xs, SqT.of h, Nat.le_refl _⟩
theorem Itt.yld_of {K : PySem.W.Frag} {H H' : Hp} {a : Addr} {xs : List V} {i : Nat} {x : V} (h : H a = some (.tup xs)) (y : (Itt K a).yld i H x H') : H' = H ∧ xs[i]? = some x := ⟨y.1, y.2 xs (SqT.of h)⟩
theorem Itl.go_of {K : PySem.W.Frag} {H : Hp} {a : Addr} {xs : List V} {i : Nat} (h : H a = some (.lst xs)) (hi : i < xs.length) : (Itl K a).go i H := ⟨xs, xs[i], SqL.of h, by simp [hi]⟩
theorem Itl.stop_of {K : PySem.W.Frag} {H : Hp} {a : Addr} {xs : List V} (h : H a = some (.lst xs)) : (Itl K a).stop xs.length H := ⟨xs, SqL.of h, Nat.le_refl _⟩
theorem Itl.yld_of {K : PySem.W.Frag} {H H' : Hp} {a : Addr} {xs : List V} {i : Nat} {x : V} (h : H a = some (.lst xs)) (y : (Itl K a).yld i H x H') : H' = H ∧ xs[i]? = some x := ⟨y.1, y.2 xs (SqL.of h)⟩
/-! ### the rules over K by its name -/
section
variable {X : Cx} (K : PySem.W.Frag) {w : World}
theorem kix_tup (e : X.K = K) : IxR X (rIxT K) := by subst e; exact ix_tup
theorem kix_list (e : X.K = K) : IxR X (rIxL K) := by subst e; exact ix_list
theorem kix_kdict (e : X.K = K) (e2 : X.w = w) : IxR X (rIxD K w) := by subst e; subst e2; exact ix_kdict
theorem kin_seq (e : X.K = K) : OpR X (compareOp .In) (rIn K false) := by subst e; exact op_in_seq
theorem knotIn_seq (e : X.K = K) : OpR X (compareOp .NotIn) (rIn K true) := by subst e; exact op_notIn_seq
theorem klen_seq (e : X.K = K) : CallR X (.builtin "len") (fun xs H Q => ∃ p ys, xs = [.ref p] ∧ (SqL K H p ys ∨ SqT K H p ys) ∧ Q (.int ys.length) H) := by subst e; exact call_len_seq
theorem ksl_tup (e : X.K = K) : SlR X (rSlA K) := by subst e; exact sl_tupA
theorem kcat_tup (e : X.K = K) : OpR X (binaryOp .Add) (rCatA K) := by subst e; exact op_catA
theorem keqD (e : X.K = K) (hu : X.A.units + 64 < cLine) : OpR X (compareOp .Eq) (rEqD K) := by subst e; exact op_eqD hu
theorem kneD (e : X.K = K) (hu : X.A.units + 64 < cLine) : OpR X (compareOp .NotEq) (rNeD K) := by subst e; exact op_neD hu
theorem kinD (e : X.K = K) (hu : X.A.units + 65 < cLine) : OpR X (compareOp .In) (rInD K) := by subst e; exact op_inD hu
theorem knotInD (e : X.K = K) (hu : X.A.units + 65 < cLine) : OpR X (compareOp .NotIn) (rNotInD K) := by subst e; exact op_notInD hu
theorem knoneIn (e : X.K = K) (hu : X.A.units + 64 < cLine) : OpR X (compareOp .In) (rNoneIn K false) := by subst e; exact op_noneIn hu
theorem klist_of (e : X.K = K) : CallR X (.type "list") (fun xs H Q => ∃ p ys, xs = [.ref p] ∧ (SqL K H p ys ∨ SqT K H p ys) ∧ ∀ l, H l = none → Q (.ref l) (upd H l (.lst ys))) := by subst e; exact call_list_of
theorem ktuple_of (e : X.K = K) : CallR X (.type "tuple") (fun xs H Q => ∃ p ys, xs = [.ref p] ∧ ((SqL K H p ys ∧ ∀ l, H l = none → Q (.ref l) (upd H l (.tup ys))) ∨ (SqT K H p ys ∧ Q (.ref p) H))) := by subst e; exact call_tuple_of
theorem kall (e : X.K = K) (hc : X.calm = true) : CallR X (.builtin "all") (fun xs H Q => ∃ a, xs = [.ref a] ∧ (∃ n, SqL K H a ((List.range n).map fun _ => V.bl true)) ∧ Q (.bl true) H) := by
  subst e
  intro pins s σ H xs us Q I r h
  obtain ⟨a, rfl, ⟨n, hs⟩, q⟩ := h
  refine cr_all hc pins s σ H _ us Q I r ⟨a, (List.range n).map fun _ => true, rfl, by rw [List.map_map]; exact hs, ?_⟩
  have e : (((List.range n).map fun _ => true).all id) = true := by simp
  rw [e]; exact q
theorem knotIn_kd {d : Addr} {es : Array DictEntry} {n : Nat} (D : KDict K w d es n) (e : X.K = K) (e2 : X.w = w) : OpR X (compareOp .NotIn) (fun x y H Q => ∃ (z : Str) (r : Option Value), x = .str z ∧ y = .ref d ∧ PySem.W.nsIn K d z = some r ∧ Q (.bl (!r.isSome)) H) := by subst e; subst e2; exact op_notIn_kd D
theorem kfld {e : Expr} {f : Str} {pos : Pos} {ta : TE} (eK : X.K = K) (he : PE X e ta) (hb : attributeBase e f X.env (eval e X.env) = eval e X.env) : PE X (.Attribute e f pos) (tFld K ta f) := by subst eK; exact pe_fld he hb
theorem kpg_tup {es : List Expr} {k : Nat} {t : TGs} {n : Nat} {pos : Pos} (eK : X.K = K) (hc : X.calm = true) (h : PGs X es t) (hn : (assignEach es X.env).length = n := by rfl) (hst : (assignEach es X.env).findIdx? (·.1) = none := by rfl) : PG X (.Tuple es k pos) (gTup K n t) := by subst eK; exact pg_tup hc h hn hst
variable {K} in
theorem kdct {d : Addr} {es : Array DictEntry} {n : Nat} (D : KDict K w d es n) {x : Str} {v : V} (h : ∃ u, PySem.W.nsIn K d x = some (some u) ∧ RelV v u) : KDct K w d x v := h.elim fun u q => ⟨es, n, u, D.at_, D.lit, q.1, q.2⟩
end
end K11
set_option Elab.async false
set_option linter.all false
set_option maxRecDepth 100000
set_option maxHeartbeats 4000000
namespace K11
open PySem PySem.Spec PyProof.Rows L2
abbrev letters : Str := "abcdefghijklmnopqrstuvwxyz"
abbrev noNames : List V := [.str "if", .str "fork", .str "each", .str "fold", .str "start", .str "await", .str "max", .str "min"]
structure WordOk (x : Str) : Prop where
  lo : 1 ≤ x.length
  hi : x.length ≤ 8
  sg : ∀ c ∈ x.cps.toList, c ∈ letters.cps.toList
structure NameOk (x : Str) : Prop extends WordOk x where
  no : inV (.str x) noNames = false
section
variable {P : Program} {w : World} {K : PySem.W.Frag} {mg : Str → Option Value} {base : Heap}
def spIsInteger : Sp := fun vs H Q _ => ∃ i : Int, vs = [.int i] ∧ Q (.bl true) H
theorem sc_is_integer : FnScope ["value"] ["value"] (defScope s_is_integer) := ⟨rfl, rfl, rfl, by decide +kernel, rfl, by decide +kernel, by decide +kernel⟩
theorem ok_is_integer (T : Txt w K mg) : C8.Cal P w K mg base 1 "is_integer" spIsInteger [] := by
  refine T.f_is_integer.cal sc_is_integer (fun vs H Q E h => by obtain ⟨i, rfl, _⟩ := h; rfl) fun f cdv A outer s H vs Q E hr h => ?_
  obtain ⟨i, rfl, q⟩ := h
  refine ⟨_, (pss_one (ps_ret (pe_and (pe_callB call_isB (by rfl) T.z_isinstance (by decide +kernel) (pa_cons (pv 0) (pa_cons (pe_bltn (by rfl) T.z_int (by decide +kernel) (RelV_ty "int")) pa_nil))) (pe_one (pe_not (pe_callB call_isB (by rfl) T.z_isinstance (by decide +kernel) (pa_cons (pv 0) (pa_cons (pe_bltn (by rfl) T.z_bool (by decide +kernel) (RelV_ty "bool")) pa_nil)))))))), ?_⟩
  refine ⟨_, rfl, _, .ii, _, rfl, iteT ⟨_, rfl, _, .ib, _, rfl, q⟩⟩
def spIsValue : Sp := fun vs H Q _ => ∃ i : Int, vs = [.int i] ∧ 0 ≤ i ∧ i < 1000003 ∧ Q (.bl true) H
theorem sc_is_value : FnScope ["value"] ["value"] (defScope s_is_value) := ⟨rfl, rfl, rfl, by decide +kernel, rfl, by decide +kernel, by decide +kernel⟩
theorem ok_is_value (T : Txt w K mg) (C_is_integer : C8.Cal P w K mg base 1 "is_integer" spIsInteger []) : C8.Cal P w K mg base 2 "is_value" spIsValue [] := by
  refine T.f_is_value.cal sc_is_value (fun vs H Q E h => by obtain ⟨i, rfl, _⟩ := h; rfl) fun f cdv A outer s H vs Q E hr h => ?_
  obtain ⟨i, rfl, h0, h1, q⟩ := h
  refine ⟨_, (pss_one (ps_ret (pe_and (C8.pe_c C_is_integer hr (by omega) rfl (pa_cons (pv 0) pa_nil)) (pe_one (pe_chain op_le op_lt pe_int (pv 0) (C8.pe_gc rfl T.PRIME)))))), ?_⟩
  refine ⟨_, rfl, i, rfl, _, rfl, iteT ⟨_, rfl, _, _, rfl, rfl, _, rfl, ?_⟩⟩
  exact iteD h0 ⟨_, _, rfl, rfl, dT h1 q⟩
def spIsWord : Sp := fun vs H Q _ => ∃ x : Str, vs = [.str x] ∧ WordOk x ∧ ∀ H', Same H H' → Q (.bl true) H'
theorem sc_is_word : FnScope ["value", "sign"] ["value"] (defScope s_is_word) := ⟨rfl, rfl, rfl, by decide +kernel, rfl, by decide +kernel, by decide +kernel⟩
theorem ok_is_word (T : Txt w K mg) : C8.Cal P w K mg base 1 "is_word" spIsWord [] := by
  refine T.f_is_word.cal sc_is_word (fun vs H Q E h => by obtain ⟨i, rfl, _⟩ := h; rfl) fun f cdv A outer s H vs Q E hr h => ?_
  obtain ⟨x, rfl, ok, q⟩ := h
  refine ⟨_, (pss_cons (ps_if (PW.pt (pw_or (pt_not (pt_val (pe_callB call_isB (by rfl) T.z_isinstance (by decide +kernel) (pa_cons (pv 0) (pa_cons (pe_bltn (by rfl) T.z_str (by decide +kernel) (RelV_ty "str")) pa_nil))))) (pw_or1 (pt_not (pt_chain op_le op_le pe_int (pe_callB call_len_str (by rfl) T.z_len (by decide +kernel) (pa_cons (pv 0) pa_nil)) (C8.pe_gc rfl T.MOST_LETTERS)))))) (pss_one (ps_ret pe_bl)) pss_nil) 
    (pss_one (ps_ret (pe_callB (kall K rfl rfl) (by rfl) T.z_all (by decide +kernel) (pa_cons (pe_lc (own := [("sign", 1)]) rfl sc_is_word.nd (pi_str (pv 0)) (blkOk_by (N := ["value", "sign"]) (sc := defScope s_is_word) (by decide +kernel)) (fun _ _ _ _ _ => (pg_name (i := 1) sc_is_word.nd rfl (Or.inl rfl))) (fun _ _ _ _ _ => pts_nil) (fun _ _ _ _ _ => (pe_cmpR op_in_sign (pv 1) (C8.pe_gc rfl T.LETTERS) (by rfl)))) pa_nil))))), ?_⟩
  have h1 := ok.lo
  have h2 := ok.hi
  refine ⟨_, rfl, _, .ss, _, rfl, iteF ⟨_, rfl, _, rfl, le_line (by omega), _, _, rfl, rfl, _, rfl, ?_⟩⟩
  refine iteD (by omega : (1 : Int) ≤ (x.length : Int)) ⟨_, _, rfl, rfl, _, rfl, iteN (by omega : (x.length : Int) ≤ 8) ?_⟩
  refine ⟨_, rfl, x, rfl, fun D hD => lc_pure (n := x.length) (fun _ => V.bl true) (lt_line (by omega)) hD (fun i H hi _ => hi) (fun _ _ => Nat.le_refl _) (fun i H1 v H' Qn hi hS yl k => ?_) fun H' hS hD' => ?_⟩
  · obtain ⟨rfl, c, hc, rfl⟩ := yl
    exact ⟨rfl, _, rfl, c, _, rfl, rfl, dT (ok.sg c (by rw [← Array.getElem?_toList] at hc; exact List.mem_of_getElem? hc)) (k _ (Same.refl _))⟩
  · exact ⟨_, rfl, ⟨_, SqL.of hD'⟩, q _ hS⟩
def spIsName : Sp := fun vs H Q _ => ∃ x : Str, vs = [.str x] ∧ NameOk x ∧ ∀ H', Same H H' → Q (.bl true) H'
theorem sc_is_name : FnScope ["value"] ["value"] (defScope s_is_name) := ⟨rfl, rfl, rfl, by decide +kernel, rfl, by decide +kernel, by decide +kernel⟩
theorem ok_is_name (T : Txt w K mg) (C_is_word : C8.Cal P w K mg base 1 "is_word" spIsWord []) : C8.Cal P w K mg base 2 "is_name" spIsName [] := by
  refine T.f_is_name.cal sc_is_name (fun vs H Q E h => by obtain ⟨i, rfl, _⟩ := h; rfl) fun f cdv A outer s H vs Q E hr h => ?_
  obtain ⟨x, rfl, ok, q⟩ := h
  refine ⟨_, (pss_one (ps_ret (pe_and (C8.pe_c C_is_word hr (by omega) rfl (pa_cons (pv 0) pa_nil)) (pe_one (pe_cmpR (knotIn_seq K rfl) (pv 0) (C8.pe_gc rfl T.NO_NAMES) (by rfl)))))), ?_⟩
  refine ⟨_, rfl, x, rfl, ok.toWordOk, fun H' hS => ⟨_, rfl, iteT ⟨_, rfl, _, _, rfl, .inr (T.t_NO_NAMES H'), rfl, rfl, ?_⟩⟩⟩
  have e := ok.no
  show Q (.bl (!inV (.str x) noNames)) H'
  rw [e]
  exact q _ hS
/-- a pair of words -/
def DP (H : Hp) (p : Str × Int) (v : V) : Prop := ∃ a, v = .ref a ∧ H a = some (.tup [.str p.1, .int p.2])
structure PairOk (p : Str × Int) : Prop where
  nm : NameOk p.1
  lo : 0 < p.2
  hi : p.2 < 1000003
def spIsPair : Sp := fun vs H Q _ => ∃ (v : V) (p : Str × Int), vs = [v] ∧ DP H p v ∧ PairOk p ∧ ∀ H', Same H H' → Q (.bl true) H'
theorem sc_is_pair : FnScope ["value"] ["value"] (defScope s_is_pair) := ⟨rfl, rfl, rfl, by decide +kernel, rfl, by decide +kernel, by decide +kernel⟩
theorem ok_is_pair (T : Txt w K mg) (C_is_name : C8.Cal P w K mg base 2 "is_name" spIsName []) (C_is_value : C8.Cal P w K mg base 2 "is_value" spIsValue []) : C8.Cal P w K mg base 3 "is_pair" spIsPair [] := by
  refine T.f_is_pair.cal sc_is_pair (fun vs H Q E h => by obtain ⟨i, _, rfl, _⟩ := h; rfl) fun f cdv A outer s H vs Q E hr h => ?_
  obtain ⟨v, p, rfl, ⟨a, rfl, ha⟩, ok, q⟩ := h
  refine ⟨_, (pss_cons (ps_if (PW.pt (pw_or (pt_not (pt_val (pe_callB call_isB (by rfl) T.z_isinstance (by decide +kernel) (pa_cons (pv 0) (pa_cons (pe_bltn (by rfl) T.z_tuple (by decide +kernel) (RelV_ty "tuple")) pa_nil))))) (pw_or1 (pt_cmpR op_ne (pe_callB (klen_seq K rfl) (by rfl) T.z_len (by decide +kernel) (pa_cons (pv 0) pa_nil)) pe_int (nomark _))))) (pss_one (ps_ret pe_bl)) pss_nil) 
    (pss_one (ps_ret (pe_and (C8.pe_c C_is_name hr (by omega) rfl (pa_cons (pe_ix (kix_tup K rfl) (pv 0) pe_int (fun _ _ => rfl)) pa_nil)) (pe_and (C8.pe_c C_is_value hr (by omega) rfl (pa_cons (pe_ix (kix_tup K rfl) (pv 0) pe_int (fun _ _ => rfl)) pa_nil)) (pe_one (pe_cmpR op_gt (pe_ix (kix_tup K rfl) (pv 0) pe_int (fun _ _ => rfl)) pe_int (nomark _)))))))), ?_⟩
  have h1 := ok.lo
  have h2 := ok.hi
  refine ⟨_, rfl, _, .tt ha, _, rfl, iteF ⟨_, rfl, _, _, rfl, .inr (SqT.of ha), rfl, _, rfl, iteF ?_⟩⟩
  refine ⟨_, rfl, _, _, _, _, rfl, rfl, SqT.of ha, at0, p.1, rfl, ok.nm, fun H1 s1 => ⟨_, rfl, iteT ?_⟩⟩
  refine ⟨_, rfl, _, _, _, _, rfl, rfl, SqT.of (s1 _ _ ha), at1, p.2, rfl, by omega, by omega, _, rfl, iteT ?_⟩
  refine ⟨_, rfl, _, _, _, _, rfl, rfl, SqT.of (s1 _ _ ha), at1, _, _, rfl, rfl, dT (by omega : p.2 > 0) (q _ s1)⟩
end
end K11
set_option Elab.async false
set_option linter.all false
set_option maxRecDepth 100000
set_option maxHeartbeats 4000000
namespace K11
open PySem PySem.Spec PyProof.Rows L2
/-- pairs of words at values -/
def DPs (H : Hp) : List (Str × Int) → List V → Prop
  | [], vs => vs = []
  | p :: ps, vs => ∃ v r, vs = v :: r ∧ DP H p v ∧ DPs H ps r
theorem DP.mono {H H' : Hp} (k : Tk H H') {p : Str × Int} {v : V} (h : DP H p v) : DP H' p v := h.elim fun a d => ⟨a, d.1, k _ _ d.2⟩
theorem DPs.mono {H H' : Hp} (k : Tk H H') : ∀ {ps : List (Str × Int)} {vs : List V}, DPs H ps vs → DPs H' ps vs
  | [], _, h => h
  | _ :: _, _, ⟨v, r, e, h, d⟩ => ⟨v, r, e, h.mono k, DPs.mono k d⟩
theorem DPs.length : ∀ {H : Hp} {ps : List (Str × Int)} {vs : List V}, DPs H ps vs → vs.length = ps.length
  | _, [], _, h => by rw [show _ = _ from h]; rfl
  | _, _ :: _, _, ⟨v, r, e, _, d⟩ => by rw [e, List.length_cons, List.length_cons, DPs.length d]
theorem DPs.get : ∀ {H : Hp} {ps : List (Str × Int)} {vs : List V}, DPs H ps vs → ∀ {i : Nat} {v : V}, vs[i]? = some v → ∃ p, ps[i]? = some p ∧ DP H p v
  | _, [], _, h, i, v, q => by rw [show _ = _ from h] at q; simp at q
  | _, s :: ss, _, ⟨u, r, e, hs, d⟩, i, v, q => by
    subst e
    cases i with
    | zero => simp at q; subst q; exact ⟨s, rfl, hs⟩
    | succ i => simpa using DPs.get d (i := i) (v := v) (by simpa using q)
/-- the words at an address -/
def DW (H : Hp) (ps : List (Str × Int)) (a : Addr) : Prop := ∃ vs, H a = some (.tup vs) ∧ DPs H ps vs
theorem DW.mono {H H' : Hp} (k : Tk H H') {ps : List (Str × Int)} {a : Addr} (h : DW H ps a) : DW H' ps a := h.elim fun vs d => ⟨vs, k _ _ d.1, d.2.mono k⟩
structure WordsOk (ps : List (Str × Int)) : Prop where
  pr : ∀ p ∈ ps, PairOk p
  up : ∀ i p q, ps[i]? = some p → ps[i + 1]? = some q → p.1.cps.toList < q.1.cps.toList
  len : ps.length ≤ 5
section
variable {P : Program} {w : World} {K : PySem.W.Frag} {mg : Str → Option Value} {base : Heap}
def spIsWords : Sp := fun vs H Q _ => ∃ (a : Addr) (ps : List (Str × Int)), vs = [.ref a] ∧ DW H ps a ∧ WordsOk ps ∧ ∀ H', Same H H' → Q (.bl true) H'
theorem sc_is_words : FnScope ["value", "pair", "at"] ["value"] (defScope s_is_words) := ⟨rfl, rfl, rfl, by decide +kernel, rfl, by decide +kernel, by decide +kernel⟩
theorem ok_is_words (T : Txt w K mg) (C_is_pair : C8.Cal P w K mg base 3 "is_pair" spIsPair []) : C8.Cal P w K mg base 4 "is_words" spIsWords [] := by
  refine T.f_is_words.cal sc_is_words (fun vs H Q E h => by obtain ⟨i, _, rfl, _⟩ := h; rfl) fun f cdv A outer s H vs Q E hr h => ?_
  obtain ⟨a, ps, rfl, ⟨ws, ha, hd⟩, ok, q⟩ := h
  have hl := hd.length
  have h5 := ok.len
  refine ⟨_, (pss_cons (ps_if (PW.pt (pw_or (pt_not (pt_val (pe_callB call_isB (by rfl) T.z_isinstance (by decide +kernel) (pa_cons (pv 0) (pa_cons (pe_bltn (by rfl) T.z_tuple (by decide +kernel) (RelV_ty "tuple")) pa_nil))))) (pw_or1 (pt_not (pt_val (pe_callB (kall K rfl rfl) (by rfl) T.z_all (by decide +kernel) (pa_cons (pe_lc (own := [("pair", 1)]) rfl sc_is_words.nd (pi_tup (pv 0)) (blkOk_by (N := ["value", "pair", "at"]) (sc := defScope s_is_words) (by decide +kernel)) (fun _ _ _ _ _ => (pg_name (i := 1) sc_is_words.nd rfl (Or.inl rfl))) (fun _ _ _ _ _ => pts_nil) (fun _ _ _ _ _ => (C8.pe_c C_is_pair hr (by omega) rfl (pa_cons (pv 1) pa_nil)))) pa_nil))))))) (pss_one (ps_ret pe_bl)) pss_nil) 
    (pss_one (ps_ret (pe_callB (kall K rfl rfl) (by rfl) T.z_all (by decide +kernel) (pa_cons (pe_lc (own := [("at", 2)]) rfl sc_is_words.nd (pi_range2 rfl T.z_range (pa_cons pe_int (pa_cons (pe_callB (klen_seq K rfl) (by rfl) T.z_len (by decide +kernel) (pa_cons (pv 0) pa_nil)) pa_nil))) (blkOk_by (N := ["value", "pair", "at"]) (sc := defScope s_is_words) (by decide +kernel)) (fun _ _ _ _ _ => (pg_name (i := 2) sc_is_words.nd rfl (Or.inl rfl))) (fun _ _ _ _ _ => pts_nil) (fun _ _ _ _ _ => (pe_cmpR op_lt_str (pe_ix (kix_tup K rfl) (pe_ix (kix_tup K rfl) (pv 0) (pe_op op_sub (pv 2) pe_int) (fun _ _ => rfl)) pe_int (fun _ _ => rfl)) (pe_ix (kix_tup K rfl) (pe_ix (kix_tup K rfl) (pv 0) (pv 2) (fun _ _ => rfl)) pe_int (fun _ _ => rfl)) (nomark _)))) pa_nil))))), ?_⟩
  refine ⟨_, rfl, _, .tt ha, _, rfl, iteF ?_⟩
  refine ⟨_, rfl, _, rfl, ⟨_, SqT.of ha⟩, fun D hD => lc_pure (n := ws.length) (fun _ => V.bl true) (lt_line (by omega)) hD (fun i H1 hi hS => Itt.go_of (hS _ _ ha) hi) (fun _ hS => Itt.stop_of (hS _ _ ha)) (fun i H1 v H' Qn hi hS yl k => ?_) fun H' hS hD' => ?_⟩
  · obtain ⟨rfl, hv⟩ := Itt.yld_of (hS _ _ ha) yl
    obtain ⟨p, hp, hdp⟩ := hd.get hv
    exact ⟨rfl, _, rfl, v, p, rfl, hdp.mono (Tk.same hS), ok.pr p (List.mem_of_getElem? hp), fun H2 s2 => k _ s2⟩
  refine ⟨_, rfl, ⟨_, SqL.of hD'⟩, _, rfl, iteF ?_⟩
  have ha' := hS _ _ ha
  refine ⟨_, rfl, _, _, rfl, .inr (SqT.of ha'), 1, ws.length, rfl, ⟨by decide, by decide, by omega, by omega⟩, fun D2 hD2 => lc_pure (n := ((ws.length : Int) - 1).toNat) (fun _ => V.bl true) (lt_line (by omega)) hD2 (fun i H1 hi hS => hi) (fun _ hS => Nat.le_refl _) (fun i H1 v H2 Qn hi hS2 yl k => ?_) fun H2 hS2 hD2' => ⟨_, rfl, ⟨_, SqL.of hD2'⟩, q _ (hS.trans hS2)⟩⟩
  obtain ⟨rfl, rfl⟩ := yl
  have ha2 := hS2 _ _ ha'
  have hi1 : i + 1 < ws.length := by omega
  have g0 := List.getElem?_eq_getElem (l := ws) (i := i) (by omega)
  have g1 := List.getElem?_eq_getElem (l := ws) (i := i + 1) hi1
  obtain ⟨p0, e0, a0, v0, d0⟩ := (hd.mono (Tk.same (hS.trans hS2))).get g0
  obtain ⟨p1, e1, a1, v1, d1⟩ := (hd.mono (Tk.same (hS.trans hS2))).get g1
  have i0 : atI ws ((1 + (i : Int)) - 1) = some (.ref a0) := by
    have e : (1 + (i : Int)) - 1 = ((i : Nat) : Int) := by omega
    rw [e]
    exact atI_nat (by rw [g0, v0])
  have i1 : atI ws (1 + (i : Int)) = some (.ref a1) := by
    have e : (1 + (i : Int)) = ((i + 1 : Nat) : Int) := by omega
    rw [e]
    exact atI_nat (by rw [g1, v1])
  refine ⟨rfl, ?_⟩
  refine ⟨_, rfl, _, rfl, _, _, rfl, rfl, _, _, _, _, rfl, rfl, SqT.of ha2, i0, _, _, _, _, rfl, rfl, SqT.of d0, at0, ?_⟩
  refine ⟨_, rfl, _, rfl, _, _, _, _, rfl, rfl, SqT.of ha2, i1, _, _, _, _, rfl, rfl, SqT.of d1, at0, _, _, rfl, rfl, ?_⟩
  exact dT (ok.up i p0 p1 e0 e1) (k _ (Same.refl _))
def spNeedWords : Sp := fun vs H Q _ => ∃ (a : Addr) (ps : List (Str × Int)), vs = [.ref a] ∧ DW H ps a ∧ WordsOk ps ∧ ∀ H', Same H H' → Q (.ref a) H'
theorem sc_need_words : FnScope ["value"] ["value"] (defScope s_need_words) := ⟨rfl, rfl, rfl, by decide +kernel, rfl, by decide +kernel, by decide +kernel⟩
theorem ok_need_words (T : Txt w K mg) (C_is_words : C8.Cal P w K mg base 4 "is_words" spIsWords []) : C8.Cal P w K mg base 5 "need_words" spNeedWords [] := by
  refine T.f_need_words.cal sc_need_words (fun vs H Q E h => by obtain ⟨i, _, rfl, _⟩ := h; rfl) fun f cdv A outer s H vs Q E hr h => ?_
  obtain ⟨a, ps, rfl, ha, ok, q⟩ := h
  refine ⟨_, (pss_cons (ps_if (pt_not (pt_val (C8.pe_c C_is_words hr (by omega) rfl (pa_cons (pv 0) pa_nil)))) (pss_one ps_never) pss_nil) 
    (pss_one (ps_ret (pv 0)))), ?_⟩
  exact ⟨_, rfl, a, ps, rfl, ha, ok, fun H' hS => ⟨_, rfl, iteF ⟨_, rfl, q _ hS⟩⟩⟩
/-! ### one of -/
def spIsOneOf (K : PySem.W.Frag) : Sp := fun vs H Q _ => ∃ (x : Str) (a : Addr) (xs : List Str), vs = [.str x, .ref a] ∧ SqT K H a (xs.map V.str) ∧ x ∈ xs ∧ Q (.bl true) H
theorem inV_mem {x : Str} {xs : List Str} (h : x ∈ xs) : inV (.str x) (xs.map V.str) = true := by
  unfold inV
  rw [List.any_eq_true]
  exact ⟨.str x, List.mem_map_of_mem h, by simp [eqV]⟩
theorem flat_strs (xs : List Str) : (xs.map V.str).all flatV = true := by
  rw [List.all_eq_true]
  intro v hv
  obtain ⟨y, _, rfl⟩ := List.mem_map.mp hv
  rfl
theorem sc_is_one_of : FnScope ["value", "ops"] ["value", "ops"] (defScope s_is_one_of) := ⟨rfl, rfl, rfl, by decide +kernel, rfl, by decide +kernel, by decide +kernel⟩
theorem ok_is_one_of (T : Txt w K mg) : C8.Cal P w K mg base 1 "is_one_of" (spIsOneOf K) [] := by
  refine T.f_is_one_of.cal sc_is_one_of (fun vs H Q E h => by obtain ⟨i, _, _, rfl, _⟩ := h; rfl) fun f cdv A outer s H vs Q E hr h => ?_
  obtain ⟨x, a, xs, rfl, ha, hm, q⟩ := h
  refine ⟨_, (pss_one (ps_ret (pe_and (pe_callB call_isB (by rfl) T.z_isinstance (by decide +kernel) (pa_cons (pv 0) (pa_cons (pe_bltn (by rfl) T.z_str (by decide +kernel) (RelV_ty "str")) pa_nil))) (pe_one (pe_cmpR (kin_seq K rfl) (pv 0) (pv 1) (by rfl)))))), ?_⟩
  refine ⟨_, rfl, _, .ss, _, rfl, iteT ⟨_, rfl, _, rfl, _, _, rfl, .inr ha, rfl, flat_strs xs, ?_⟩⟩
  show Q (.bl (inV (.str x) (xs.map V.str))) H
  rw [inV_mem hm]
  exact q
def spBegins : Sp := fun vs H Q _ => ∃ (a : Addr) (x : Str) (r : List V), vs = [.ref a] ∧ H a = some (.tup (.str x :: r)) ∧ Q (.bl true) H
theorem sc_begins_with_word : FnScope ["value"] ["value"] (defScope s_begins_with_word) := ⟨rfl, rfl, rfl, by decide +kernel, rfl, by decide +kernel, by decide +kernel⟩
theorem ok_begins_with_word (T : Txt w K mg) : C8.Cal P w K mg base 1 "begins_with_word" spBegins [] := by
  refine T.f_begins_with_word.cal sc_begins_with_word (fun vs H Q E h => by obtain ⟨i, _, _, rfl, _⟩ := h; rfl) fun f cdv A outer s H vs Q E hr h => ?_
  obtain ⟨a, x, r, rfl, ha, q⟩ := h
  refine ⟨_, (pss_one (ps_ret (pe_and (pe_callB call_isB (by rfl) T.z_isinstance (by decide +kernel) (pa_cons (pv 0) (pa_cons (pe_bltn (by rfl) T.z_tuple (by decide +kernel) (RelV_ty "tuple")) pa_nil))) (pe_and (pe_cmpR op_gt (pe_callB (klen_seq K rfl) (by rfl) T.z_len (by decide +kernel) (pa_cons (pv 0) pa_nil)) pe_int (nomark _)) (pe_one (pe_callB call_isB (by rfl) T.z_isinstance (by decide +kernel) (pa_cons (pe_ix (kix_tup K rfl) (pv 0) pe_int (fun _ _ => rfl)) (pa_cons (pe_bltn (by rfl) T.z_str (by decide +kernel) (RelV_ty "str")) pa_nil)))))))), ?_⟩
  refine ⟨_, rfl, _, .tt ha, _, rfl, iteT ⟨_, rfl, _, _, rfl, .inr (SqT.of ha), _, _, rfl, rfl, _, rfl, iteD (by rw [List.length_cons]; omega) ?_⟩⟩
  exact ⟨_, rfl, _, _, _, _, rfl, rfl, SqT.of ha, at0, _, .ss, q⟩
end
end K11
set_option Elab.async false
set_option linter.all false
set_option maxRecDepth 100000
set_option maxHeartbeats 4000000
namespace K11
open PySem PySem.Spec PyProof.Rows L2
abbrev opsL : List Str := ["+", "-", "*", "max", "min", "<", "="]
abbrev addL : List Str := ["+", "*", "max", "min"]
abbrev foldL : List Str := ["+", "-", "*", "max", "min"]
def Exp.dep : Exp → Nat
  | .num _ => 0
  | .word _ => 0
  | .loc _ => 0
  | .op _ l r => max l.dep r.dep + 1
def WFE (L : List Str) : Exp → Prop
  | .num n => 0 ≤ n ∧ n < 1000003
  | .word x => NameOk x
  | .loc x => NameOk x ∧ x ∈ L
  | .op o l r => o ∈ opsL ∧ WFE L l ∧ WFE L r
def EOk (L : List Str) (e : Exp) : Prop := WFE L e ∧ e.dep ≤ 2
/-- the tickets behind a statement -/
def after (T : List Str) : Stm → List Str
  | .start t _ => T ++ [t]
  | _ => T
mutual
def WFS (d : Nat) (L T : List Str) : Stm → Prop
  | .set x e => NameOk x ∧ EOk L e
  | .add x o e => NameOk x ∧ o ∈ addL ∧ EOk L e
  | .cond e a b => EOk L e ∧ 0 < d ∧ a.length ≤ 6 ∧ WFB (d - 1) L T a ∧ b.length ≤ 6 ∧ WFB (d - 1) L T b
  | .fork bs => 0 < d ∧ 1 ≤ bs.length ∧ bs.length ≤ 4 ∧ WFBs (d - 1) L T bs
  | .each x e b => NameOk x ∧ EOk L e ∧ 0 < d ∧ b.length ≤ 6 ∧ WFB (d - 1) (L ++ [x]) T b
  | .fold x o i e l => NameOk x ∧ o ∈ foldL ∧ NameOk i ∧ EOk L e ∧ EOk (L ++ [i]) l
  | .start t b => NameOk t ∧ 0 < d ∧ b.length ≤ 6 ∧ WFB (d - 1) L T b
  | .wait t => NameOk t ∧ t ∈ T
def WFB (d : Nat) (L : List Str) (T : List Str) : List Stm → Prop
  | [] => True
  | s :: ss => WFS d L T s ∧ WFB d L (after T s) ss
def WFBs (d : Nat) (L T : List Str) : List (List Stm) → Prop
  | [] => True
  | b :: bs => b.length ≤ 6 ∧ WFB d L T b ∧ WFBs d L T bs
end
/-- tickets ahead of the i-th statement -/
def tick : List Str → List Stm → Nat → List Str
  | T, _, 0 => T
  | T, [], _ + 1 => T
  | T, s :: r, i + 1 => tick (after T s) r i
theorem tick_zero (T : List Str) (ss : List Stm) : tick T ss 0 = T := by cases ss <;> rfl
theorem tick_succ : ∀ (T : List Str) (ss : List Stm) (i : Nat) (s : Stm), ss[i]? = some s → tick T ss (i + 1) = after (tick T ss i) s
  | T, [], i, s, h => by simp at h
  | T, u :: r, 0, s, h => by
    simp at h; subst h
    rw [tick_zero]
    show tick (after T u) r 0 = _
    rw [tick_zero]
  | T, u :: r, i + 1, s, h => by
    show tick (after T u) r (i + 1) = after (tick (after T u) r i) s
    exact tick_succ (after T u) r i s (by simpa using h)
theorem WFB.at : ∀ {d : Nat} {L T : List Str} {ss : List Stm} {i : Nat} {s : Stm}, WFB d L T ss → ss[i]? = some s → WFS d L (tick T ss i) s
  | _, _, _, [], i, s, _, h => by simp at h
  | _, _, _, u :: r, 0, s, ⟨h1, _⟩, h => by simp at h; subst h; rw [tick_zero]; exact h1
  | _, _, _, u :: r, i + 1, s, ⟨_, h2⟩, h => WFB.at (i := i) h2 (by simpa using h)
theorem WFBs.at : ∀ {d : Nat} {L T : List Str} {bs : List (List Stm)} {i : Nat} {b : List Stm}, WFBs d L T bs → bs[i]? = some b → b.length ≤ 6 ∧ WFB d L T b
  | _, _, _, [], i, s, _, h => by simp at h
  | _, _, _, u :: r, 0, s, ⟨h1, h2, _⟩, h => by simp at h; subst h; exact ⟨h1, h2⟩
  | _, _, _, u :: r, i + 1, s, ⟨_, _, h2⟩, h => WFBs.at (i := i) h2 (by simpa using h)
theorem tick_length : ∀ (T : List Str) (ss : List Stm) (i : Nat), (tick T ss i).length ≤ T.length + i
  | T, ss, 0 => by rw [tick_zero]; exact Nat.le_refl _
  | T, [], i + 1 => Nat.le_add_right _ _
  | T, u :: r, i + 1 => by
    have h := tick_length (after T u) r i
    have h2 : (after T u).length ≤ T.length + 1 := by cases u <;> simp [after]
    show (tick (after T u) r i).length ≤ _
    omega
/-! ### kinds and sizes -/
def Exp.kd : Exp → Str
  | .num _ => "number"
  | .word _ => "word"
  | .loc _ => "local"
  | .op _ _ _ => "do"
def Exp.sz : Exp → Nat
  | .num _ => 2
  | .word _ => 2
  | .loc _ => 2
  | .op _ _ _ => 4
def Stm.kd : Stm → Str
  | .set _ _ => "set"
  | .add _ _ _ => "add"
  | .cond _ _ _ => "if"
  | .fork _ => "fork"
  | .each _ _ _ => "each"
  | .fold _ _ _ _ _ => "fold"
  | .start _ _ => "start"
  | .wait _ => "await"
def Stm.sz : Stm → Nat
  | .set _ _ => 3
  | .add _ _ _ => 4
  | .cond _ _ _ => 4
  | .fork _ => 2
  | .each _ _ _ => 4
  | .fold _ _ _ _ _ => 6
  | .start _ _ => 3
  | .wait _ => 2
theorem DE.hd {H : Hp} : ∀ {e : Exp} {v : V}, DE H e v → ∃ a r, v = .ref a ∧ H a = some (.tup (.str e.kd :: r)) ∧ (V.str e.kd :: r).length = e.sz
  | .num _, _, ⟨a, e, h⟩ => ⟨a, _, e, h, rfl⟩
  | .word _, _, ⟨a, e, h⟩ => ⟨a, _, e, h, rfl⟩
  | .loc _, _, ⟨a, e, h⟩ => ⟨a, _, e, h, rfl⟩
  | .op _ _ _, _, ⟨a, _, _, e, h, _⟩ => ⟨a, _, e, h, rfl⟩
theorem DS.hd {H : Hp} : ∀ {s : Stm} {v : V}, DS H s v → ∃ a r, v = .ref a ∧ H a = some (.tup (.str s.kd :: r)) ∧ (V.str s.kd :: r).length = s.sz
  | .set _ _, _, ⟨a, _, e, h, _⟩ => ⟨a, _, e, h, rfl⟩
  | .add _ _ _, _, ⟨a, _, e, h, _⟩ => ⟨a, _, e, h, rfl⟩
  | .cond _ _ _, _, ⟨a, _, _, _, _, _, e, h, _⟩ => ⟨a, _, e, h, rfl⟩
  | .fork _, _, ⟨a, _, _, e, h, _⟩ => ⟨a, _, e, h, rfl⟩
  | .each _ _ _, _, ⟨a, _, _, _, e, h, _⟩ => ⟨a, _, e, h, rfl⟩
  | .fold _ _ _ _ _, _, ⟨a, _, _, e, h, _⟩ => ⟨a, _, e, h, rfl⟩
  | .start _ _, _, ⟨a, _, _, e, h, _⟩ => ⟨a, _, e, h, rfl⟩
  | .wait _, _, ⟨a, e, h⟩ => ⟨a, _, e, h, rfl⟩
theorem Txt.parts {w : World} {K : PySem.W.Frag} {mg : Str → Option Value} (T : Txt w K mg) : ∀ e : Exp, ∃ u, PySem.W.nsIn K (ad K "PARTS") e.kd = some (some u) ∧ RelV (.int e.sz) u
  | .num _ => T.v_PARTS_number
  | .word _ => T.v_PARTS_word
  | .loc _ => T.v_PARTS_local
  | .op _ _ _ => T.v_PARTS_do
theorem Txt.sizes {w : World} {K : PySem.W.Frag} {mg : Str → Option Value} (T : Txt w K mg) : ∀ s : Stm, ∃ u, PySem.W.nsIn K (ad K "SIZES") s.kd = some (some u) ∧ RelV (.int s.sz) u
  | .set _ _ => T.v_SIZES_set
  | .add _ _ _ => T.v_SIZES_add
  | .cond _ _ _ => T.v_SIZES_if
  | .fork _ => T.v_SIZES_fork
  | .each _ _ _ => T.v_SIZES_each
  | .fold _ _ _ _ _ => T.v_SIZES_fold
  | .start _ _ => T.v_SIZES_start
  | .wait _ => T.v_SIZES_await
section
variable {P : Program} {w : World} {K : PySem.W.Frag} {mg : Str → Option Value} {base : Heap}
/-- an expression of depth below n is one -/
def spIsExpr (n : Nat) : Sp := fun vs H Q _ => ∃ (v : V) (l : Addr) (e : Exp) (L : List Str), vs = [v, .ref l] ∧ DE H e v ∧ H l = some (.lst (L.map V.str)) ∧ WFE L e ∧ e.dep < n ∧ ∀ H', Same H H' → Q (.bl true) H'
theorem cut2 {x y z u : V} : cutV [x, y, z, u] (some 2) none = [z, u] := by rfl
theorem sc_is_expression : FnScope ["value", "local_names", "part"] ["value", "local_names"] (defScope s_is_expression) := ⟨rfl, rfl, rfl, by decide +kernel, rfl, by decide +kernel, by decide +kernel⟩
theorem is_expression_1 {k : Nat} {n : Nat} (T : Txt w K mg) (hk : 2 ≤ k) (C_is_value : C8.Cal P w K mg base 2 "is_value" spIsValue []) (C_is_name : C8.Cal P w K mg base 2 "is_name" spIsName []) (C_is_one_of : C8.Cal P w K mg base 1 "is_one_of" (spIsOneOf K) []) (C_begins_with_word : C8.Cal P w K mg base 1 "begins_with_word" spBegins [])
    (C_is_expression : C8.Cal P w K mg base k "is_expression" (spIsExpr n) []) : C8.Cal P w K mg base (k + 1) "is_expression" (spIsExpr (n + 1)) [] := by
  obtain ⟨es, kn, D_PARTS⟩ := T.d_PARTS
  refine T.f_is_expression.cal sc_is_expression (fun vs H Q E h => by obtain ⟨_, _, _, _, rfl, _⟩ := h; rfl) fun f cdv A outer s H vs Q E hr h => ?_
  obtain ⟨v, l, e, L, rfl, de, hl, wf, hd, q⟩ := h
  refine ⟨_, (pss_cons (ps_if (PW.pt (pw_or (pt_not (pt_val (C8.pe_c C_begins_with_word hr (by omega) rfl (pa_cons (pv 0) pa_nil)))) (pw_or (pt_cmpR (knotIn_kd K D_PARTS rfl rfl) (pe_ix (kix_tup K rfl) (pv 0) pe_int (fun _ _ => rfl)) (C8.pe_gc rfl T.PARTS) (by rfl)) (pw_or1 (pt_cmpR op_ne (pe_callB (klen_seq K rfl) (by rfl) T.z_len (by decide +kernel) (pa_cons (pv 0) pa_nil)) (pe_ix (kix_kdict K rfl rfl) (C8.pe_gc rfl T.PARTS) (pe_ix (kix_tup K rfl) (pv 0) pe_int (fun _ _ => rfl)) (fun _ _ => rfl)) (nomark _)))))) (pss_one (ps_ret pe_bl)) pss_nil) 
    (pss_cons (ps_if (pt_cmpR op_eq (pe_ix (kix_tup K rfl) (pv 0) pe_int (fun _ _ => rfl)) pe_str (nomark _)) (pss_one (ps_ret (C8.pe_c C_is_value hr (by omega) rfl (pa_cons (pe_ix (kix_tup K rfl) (pv 0) pe_int (fun _ _ => rfl)) pa_nil)))) pss_nil) 
    (pss_cons (ps_if (pt_cmpR op_eq (pe_ix (kix_tup K rfl) (pv 0) pe_int (fun _ _ => rfl)) pe_str (nomark _)) (pss_one (ps_ret (C8.pe_c C_is_name hr (by omega) rfl (pa_cons (pe_ix (kix_tup K rfl) (pv 0) pe_int (fun _ _ => rfl)) pa_nil)))) pss_nil) 
    (pss_cons (ps_if (pt_cmpR op_eq (pe_ix (kix_tup K rfl) (pv 0) pe_int (fun _ _ => rfl)) pe_str (nomark _)) (pss_one (ps_ret (pe_and (C8.pe_c C_is_name hr (by omega) rfl (pa_cons (pe_ix (kix_tup K rfl) (pv 0) pe_int (fun _ _ => rfl)) pa_nil)) (pe_one (pe_cmpR (kin_seq K rfl) (pe_ix (kix_tup K rfl) (pv 0) pe_int (fun _ _ => rfl)) (pv 1) (by rfl)))))) pss_nil) 
    (pss_one (ps_ret (pe_and (C8.pe_c C_is_one_of hr (by omega) rfl (pa_cons (pe_ix (kix_tup K rfl) (pv 0) pe_int (fun _ _ => rfl)) (pa_cons (C8.pe_gc rfl T.OPS) pa_nil))) (pe_one (pe_callB (kall K rfl rfl) (by rfl) T.z_all (by decide +kernel) (pa_cons (pe_lc (own := [("part", 2)]) rfl sc_is_expression.nd (pi_tup (pe_slice (ksl_tup K rfl) (pv 0) (po_some pe_int) po_none)) (blkOk_by (N := ["value", "local_names", "part"]) (sc := defScope s_is_expression) (by decide +kernel)) (fun _ _ _ _ _ => (pg_name (i := 2) sc_is_expression.nd rfl (Or.inl rfl))) (fun _ _ _ _ _ => pts_nil) (fun _ _ _ _ _ => (C8.pe_c C_is_expression hr (by omega) rfl (pa_cons (pv 2) (pa_cons (pv 1) pa_nil))))) pa_nil)))))))))), ?_⟩
  obtain ⟨a, r, rfl, ha, hn⟩ := de.hd
  obtain ⟨u, hu, ru⟩ := T.parts e
  refine ⟨_, rfl, a, _, r, rfl, ha, _, rfl, iteF ⟨_, rfl, _, _, _, _, rfl, rfl, SqT.of ha, at0, _, _, rfl, rfl, hu, _, rfl, iteF ?_⟩⟩
  refine ⟨_, rfl, _, _, rfl, .inr (SqT.of ha), _, rfl, _, _, _, _, rfl, rfl, SqT.of ha, at0, _, _, _, rfl, rfl, kdct D_PARTS ⟨u, hu, ru⟩, rfl, _, rfl, ?_⟩
  refine iteN (by rw [hn]) ?_
  cases e with
  | num n =>
    obtain ⟨_, e0, ha⟩ := de
    cases e0
    refine ⟨_, rfl, _, _, _, _, rfl, rfl, SqT.of ha, at0, rfl, _, rfl, iteD (by decide) ?_⟩
    exact ⟨_, rfl, _, _, _, _, rfl, rfl, SqT.of ha, at1, n, rfl, wf.1, wf.2, q _ (Same.refl _)⟩
  | word x =>
    obtain ⟨_, e0, ha⟩ := de
    cases e0
    refine ⟨_, rfl, _, _, _, _, rfl, rfl, SqT.of ha, at0, rfl, _, rfl, iteDF (by decide) ?_⟩
    refine ⟨_, rfl, _, _, _, _, rfl, rfl, SqT.of ha, at0, rfl, _, rfl, iteD (by decide) ?_⟩
    exact ⟨_, rfl, _, _, _, _, rfl, rfl, SqT.of ha, at1, x, rfl, wf, q⟩
  | loc x =>
    obtain ⟨_, e0, ha⟩ := de
    cases e0
    refine ⟨_, rfl, _, _, _, _, rfl, rfl, SqT.of ha, at0, rfl, _, rfl, iteDF (by decide) ?_⟩
    refine ⟨_, rfl, _, _, _, _, rfl, rfl, SqT.of ha, at0, rfl, _, rfl, iteDF (by decide) ?_⟩
    refine ⟨_, rfl, _, _, _, _, rfl, rfl, SqT.of ha, at0, rfl, _, rfl, iteD (by decide) ?_⟩
    refine ⟨_, rfl, _, _, _, _, rfl, rfl, SqT.of ha, at1, x, rfl, wf.1, fun H1 s1 => ⟨_, rfl, iteT ?_⟩⟩
    have ha1 := s1 _ _ ha
    refine ⟨_, rfl, _, _, _, _, rfl, rfl, SqT.of ha1, at1, _, rfl, _, _, rfl, .inl (SqL.of (s1 _ _ hl)), rfl, flat_strs L, ?_⟩
    show Q (.bl (inV (.str x) (L.map V.str))) H1
    rw [inV_mem wf.2]
    exact q _ s1
  | op o l1 r1 =>
    obtain ⟨_, vl, vr, e0, ha, dl, dr⟩ := de
    cases e0
    refine ⟨_, rfl, _, _, _, _, rfl, rfl, SqT.of ha, at0, rfl, _, rfl, iteDF (by decide) ?_⟩
    refine ⟨_, rfl, _, _, _, _, rfl, rfl, SqT.of ha, at0, rfl, _, rfl, iteDF (by decide) ?_⟩
    refine ⟨_, rfl, _, _, _, _, rfl, rfl, SqT.of ha, at0, rfl, _, rfl, iteDF (by decide) ?_⟩
    have h1 : l1.dep < n := by
      have := hd
      simp only [Exp.dep] at this
      omega
    have h2 : r1.dep < n := by
      have := hd
      simp only [Exp.dep] at this
      omega
    refine ⟨_, rfl, _, _, _, _, rfl, rfl, SqT.of ha, at1, o, _, opsL, rfl, T.t_OPS H, wf.1, _, rfl, iteT ?_⟩
    refine ⟨_, rfl, 2, rfl, _, _, rfl, SqT.of ha, fun e => absurd e (by show ¬ (HT.sIx 4 0 (some 2) = 0 ∧ HT.sIx 4 4 none = 4); decide), fun _ p hp => ⟨p, rfl, ⟨_, SqT.of upd_same⟩, fun D hD => lc_pure (n := 2) (fun _ => V.bl true) (lt_line (by omega)) hD (fun i H1 hi hS => Itt.go_of (hS _ _ upd_same) (by rw [cut2]; exact hi)) (fun _ hS => Itt.stop_of (hS _ _ upd_same)) (fun i H1 v H' Qn hi hS yl k => ?_) fun H' hS hD' => ⟨_, rfl, ⟨_, SqL.of hD'⟩, q _ ((same_new hp _).trans hS)⟩⟩⟩
    obtain ⟨rfl, hv⟩ := Itt.yld_of (hS _ _ upd_same) yl
    have s2 := (same_new hp _).trans hS
    have two : ∃ e, DE H e v ∧ WFE L e ∧ e.dep < n := by
      rw [cut2] at hv
      match i, hi with
      | 0, _ => simp at hv; subst hv; exact ⟨l1, dl, wf.2.1, h1⟩
      | 1, _ => simp at hv; subst hv; exact ⟨r1, dr, wf.2.2, h2⟩
    obtain ⟨e, d1, w1, e1⟩ := two
    exact ⟨rfl, _, rfl, _, rfl, v, l, e, L, rfl, d1.mono (Tk.same s2), s2 _ _ hl, w1, e1, fun H2 s3 => k _ s3⟩
theorem ok_is_expression (T : Txt w K mg) (C_is_value : C8.Cal P w K mg base 2 "is_value" spIsValue []) (C_is_name : C8.Cal P w K mg base 2 "is_name" spIsName []) (C_is_one_of : C8.Cal P w K mg base 1 "is_one_of" (spIsOneOf K) []) (C_begins_with_word : C8.Cal P w K mg base 1 "begins_with_word" spBegins []) :
    ∀ n : Nat, C8.Cal P w K mg base (2 + n) "is_expression" (spIsExpr n) []
  | 0 => T.f_is_expression.none fun vs H Q E h => by
    obtain ⟨_, _, _, _, _, _, _, _, h, _⟩ := h
    omega
  | n + 1 => is_expression_1 (k := 2 + n) T (by omega) C_is_value C_is_name C_is_one_of C_begins_with_word (ok_is_expression T C_is_value C_is_name C_is_one_of C_begins_with_word n)
end
end K11
set_option Elab.async false
set_option linter.all false
set_option maxRecDepth 100000
set_option maxHeartbeats 4000000
namespace K11
open PySem PySem.Spec PyProof.Rows L2
section
variable {P : Program} {w : World} {K : PySem.W.Frag} {mg : Str → Option Value} {base : Heap}
def Stm.setLike : Stm → Bool
  | .set _ _ => true
  | .add _ _ _ => true
  | .fold _ _ _ _ _ => true
  | _ => false
def spIsSet : Sp := fun vs H Q _ => ∃ (v : V) (l : Addr) (s : Stm) (L T : List Str) (d : Nat), vs = [v, .ref l] ∧ DS H s v ∧ H l = some (.lst (L.map V.str)) ∧ L.length ≤ 100 ∧ WFS d L T s ∧ s.setLike = true ∧ ∀ H', Same H H' → Q (.bl true) H'
theorem sc_is_set : FnScope ["value", "local_names"] ["value", "local_names"] (defScope s_is_set) := ⟨rfl, rfl, rfl, by decide +kernel, rfl, by decide +kernel, by decide +kernel⟩
theorem ok_is_set (T : Txt w K mg) (C_is_name : C8.Cal P w K mg base 2 "is_name" spIsName []) (C_is_one_of : C8.Cal P w K mg base 1 "is_one_of" (spIsOneOf K) []) (C_is_expression : C8.Cal P w K mg base 5 "is_expression" (spIsExpr 3) []) : C8.Cal P w K mg base 6 "is_set" spIsSet [] := by
  refine T.f_is_set.cal sc_is_set (fun vs H Q E h => by obtain ⟨_, _, _, _, _, _, rfl, _⟩ := h; rfl) fun f cdv A outer s H vs Q E hr h => ?_
  obtain ⟨v, l, s, L, Tk0, d, rfl, ds, hl, hL, wf, sl, q⟩ := h
  refine ⟨_, (pss_cons (ps_if (pt_not (pt_val (C8.pe_c C_is_name hr (by omega) rfl (pa_cons (pe_ix (kix_tup K rfl) (pv 0) pe_int (fun _ _ => rfl)) pa_nil)))) (pss_one (ps_ret pe_bl)) pss_nil) 
    (pss_cons (ps_if (pt_cmpR op_eq (pe_ix (kix_tup K rfl) (pv 0) pe_int (fun _ _ => rfl)) pe_str (nomark _)) (pss_one (ps_ret (C8.pe_c C_is_expression hr (by omega) rfl (pa_cons (pe_ix (kix_tup K rfl) (pv 0) pe_int (fun _ _ => rfl)) (pa_cons (pv 1) pa_nil))))) pss_nil) 
    (pss_cons (ps_if (pt_cmpR op_eq (pe_ix (kix_tup K rfl) (pv 0) pe_int (fun _ _ => rfl)) pe_str (nomark _)) (pss_one (ps_ret (pe_and (C8.pe_c C_is_one_of hr (by omega) rfl (pa_cons (pe_ix (kix_tup K rfl) (pv 0) pe_int (fun _ _ => rfl)) (pa_cons (C8.pe_gc rfl T.ADD_OPS) pa_nil))) (pe_one (C8.pe_c C_is_expression hr (by omega) rfl (pa_cons (pe_ix (kix_tup K rfl) (pv 0) pe_int (fun _ _ => rfl)) (pa_cons (pv 1) pa_nil))))))) pss_nil) 
    (pss_cons (ps_if (PW.pt (pw_or (pt_not (pt_val (C8.pe_c C_is_one_of hr (by omega) rfl (pa_cons (pe_ix (kix_tup K rfl) (pv 0) pe_int (fun _ _ => rfl)) (pa_cons (C8.pe_gc rfl T.FOLD_OPS) pa_nil))))) (pw_or1 (pt_not (pt_val (C8.pe_c C_is_name hr (by omega) rfl (pa_cons (pe_ix (kix_tup K rfl) (pv 0) pe_int (fun _ _ => rfl)) pa_nil))))))) (pss_one (ps_ret pe_bl)) pss_nil) 
    (pss_one (ps_ret (pe_and (C8.pe_c C_is_expression hr (by omega) rfl (pa_cons (pe_ix (kix_tup K rfl) (pv 0) pe_int (fun _ _ => rfl)) (pa_cons (pv 1) pa_nil))) (pe_one (C8.pe_c C_is_expression hr (by omega) rfl (pa_cons (pe_ix (kix_tup K rfl) (pv 0) pe_int (fun _ _ => rfl)) (pa_cons (pe_op op_cat (pv 1) (pe_lst (pa_cons (pe_ix (kix_tup K rfl) (pv 0) pe_int (fun _ _ => rfl)) pa_nil))) pa_nil))))))))))), ?_⟩
  cases s with
  | set x e =>
    obtain ⟨a, ve, e0, ha, de⟩ := ds
    cases e0
    refine ⟨_, rfl, _, _, _, _, rfl, rfl, SqT.of ha, at1, x, rfl, wf.1, fun H1 s1 => ⟨_, rfl, iteF ?_⟩⟩
    have ha1 := s1 _ _ ha
    refine ⟨_, rfl, _, _, _, _, rfl, rfl, SqT.of ha1, at0, rfl, _, rfl, iteD (by decide) ?_⟩
    exact ⟨_, rfl, _, _, _, _, rfl, rfl, SqT.of ha1, at2, _, rfl, ve, l, e, L, rfl, de.mono (Tk.same s1), s1 _ _ hl, wf.2.1, Nat.lt_succ_of_le wf.2.2, fun H2 s2 => q _ (s1.trans s2)⟩
  | add x o e =>
    obtain ⟨a, ve, e0, ha, de⟩ := ds
    cases e0
    refine ⟨_, rfl, _, _, _, _, rfl, rfl, SqT.of ha, at1, x, rfl, wf.1, fun H1 s1 => ⟨_, rfl, iteF ?_⟩⟩
    have ha1 := s1 _ _ ha
    refine ⟨_, rfl, _, _, _, _, rfl, rfl, SqT.of ha1, at0, rfl, _, rfl, iteDF (by decide) ?_⟩
    refine ⟨_, rfl, _, _, _, _, rfl, rfl, SqT.of ha1, at0, rfl, _, rfl, iteD (by decide) ?_⟩
    refine ⟨_, rfl, _, _, _, _, rfl, rfl, SqT.of ha1, at2, o, _, addL, rfl, T.t_ADD_OPS H1, wf.2.1, _, rfl, iteT ?_⟩
    exact ⟨_, rfl, _, _, _, _, rfl, rfl, SqT.of ha1, at3, _, rfl, ve, l, e, L, rfl, de.mono (Tk.same s1), s1 _ _ hl, wf.2.2.1, Nat.lt_succ_of_le wf.2.2.2, fun H2 s2 => q _ (s1.trans s2)⟩
  | fold x o i e b =>
    obtain ⟨a, ve, vl, e0, ha, de, dl⟩ := ds
    cases e0
    refine ⟨_, rfl, _, _, _, _, rfl, rfl, SqT.of ha, at1, x, rfl, wf.1, fun H1 s1 => ⟨_, rfl, iteF ?_⟩⟩
    have ha1 := s1 _ _ ha
    refine ⟨_, rfl, _, _, _, _, rfl, rfl, SqT.of ha1, at0, rfl, _, rfl, iteDF (by decide) ?_⟩
    refine ⟨_, rfl, _, _, _, _, rfl, rfl, SqT.of ha1, at0, rfl, _, rfl, iteDF (by decide) ?_⟩
    refine ⟨_, rfl, _, _, _, _, rfl, rfl, SqT.of ha1, at2, o, _, foldL, rfl, T.t_FOLD_OPS H1, wf.2.1, _, rfl, iteF ?_⟩
    refine ⟨_, rfl, _, _, _, _, rfl, rfl, SqT.of ha1, at3, i, rfl, wf.2.2.1, fun H2 s2 => ⟨_, rfl, iteF ?_⟩⟩
    have ha2 := s2 _ _ ha1
    have s12 := s1.trans s2
    refine ⟨_, rfl, _, _, _, _, rfl, rfl, SqT.of ha2, at4, _, rfl, ve, l, e, L, rfl, de.mono (Tk.same s12), s12 _ _ hl, wf.2.2.2.1.1, Nat.lt_succ_of_le wf.2.2.2.1.2, fun H3 s3 => ⟨_, rfl, iteT ?_⟩⟩
    have ha3 := s3 _ _ ha2
    have s13 := s12.trans s3
    refine ⟨_, rfl, _, _, _, _, rfl, rfl, SqT.of ha3, at5, _, rfl, _, rfl, _, _, _, _, rfl, rfl, SqT.of ha3, at3, le_line (by show 1 ≤ 1000; decide), fun p hp => ?_⟩
    have s4 := same_new hp (.lst [V.str i])
    refine ⟨l, p, _, _, rfl, rfl, s4 _ _ (s13 _ _ hl), upd_same, le_line (by rw [List.length_map]; exact Nat.succ_le_succ (Nat.le_trans hL (by decide))), fun p2 hp2 => ?_⟩
    have s5 := same_new hp2 (.lst (L.map V.str ++ [V.str i]))
    have s15 := s13.trans (s4.trans s5)
    exact ⟨vl, p2, b, L ++ [i], rfl, dl.mono (Tk.same s15), by rw [upd_same, List.map_append]; rfl, wf.2.2.2.2.1, Nat.lt_succ_of_le wf.2.2.2.2.2, fun H2 s2 => q _ (s15.trans s2)⟩
  | cond _ _ _ => cases sl
  | fork _ => cases sl
  | each _ _ _ => cases sl
  | start _ _ => cases sl
  | wait _ => cases sl
def spIsStm (d : Nat) : Sp := fun vs H Q _ => ∃ (v : V) (l t : Addr) (s : Stm) (L T : List Str), vs = [v, .ref l, .ref t] ∧ DS H s v ∧ H l = some (.lst (L.map V.str)) ∧ L.length + d ≤ 100 ∧ H t = some (.lst (T.map V.str)) ∧ T.length + 6 * d + 6 ≤ 100 ∧ WFS d L T s ∧ ∀ H', Same H H' → Q (.bl true) H'
/-- blocks of depth below d -/
def spIsBlk (d : Nat) : Sp := fun vs H Q _ => ∃ (a l t : Addr) (b : List Stm) (L T : List Str), vs = [.ref a, .ref l, .ref t] ∧ DB H b a ∧ H l = some (.lst (L.map V.str)) ∧ L.length + d ≤ 101 ∧ H t = some (.lst (T.map V.str)) ∧ T.length + 6 * d + 6 ≤ 100 ∧ 0 < d ∧ b.length ≤ 6 ∧ WFB (d - 1) L T b ∧ ∀ H', Same H H' → Q (.bl true) H'
theorem sc_is_statement : FnScope ["value", "local_names", "tickets", "b", "block"] ["value", "local_names", "tickets"] (defScope s_is_statement) := ⟨rfl, rfl, rfl, by decide +kernel, rfl, by decide +kernel, by decide +kernel⟩
theorem is_statement_1 {k d : Nat} (T : Txt w K mg) (hk : 6 ≤ k) (C_is_name : C8.Cal P w K mg base 2 "is_name" spIsName []) (C_begins_with_word : C8.Cal P w K mg base 1 "begins_with_word" spBegins []) (C_is_expression : C8.Cal P w K mg base 5 "is_expression" (spIsExpr 3) []) (C_is_set : C8.Cal P w K mg base 6 "is_set" spIsSet [])
    (C_is_block : C8.Cal P w K mg base k "is_block" (spIsBlk d) []) : C8.Cal P w K mg base (k + 1) "is_statement" (spIsStm d) [] := by
  obtain ⟨es, kn, D_SIZES⟩ := T.d_SIZES
  refine T.f_is_statement.cal sc_is_statement (fun vs H Q E h => by obtain ⟨_, _, _, _, _, _, rfl, _⟩ := h; rfl) fun f cdv A outer s H vs Q E hr h => ?_
  obtain ⟨v, l, t, s, L, Tk0, rfl, ds, hl, hL, ht, hT, wf, q⟩ := h
  refine ⟨_, (pss_cons (ps_if (PW.pt (pw_or (pt_not (pt_val (C8.pe_c C_begins_with_word hr (by omega) rfl (pa_cons (pv 0) pa_nil)))) (pw_or (pt_cmpR (knotIn_kd K D_SIZES rfl rfl) (pe_ix (kix_tup K rfl) (pv 0) pe_int (fun _ _ => rfl)) (C8.pe_gc rfl T.SIZES) (by rfl)) (pw_or1 (pt_cmpR op_ne (pe_callB (klen_seq K rfl) (by rfl) T.z_len (by decide +kernel) (pa_cons (pv 0) pa_nil)) (pe_ix (kix_kdict K rfl rfl) (C8.pe_gc rfl T.SIZES) (pe_ix (kix_tup K rfl) (pv 0) pe_int (fun _ _ => rfl)) (fun _ _ => rfl)) (nomark _)))))) (pss_one (ps_ret pe_bl)) pss_nil) 
    (pss_cons (ps_if (pt_cmpR (kin_seq K rfl) (pe_ix (kix_tup K rfl) (pv 0) pe_int (fun _ _ => rfl)) (pe_tup (pa_cons pe_str (pa_cons pe_str (pa_cons pe_str pa_nil)))) (by rfl)) (pss_one (ps_ret (C8.pe_c C_is_set hr (by omega) rfl (pa_cons (pv 0) (pa_cons (pv 1) pa_nil))))) pss_nil) 
    (pss_cons (ps_if (pt_cmpR op_eq (pe_ix (kix_tup K rfl) (pv 0) pe_int (fun _ _ => rfl)) pe_str (nomark _)) (pss_one (ps_ret (pe_and (C8.pe_c C_is_expression hr (by omega) rfl (pa_cons (pe_ix (kix_tup K rfl) (pv 0) pe_int (fun _ _ => rfl)) (pa_cons (pv 1) pa_nil))) (pe_one (pe_callB (kall K rfl rfl) (by rfl) T.z_all (by decide +kernel) (pa_cons (pe_lc (own := [("b", 3)]) rfl sc_is_statement.nd (pi_tup (pe_slice (ksl_tup K rfl) (pv 0) (po_some pe_int) po_none)) (blkOk_by (N := ["value", "local_names", "tickets", "b", "block"]) (sc := defScope s_is_statement) (by decide +kernel)) (fun _ _ _ _ _ => (pg_name (i := 3) sc_is_statement.nd rfl (Or.inl rfl))) (fun _ _ _ _ _ => pts_nil) (fun _ _ _ _ _ => (C8.pe_c C_is_block hr (by omega) rfl (pa_cons (pv 3) (pa_cons (pv 1) (pa_cons (pv 2) pa_nil)))))) pa_nil)))))) pss_nil) 
    (pss_cons (ps_if (pt_cmpR op_eq (pe_ix (kix_tup K rfl) (pv 0) pe_int (fun _ _ => rfl)) pe_str (nomark _)) 
      (pss_cons (ps_if (PW.pt (pw_or (pt_not (pt_val (pe_callB call_isB (by rfl) T.z_isinstance (by decide +kernel) (pa_cons (pe_ix (kix_tup K rfl) (pv 0) pe_int (fun _ _ => rfl)) (pa_cons (pe_bltn (by rfl) T.z_tuple (by decide +kernel) (RelV_ty "tuple")) pa_nil))))) (pw_or1 (pt_not (pt_chain op_le op_le pe_int (pe_callB (klen_seq K rfl) (by rfl) T.z_len (by decide +kernel) (pa_cons (pe_ix (kix_tup K rfl) (pv 0) pe_int (fun _ _ => rfl)) pa_nil)) (C8.pe_gc rfl T.MOST_BLOCKS)))))) (pss_one (ps_ret pe_bl)) pss_nil) 
      (pss_one (ps_ret (pe_callB (kall K rfl rfl) (by rfl) T.z_all (by decide +kernel) (pa_cons (pe_lc (own := [("block", 4)]) rfl sc_is_statement.nd (pi_tup (pe_ix (kix_tup K rfl) (pv 0) pe_int (fun _ _ => rfl))) (blkOk_by (N := ["value", "local_names", "tickets", "b", "block"]) (sc := defScope s_is_statement) (by decide +kernel)) (fun _ _ _ _ _ => (pg_name (i := 4) sc_is_statement.nd rfl (Or.inl rfl))) (fun _ _ _ _ _ => pts_nil) (fun _ _ _ _ _ => (C8.pe_c C_is_block hr (by omega) rfl (pa_cons (pv 4) (pa_cons (pv 1) (pa_cons (pv 2) pa_nil)))))) pa_nil))))) pss_nil) 
    (pss_cons (ps_if (pt_not (pt_val (C8.pe_c C_is_name hr (by omega) rfl (pa_cons (pe_ix (kix_tup K rfl) (pv 0) pe_int (fun _ _ => rfl)) pa_nil)))) (pss_one (ps_ret pe_bl)) pss_nil) 
    (pss_cons (ps_if (pt_cmpR op_eq (pe_ix (kix_tup K rfl) (pv 0) pe_int (fun _ _ => rfl)) pe_str (nomark _)) 
      (pss_cons (ps_if (pt_not (pt_val (C8.pe_c C_is_expression hr (by omega) rfl (pa_cons (pe_ix (kix_tup K rfl) (pv 0) pe_int (fun _ _ => rfl)) (pa_cons (pv 1) pa_nil))))) (pss_one (ps_ret pe_bl)) pss_nil) 
      (pss_one (ps_ret (C8.pe_c C_is_block hr (by omega) rfl (pa_cons (pe_ix (kix_tup K rfl) (pv 0) pe_int (fun _ _ => rfl)) (pa_cons (pe_op op_cat (pv 1) (pe_lst (pa_cons (pe_ix (kix_tup K rfl) (pv 0) pe_int (fun _ _ => rfl)) pa_nil))) (pa_cons (pv 2) pa_nil))))))) pss_nil) 
    (pss_cons (ps_if (pt_cmpR op_eq (pe_ix (kix_tup K rfl) (pv 0) pe_int (fun _ _ => rfl)) pe_str (nomark _)) (pss_one (ps_ret (C8.pe_c C_is_block hr (by omega) rfl (pa_cons (pe_ix (kix_tup K rfl) (pv 0) pe_int (fun _ _ => rfl)) (pa_cons (pv 1) (pa_cons (pv 2) pa_nil)))))) pss_nil) 
    (pss_one (ps_ret (pe_cmpR (kin_seq K rfl) (pe_ix (kix_tup K rfl) (pv 0) pe_int (fun _ _ => rfl)) (pv 2) (by rfl))))))))))), ?_⟩
  obtain ⟨a, r, rfl, ha, hn⟩ := ds.hd
  obtain ⟨u, hu, ru⟩ := T.sizes s
  refine ⟨_, rfl, a, _, r, rfl, ha, _, rfl, iteF ⟨_, rfl, _, _, _, _, rfl, rfl, SqT.of ha, at0, _, _, rfl, rfl, hu, _, rfl, iteF ?_⟩⟩
  refine ⟨_, rfl, _, _, rfl, .inr (SqT.of ha), _, rfl, _, _, _, _, rfl, rfl, SqT.of ha, at0, _, _, _, rfl, rfl, kdct D_SIZES ⟨u, hu, ru⟩, rfl, _, rfl, ?_⟩
  refine iteN (by rw [hn]) ?_
  refine ⟨_, rfl, _, _, _, _, rfl, rfl, SqT.of ha, at0, le_line (by show 3 ≤ 1000; decide), fun p0 hp0 => ?_⟩
  have s0 := same_new hp0 (.tup [V.str "set", V.str "add", V.str "fold"])
  refine ⟨p0, _, rfl, .inr (SqT.of upd_same), rfl, rfl, _, rfl, ?_⟩
  by_cases hsl : s.setLike = true
  · have e : inV (.str s.kd) [V.str "set", V.str "add", V.str "fold"] = true := by
      cases s <;> first | rfl | cases hsl
    show if inV (.str s.kd) [V.str "set", V.str "add", V.str "fold"] = true then _ else _
    rw [e]
    refine iteT ⟨_, rfl, _, rfl, _, l, s, L, Tk0, d, rfl, ds.mono (Tk.same s0), s0 _ _ hl, by omega, wf, hsl, fun H2 s2 => q _ (s0.trans s2)⟩
  have e : inV (.str s.kd) [V.str "set", V.str "add", V.str "fold"] = false := by
    cases s <;> first | rfl | exact absurd rfl hsl
  show if inV (.str s.kd) [V.str "set", V.str "add", V.str "fold"] = true then _ else _
  rw [e]
  refine iteF ?_
  have ds0 := ds.mono (Tk.same s0)
  have hl0 := s0 _ _ hl
  have ht0 := s0 _ _ ht
  clear ha hn hu ru e ds hl ht
  generalize hH0 : upd H p0 (.tup [V.str "set", V.str "add", V.str "fold"]) = H0 at *
  clear hH0
  cases s with
  | set x e => exact absurd rfl hsl
  | add x o e => exact absurd rfl hsl
  | fold x o i e b => exact absurd rfl hsl
  | cond e b c =>
    obtain ⟨_, ve, vb, vc, xb, xc, e0, ha, de, hb, db, hc, dc⟩ := ds0
    cases e0
    obtain ⟨we, d0, lb, wb, lc, wc⟩ := wf
    refine ⟨_, rfl, _, _, _, _, rfl, rfl, SqT.of ha, at0, rfl, _, rfl, iteD (by decide) ?_⟩
    refine ⟨_, rfl, _, _, _, _, rfl, rfl, SqT.of ha, at1, _, rfl, ve, l, e, L, rfl, de, hl0, we.1, Nat.lt_succ_of_le we.2, fun H1 s1 => ⟨_, rfl, iteT ?_⟩⟩
    have ha1 := s1 _ _ ha
    refine ⟨_, rfl, 2, rfl, _, _, rfl, SqT.of ha1, fun e => absurd e (by show ¬ (HT.sIx 4 0 (some 2) = 0 ∧ HT.sIx 4 4 none = 4); decide), fun _ p hp => ⟨p, rfl, ⟨_, SqT.of upd_same⟩, fun D hD => lc_pure (n := 2) (fun _ => V.bl true) (lt_line (by omega)) hD (fun i H1 hi hS => Itt.go_of (hS _ _ upd_same) (by rw [cut2]; exact hi)) (fun _ hS => Itt.stop_of (hS _ _ upd_same)) (fun i H2 v H' Qn hi hS yl k => ?_) fun H' hS hD' => ⟨_, rfl, ⟨_, SqL.of hD'⟩, q _ ((s0.trans s1).trans ((same_new hp _).trans hS))⟩⟩⟩
    obtain ⟨rfl, hv⟩ := Itt.yld_of (hS _ _ upd_same) yl
    have s2 := s1.trans ((same_new hp _).trans hS)
    have two : ∃ x f, v = .ref x ∧ DB H0 f x ∧ f.length ≤ 6 ∧ WFB (d - 1) L Tk0 f := by
      rw [cut2] at hv
      match i, hi with
      | 0, _ => simp at hv; exact ⟨vb, b, hv.symm, ⟨xb, hb, db⟩, lb, wb⟩
      | 1, _ => simp at hv; exact ⟨vc, c, hv.symm, ⟨xc, hc, dc⟩, lc, wc⟩
    obtain ⟨x, f, rfl, d1, w1, e1⟩ := two
    exact ⟨rfl, _, rfl, _, rfl, _, rfl, x, l, t, f, L, Tk0, rfl, d1.mono (Tk.same s2), s2 _ _ hl0, by omega, s2 _ _ ht0, hT, d0, w1, e1, fun H2 s3 => k _ s3⟩
  | fork bs =>
    obtain ⟨_, vb, xs, e0, ha, hb, db⟩ := ds0
    cases e0
    obtain ⟨d0, l1, l4, wb⟩ := wf
    have hn := db.length
    refine ⟨_, rfl, _, _, _, _, rfl, rfl, SqT.of ha, at0, rfl, _, rfl, iteDF (by decide) ?_⟩
    refine ⟨_, rfl, _, _, _, _, rfl, rfl, SqT.of ha, at0, rfl, _, rfl, iteD (by decide) ?_⟩
    refine ⟨_, rfl, _, _, _, _, rfl, rfl, SqT.of ha, at1, _, .tt hb, _, rfl, iteF ?_⟩
    refine ⟨_, rfl, _, _, _, _, rfl, rfl, SqT.of ha, at1, _, _, rfl, .inr (SqT.of hb), _, _, rfl, rfl, _, rfl, iteD (by omega) ⟨_, _, rfl, rfl, _, rfl, iteN (by omega) ?_⟩⟩
    refine ⟨_, rfl, _, _, _, _, rfl, rfl, SqT.of ha, at1, _, rfl, ⟨_, SqT.of hb⟩, fun D hD => lc_pure (n := xs.length) (fun _ => V.bl true) (lt_line (by omega)) hD (fun i H1 hi hS => Itt.go_of (hS _ _ hb) hi) (fun _ hS => Itt.stop_of (hS _ _ hb)) (fun i H2 v H' Qn hi hS yl k => ?_) fun H' hS hD' => ⟨_, rfl, ⟨_, SqL.of hD'⟩, q _ (s0.trans hS)⟩⟩
    obtain ⟨rfl, hv⟩ := Itt.yld_of (hS _ _ hb) yl
    obtain ⟨f, x, hf, rfl, df⟩ := db.get hv
    obtain ⟨w1, e1⟩ := wb.at hf
    exact ⟨rfl, _, rfl, _, rfl, _, rfl, x, l, t, f, L, Tk0, rfl, df.mono (Tk.same hS), hS _ _ hl0, by omega, hS _ _ ht0, hT, d0, w1, e1, fun H2 s3 => k _ s3⟩
  | each x e b =>
    obtain ⟨_, ve, vb, xb, e0, ha, de, hb, db⟩ := ds0
    cases e0
    obtain ⟨wx, we, d0, lb, wb⟩ := wf
    refine ⟨_, rfl, _, _, _, _, rfl, rfl, SqT.of ha, at0, rfl, _, rfl, iteDF (by decide) ?_⟩
    refine ⟨_, rfl, _, _, _, _, rfl, rfl, SqT.of ha, at0, rfl, _, rfl, iteDF (by decide) ?_⟩
    refine ⟨_, rfl, _, _, _, _, rfl, rfl, SqT.of ha, at1, x, rfl, wx, fun H1 s1 => ⟨_, rfl, iteF ?_⟩⟩
    have ha1 := s1 _ _ ha
    refine ⟨_, rfl, _, _, _, _, rfl, rfl, SqT.of ha1, at0, rfl, _, rfl, iteD (by decide) ?_⟩
    refine ⟨_, rfl, _, _, _, _, rfl, rfl, SqT.of ha1, at2, _, rfl, ve, l, e, L, rfl, de.mono (Tk.same s1), s1 _ _ hl0, we.1, Nat.lt_succ_of_le we.2, fun H2 s2 => ⟨_, rfl, iteF ?_⟩⟩
    have ha2 := s2 _ _ ha1
    have s02 := s1.trans s2
    refine ⟨_, rfl, _, _, _, _, rfl, rfl, SqT.of ha2, at3, _, rfl, _, rfl, _, _, _, _, rfl, rfl, SqT.of ha2, at1, le_line (by show 1 ≤ 1000; decide), fun p hp => ?_⟩
    have s3 := same_new hp (.lst [V.str x])
    refine ⟨l, p, _, _, rfl, rfl, s3 _ _ (s02 _ _ hl0), upd_same, le_line (by rw [List.length_map]; show L.length + 1 ≤ 1000; omega), fun p2 hp2 => ?_⟩
    have s4 := same_new hp2 (.lst (L.map V.str ++ [V.str x]))
    have s5 := s02.trans (s3.trans s4)
    exact ⟨_, rfl, vb, p2, t, b, L ++ [x], Tk0, rfl, ⟨xb, s5 _ _ hb, db.mono (Tk.same s5)⟩, by rw [upd_same, List.map_append]; rfl, by rw [List.length_append, List.length_singleton]; omega, s5 _ _ ht0, hT, d0, lb, wb, fun H2 s2 => q _ (s0.trans (s5.trans s2))⟩
  | start x b =>
    obtain ⟨_, vb, xb, e0, ha, hb, db⟩ := ds0
    cases e0
    obtain ⟨wx, d0, lb, wb⟩ := wf
    refine ⟨_, rfl, _, _, _, _, rfl, rfl, SqT.of ha, at0, rfl, _, rfl, iteDF (by decide) ?_⟩
    refine ⟨_, rfl, _, _, _, _, rfl, rfl, SqT.of ha, at0, rfl, _, rfl, iteDF (by decide) ?_⟩
    refine ⟨_, rfl, _, _, _, _, rfl, rfl, SqT.of ha, at1, x, rfl, wx, fun H1 s1 => ⟨_, rfl, iteF ?_⟩⟩
    have ha1 := s1 _ _ ha
    refine ⟨_, rfl, _, _, _, _, rfl, rfl, SqT.of ha1, at0, rfl, _, rfl, iteDF (by decide) ?_⟩
    refine ⟨_, rfl, _, _, _, _, rfl, rfl, SqT.of ha1, at0, rfl, _, rfl, iteD (by decide) ?_⟩
    exact ⟨_, rfl, _, _, _, _, rfl, rfl, SqT.of ha1, at2, _, rfl, _, rfl, vb, l, t, b, L, Tk0, rfl, ⟨xb, s1 _ _ hb, db.mono (Tk.same s1)⟩, s1 _ _ hl0, by omega, s1 _ _ ht0, hT, d0, lb, wb, fun H2 s2 => q _ (s0.trans (s1.trans s2))⟩
  | wait x =>
    obtain ⟨_, e0, ha⟩ := ds0
    cases e0
    refine ⟨_, rfl, _, _, _, _, rfl, rfl, SqT.of ha, at0, rfl, _, rfl, iteDF (by decide) ?_⟩
    refine ⟨_, rfl, _, _, _, _, rfl, rfl, SqT.of ha, at0, rfl, _, rfl, iteDF (by decide) ?_⟩
    refine ⟨_, rfl, _, _, _, _, rfl, rfl, SqT.of ha, at1, x, rfl, wf.1, fun H1 s1 => ⟨_, rfl, iteF ?_⟩⟩
    have ha1 := s1 _ _ ha
    refine ⟨_, rfl, _, _, _, _, rfl, rfl, SqT.of ha1, at0, rfl, _, rfl, iteDF (by decide) ?_⟩
    refine ⟨_, rfl, _, _, _, _, rfl, rfl, SqT.of ha1, at0, rfl, _, rfl, iteDF (by decide) ?_⟩
    refine ⟨_, rfl, _, _, _, _, rfl, rfl, SqT.of ha1, at1, _, rfl, _, _, rfl, .inl (SqL.of (s1 _ _ ht0)), rfl, flat_strs Tk0, ?_⟩
    show Q (.bl (inV (.str x) (Tk0.map V.str))) H1
    rw [inV_mem wf.2]
    exact q _ (s0.trans s1)
theorem sc_is_block : FnScope ["value", "local_names", "tickets", "known", "statement"] ["value", "local_names", "tickets"] (defScope s_is_block) := ⟨rfl, rfl, rfl, by decide +kernel, rfl, by decide +kernel, by decide +kernel⟩
theorem is_block_1 {k d : Nat} (T : Txt w K mg) (C_is_statement : C8.Cal P w K mg base k "is_statement" (spIsStm d) []) : C8.Cal P w K mg base (k + 1) "is_block" (spIsBlk (d + 1)) [] := by
  refine T.f_is_block.cal sc_is_block (fun vs H Q E h => by obtain ⟨_, _, _, _, _, _, rfl, _⟩ := h; rfl) fun f cdv A outer s H vs Q E hr h => ?_
  obtain ⟨a, l, t, b, L, Tk0, rfl, ⟨xs, ha, dss⟩, hl, hL, ht, hT, _, lb, wf, q⟩ := h
  refine ⟨_, (pss_cons (ps_if (pt_not (pt_val (pe_callB call_isB (by rfl) T.z_isinstance (by decide +kernel) (pa_cons (pv 0) (pa_cons (pe_bltn (by rfl) T.z_tuple (by decide +kernel) (RelV_ty "tuple")) pa_nil))))) (pss_one (ps_ret pe_bl)) pss_nil) 
    (pss_cons (ps_set (i := 3) sc_is_block.nd rfl (Or.inl rfl) (pe_callTy (klist_of K rfl) (by rfl) T.z_list (by decide +kernel) (pa_cons (pv 2) pa_nil))) 
    (pss_cons (ps_for PassesOwn.never rfl (pi_tup (pv 0)) (pg_name (i := 4) sc_is_block.nd rfl (Or.inl rfl)) 
      (pss_cons (ps_if (pt_not (pt_val (C8.pe_c C_is_statement hr (by omega) rfl (pa_cons (pv 4) (pa_cons (pv 1) (pa_cons (pv 3) pa_nil)))))) (pss_one (ps_ret pe_bl)) pss_nil) 
      (pss_one (ps_if (pt_cmpR op_eq (pe_ix (kix_tup K rfl) (pv 4) pe_int (fun _ _ => rfl)) pe_str (nomark _)) (pss_one (ps_expr (pe_bm PySem.F.plainAttrs_list PySem.F.slot_list_append PySem.F.type_list_append mt_append (pv 3) (pa_cons (pe_ix (kix_tup K rfl) (pv 4) pe_int (fun _ _ => rfl)) pa_nil)))) pss_nil)))) 
    (pss_one (ps_ret pe_bl))))), ?_⟩
  have hn := dss.length
  refine ⟨_, rfl, _, .tt ha, _, rfl, iteF ?_⟩
  refine ⟨_, rfl, _, _, rfl, .inl (SqL.of ht), fun p hp => ?_⟩
  have s0 := same_new hp (.lst (Tk0.map V.str))
  refine ⟨_, rfl, a, rfl, ⟨_, SqT.of (s0 _ _ ha)⟩, for_tup (xs := xs) (fun i σ H' => (∃ c, σ = [some (.ref a), some (.ref l), some (.ref t), some (.ref p), c]) ∧ Same H H' ∧ H' p = some (.lst ((tick Tk0 b i).map V.str))) ⟨⟨_, rfl⟩, s0, by rw [tick_zero]; exact upd_same⟩
    (fun i σ H1 _ h => SqT.of (h.2.1 _ _ ha)) (fun i x σ H1 hx h => ?_) fun σ H1 h => ?_⟩
  · obtain ⟨⟨c, rfl⟩, s1, h1⟩ := h
    obtain ⟨st, hst, dst⟩ := dss.get hx
    have hi : i < xs.length := (List.getElem?_eq_some_iff.mp hx).1
    have hta := tick_length Tk0 b i
    refine ⟨_, rfl, _, rfl, _, rfl, x, l, p, st, L, tick Tk0 b i, rfl, dst.mono (Tk.same s1), s1 _ _ hl, by omega, h1, by omega, wf.at hst, fun H2 s2 => ⟨_, rfl, iteF ?_⟩⟩
    obtain ⟨y, r, rfl, hy, _⟩ := (dst.mono (Tk.same (s1.trans s2))).hd
    have e := tick_succ Tk0 b i st hst
    refine ⟨_, rfl, _, _, _, _, rfl, rfl, SqT.of hy, at0, rfl, _, rfl, ?_⟩
    by_cases hs : st.kd = "start"
    · refine iteD (by rw [hs]) ?_
      cases st with
      | start u b0 =>
        obtain ⟨_, vb, xb, e0, hy, _⟩ := dst.mono (Tk.same (s1.trans s2))
        cases e0
        refine ⟨_, rfl, .inl ⟨rfl, _, .inl (.inl (s2 _ _ h1))⟩, _, rfl, _, _, _, _, rfl, rfl, SqT.of hy, at1, p, _, _, rfl, rfl, s2 _ _ h1, lt_line (by rw [List.length_map]; omega), ?_⟩
        refine ⟨⟨_, rfl⟩, same_put hp (s1.trans s2) _, ?_⟩
        rw [upd_same, e, after, List.map_append]
        rfl
      | _ => exfalso; dsimp only [Stm.kd] at hs; revert hs; decide
    · refine iteDF (fun z => hs (V.str.inj z)) ⟨⟨_, rfl⟩, s1.trans s2, ?_⟩
      have e2 : after (tick Tk0 b i) st = tick Tk0 b i := by
        cases st <;> first | rfl | exact absurd rfl hs
      rw [e, e2]
      exact s2 _ _ h1
  · obtain ⟨⟨c, rfl⟩, s1, h1⟩ := h
    exact q _ s1
theorem ok_is_block (T : Txt w K mg) (C_is_name : C8.Cal P w K mg base 2 "is_name" spIsName []) (C_begins_with_word : C8.Cal P w K mg base 1 "begins_with_word" spBegins []) (C_is_expression : C8.Cal P w K mg base 5 "is_expression" (spIsExpr 3) []) (C_is_set : C8.Cal P w K mg base 6 "is_set" spIsSet []) :
    ∀ d : Nat, C8.Cal P w K mg base (6 + 2 * d) "is_block" (spIsBlk d) []
  | 0 => T.f_is_block.none fun vs H Q E h => by
    obtain ⟨_, _, _, _, _, _, _, _, _, _, _, _, h, _⟩ := h
    omega
  | d + 1 => is_block_1 (k := 6 + 2 * d + 1) T (is_statement_1 (k := 6 + 2 * d) T (by omega) C_is_name C_begins_with_word C_is_expression C_is_set (ok_is_block T C_is_name C_begins_with_word C_is_expression C_is_set d))
def POk (b : List Stm) : Prop := b.length ≤ 6 ∧ WFB 3 [] [] b
def spIsProgram : Sp := fun vs H Q _ => ∃ (a : Addr) (b : List Stm), vs = [.ref a] ∧ DB H b a ∧ POk b ∧ ∀ H', Same H H' → Q (.bl true) H'
theorem sc_is_program : FnScope ["value"] ["value"] (defScope s_is_program) := ⟨rfl, rfl, rfl, by decide +kernel, rfl, by decide +kernel, by decide +kernel⟩
theorem ok_is_program (T : Txt w K mg) (C_is_block : C8.Cal P w K mg base 14 "is_block" (spIsBlk 4) []) : C8.Cal P w K mg base 15 "is_program" spIsProgram [] := by
  refine T.f_is_program.cal sc_is_program (fun vs H Q E h => by obtain ⟨_, _, rfl, _⟩ := h; rfl) fun f cdv A outer s H vs Q E hr h => ?_
  obtain ⟨a, b, rfl, db, ok, q⟩ := h
  refine ⟨_, (pss_one (ps_ret (C8.pe_c C_is_block hr (by omega) rfl (pa_cons (pv 0) (pa_cons (pe_lst pa_nil) (pa_cons (pe_lst pa_nil) pa_nil)))))), ?_⟩
  refine ⟨_, rfl, by show 0 ≤ sizeLine; exact Nat.zero_le _, fun p hp => ⟨by show 0 ≤ sizeLine; exact Nat.zero_le _, fun p2 hp2 => ?_⟩⟩
  have s1 := same_new hp (.lst [])
  have s2 := same_new hp2 (.lst [])
  exact ⟨a, p, p2, b, [], [], rfl, db.mono (Tk.same (s1.trans s2)), s2 _ _ upd_same, by simp, upd_same, by simp, by omega, ok.1, ok.2, fun H3 s3 => q _ ((s1.trans s2).trans s3)⟩
def spNeedProgram : Sp := fun vs H Q _ => ∃ (a : Addr) (b : List Stm), vs = [.ref a] ∧ DB H b a ∧ POk b ∧ ∀ H', Same H H' → Q (.ref a) H'
theorem sc_need_program : FnScope ["value"] ["value"] (defScope s_need_program) := ⟨rfl, rfl, rfl, by decide +kernel, rfl, by decide +kernel, by decide +kernel⟩
theorem ok_need_program (T : Txt w K mg) (C_is_program : C8.Cal P w K mg base 15 "is_program" spIsProgram []) : C8.Cal P w K mg base 16 "need_program" spNeedProgram [] := by
  refine T.f_need_program.cal sc_need_program (fun vs H Q E h => by obtain ⟨_, _, rfl, _⟩ := h; rfl) fun f cdv A outer s H vs Q E hr h => ?_
  obtain ⟨a, ps, rfl, ha, ok, q⟩ := h
  refine ⟨_, (pss_cons (ps_if (pt_not (pt_val (C8.pe_c C_is_program hr (by omega) rfl (pa_cons (pv 0) pa_nil)))) (pss_one ps_never) pss_nil) 
    (pss_one (ps_ret (pv 0)))), ?_⟩
  exact ⟨_, rfl, a, ps, rfl, ha, ok, fun H' hS => ⟨_, rfl, iteF ⟨_, rfl, q _ hS⟩⟩⟩
end
end K11
set_option Elab.async false
set_option linter.all false
set_option maxRecDepth 100000
set_option maxHeartbeats 4000000
namespace K11
open PySem PySem.Spec PyProof.Rows L2
/-! ### enumerate(t) over a tuple, one argument -/
set_option maxHeartbeats 4000000 in
theorem enum_new1 {v : Value} {o : Obj} {H : Heap → Prop} (B : Begins v o H) :
    Meets (Builtin.«enumerate.__new__» ⟨[.type "enumerate", v], []⟩) (fun _ R s => H s.heap ∧
      R (.ok (.ret (.ref (s.heap.push o).objs.size))) { s with heap := (s.heap.push o).push { cls := .type "enumerate", data := .fields #[.none, .bool false, .ref s.heap.objs.size, rawInt 0, .none, .none] } }) :=
  .of_wp fun prog w A R s h => by
    obtain ⟨hp, g, d, tk, os⟩ := s
    obtain ⟨h1, h⟩ := h
    have hsub := sub_enumerate
    have begun : ∀ {A' : Around} {E : Value → Shared → Prop} {Q : Value → Shared → Prop}, Q (.ref hp.objs.size) ⟨hp.push o, g, d, tk, os⟩ → wpAny (model prog w) A' (pyIter v) Q E ⟨hp, g, d, tk, os⟩ :=
      fun q => B.iter prog w _ _ ⟨hp, g, d, tk, os⟩ _ h1 q
    wp_walk using begun
    refine wpAny_stack_any fun st => wpAny_pure ?_
    split
    · rename_i c _ _ _ _ _
      cases (c == Value.type "enumerate")
      · wp_walk using begun
        exact ⟨_, rfl, h⟩
      · wp_walk using begun
        exact ⟨_, rfl, h⟩
    · wp_walk using begun
      exact ⟨_, rfl, h⟩
theorem enum_tuple {prog : Program} {w : World} {A : Around} {E : Value → Shared → Prop} {s : Shared} {t : Addr} {items : Array Value} {Q : Value → Shared → Prop} (ht : s.heap.IsTuple t items)
    (h : ∀ h', IsEnum h' (s.heap.objs.size + 1) s.heap.objs.size 0 .none → h'.IsTupleIter s.heap.objs.size t 0 → (∀ b o, s.heap.get? b = some o → h'.get? b = some o) → Q (.ref (s.heap.objs.size + 1)) { s with heap := h' }) :
    wpAny (model prog w) A (call (.type "enumerate") [.ref t]) Q E s := by
  refine callType_new F.called_enumerate (by decide) (F.typeCall_enumerate_1 _) (F.newCall_enumerate_1 _) (fun obj => F.args_object_init_2 obj _) F.entry_enumerate_new (enum_new1 (begins_tuple t items)) ⟨ht, ?_⟩
  have hz : (s.heap.push { cls := .type "tuple_iterator", data := .fields #[.ref t, .int 0 0] }).objs.size = s.heap.objs.size + 1 := Heap.size_push ..
  show _ ∧ _
  rw [hz]
  have he : IsEnum ((s.heap.push { cls := .type "tuple_iterator", data := .fields #[.ref t, .int 0 0] }).push { cls := .type "enumerate", data := .fields #[.none, .bool false, .ref s.heap.objs.size, rawInt 0, .none, .none] }) (s.heap.objs.size + 1) s.heap.objs.size 0 .none := by
    have := Heap.get?_push_size (s.heap.push { cls := .type "tuple_iterator", data := .fields #[.ref t, .int 0 0] }) (o := { cls := .type "enumerate", data := .fields #[.none, .bool false, .ref s.heap.objs.size, rawInt 0, .none, .none] }) rfl
    rw [hz] at this; exact this
  exact ⟨⟨_, he, rfl⟩, h _ he ⟨_, Heap.get?_push_of_some _ (Heap.get?_push_size _ rfl), rfl, rfl⟩ fun b o x => Heap.get?_push_of_some _ (Heap.get?_push_of_some _ x)⟩
/-- the items of the tuple at a, each in a new pair with its place -/
def IteT (a : Addr) : It :=
  ⟨fun i H => ∃ (xs : List V) (x : V), H a = some (.tup xs) ∧ xs[i]? = some x, fun i H v H' => ∃ T x, v = .ref T ∧ H T = none ∧ H' = upd H T (.tup [.int (i : Nat), x]) ∧ ∀ xs, H a = some (.tup xs) → xs[i]? = some x, fun i H => ∃ xs : List V, H a = some (.tup xs) ∧ xs.length = i⟩
theorem turn_enumT {P : Program} {w : World} {K : PySem.W.Frag} {elts : List Expr} {kk : Nat} {tpos : Pos} (a e it : Addr) :
    Turn P w K (.Tuple elts kk tpos) (IteT a) [e, it] e (fun i h => (∃ old, IsEnum h e it ((i : Nat) : Int) old) ∧ h.IsTupleIter it a i ∧ e ≠ it) where
  mem := by simp
  obj := fun i h st b hb => by
    obtain ⟨⟨old, he⟩, ⟨o, ho, hc, hd⟩, _⟩ := st
    have e' : b = e ∨ b = it := by simpa using hb
    rcases e' with rfl | rfl
    · exact ⟨_, he, fun v q => nomatch q⟩
    · exact ⟨o, ho, fun v q => by rw [hd] at q; cases q⟩
  keep := fun i h h' st k => by
    obtain ⟨⟨old, he⟩, hi, hne⟩ := st
    exact ⟨⟨old, k e (by simp) _ he⟩, hi.at fun o q => k it (by simp) o q, hne⟩
  item := by
    intro X hP hw hK hc i pins s σ H E I hf st hg
    subst hP hw hK
    obtain ⟨⟨old, he⟩, hit, hne⟩ := st
    obtain ⟨xs, x, hq, hx⟩ := hg
    obtain ⟨its, rv, p, hz⟩ := I.tuple (SqT.of hq)
    obtain ⟨u, hu, ru⟩ := rv.get hx
    have hel : e < s.heap.objs.size := Heap.lt_size he
    have hil : it < s.heap.objs.size := by obtain ⟨_, q, _⟩ := hit; exact Heap.lt_size q
    have ai : a ≠ it := ne_of_none hq (hf it (by simp)).1
    have ae : e ≠ a := Ne.symm (ne_of_none hq (hf e (by simp)).1)
    have hu' : its.toArray[i]? = some u := by simpa using hu
    refine wpAny_pyNext_enum_itemC (Draws.tuple (A := X.A.in1) (I.ok.hd hc) it a ai its.toArray) he ⟨hit, p⟩ (by simpa using (List.getElem?_eq_some_iff.mp hu).1) hne (by simp [hne, ae]) fun z h' tk hP ho hs' hT hsz hk => ?_
    have ez : z = u := Option.some.inj (hP.symm.trans hu')
    subst ez
    refine ⟨_, rfl, wpAny_letOwnedTupleGo_enum (s := { s with heap := h', toks := tk + 1 }) ho fun h'' he' sb => ?_⟩
    have hT2 : h''.get? s.heap.objs.size = some { cls := .type "tuple", data := .seq #[.int i tk, z] } := (sb.2 _ (Nat.ne_of_gt hel)).trans hT
    have new : ObjOk X.prog X.w (upd H s.heap.objs.size (.tup [.int (i : Nat), x])) h'' s.heap.objs.size (.tup [.int (i : Nat), x]) :=
      ⟨by show 2 ≤ sizeLine; decide, [.int i tk, z], .cons ⟨_, rfl⟩ (.cons ru .nil), ⟨_, hT2, rfl, _, rfl⟩⟩
    have I1 : Inv X pins σ (upd H s.heap.objs.size (.tup [.int (i : Nat), x])) { s with heap := h'', toks := tk + 1 } :=
      I.turnedNew (ch := [e, it]) (fun b ob hb q => (sb.2 b (fun z => hb (by simp [z]))).trans (hk b ob (fun z => hb (by simp [z])) (fun z => hb (by simp [z])) q)) hf (Nat.le_refl _) new
    refine ⟨.ref s.heap.objs.size, _, I1, rfl, ⟨_, x, rfl, I.hok.fresh (Nat.le_refl _), rfl, fun ys hy => by rw [hq] at hy; cases hy; exact hx⟩, ⟨⟨z, ?_⟩, hs'.1.at fun o q => (sb.2 it (Ne.symm hne)).trans q, hne⟩, fun b hb => ?_⟩
    · have e1 : ((i + 1 : Nat) : Int) = (i : Int) + 1 := by omega
      rw [e1]; exact he'
    · have hb' : b < s.heap.objs.size := by
        have e' : b = e ∨ b = it := by simpa using hb
        rcases e' with rfl | rfl
        · exact hel
        · exact hil
      rw [upd_ne (Nat.ne_of_lt hb')]
      exact (hf b hb).1
  done := by
    intro X hP hw hK hc i pins s σ H E I hf st hg
    subst hP hw hK
    obtain ⟨⟨old, he⟩, hit, hne⟩ := st
    obtain ⟨xs, hq, hx⟩ := hg
    obtain ⟨its, rv, p, hz⟩ := I.tuple (SqT.of hq)
    have ai : a ≠ it := ne_of_none hq (hf it (by simp)).1
    obtain ⟨f0, f1, f2, f3, f4, f5⟩ := hf it (by simp)
    have hl := rv.length
    have ei : its.toArray.size = i := by simp; omega
    subst ei
    exact wpAny_pyNext_enum_endD (Draws.tuple (A := X.A.in1) (I.ok.hd hc) it a ai its.toArray) he ⟨hit, p⟩ fun h' eb => ⟨rfl, I.turned (t' := s.toks) (fun b o hb q => eb b o hb q) f0 f1 f3 f4 f5⟩
  self := fun A i s Q E st h => by
    obtain ⟨⟨_, he⟩, _⟩ := st
    exact wpAny_pyIter_enum he h
def iEnumT (ta : TA) : TI := fun σ H R => ta σ H fun vs H1 => ∃ a xs, vs = [.ref a] ∧ H1 a = some (.tup xs) ∧ R (IteT a) H1
theorem pi_enumT {X : Cx} {e : Expr} {ta : TA} {p pos tpos : Pos} {elts : List Expr} {kk : Nat} (hg : Gl X "enumerate") (hm : X.mg "enumerate" = none) (ha : PA X [e] ta) (hs : starEach [e] X.env = [(false, eval e X.env)] := by rfl) :
    PI X (.Tuple elts kk tpos) (.Call (.Name "enumerate" p) [e] [] pos) (iEnumT ta) := by
  refine ⟨fun pins s σ H R I h => ?_⟩
  refine Call_ (ld_blt I hg hm boot_enumerate (PyProof.Rows.callWith_type1 (thn (ha.run pos pins s σ H _ I h) fun us s1 ⟨vs, H1, I1, r1, q1⟩ => ?_) hs rfl))
  obtain ⟨a, xs, ex, hq, q⟩ := q1
  subst ex
  obtain rfl := Vals.ref1 r1
  obtain ⟨its, rv, p', hz⟩ := I1.tuple (SqT.of hq)
  refine enum_tuple p' fun h' he hit hk => wpAny_pyIter_enum he ?_
  have I2 : Inv X pins σ H1 { s1 with heap := h' } := I1.kept (t' := s1.toks) hk
  refine ⟨s1.heap.objs.size + 1, [s1.heap.objs.size + 1, s1.heap.objs.size], _, _, H1, rfl, I2, turn_enumT a (s1.heap.objs.size + 1) s1.heap.objs.size, ⟨⟨.none, he⟩, hit, Nat.succ_ne_self _⟩, fun b hb => ?_, q⟩
  have hle : s1.heap.objs.size ≤ b := by
    have e' : b = s1.heap.objs.size + 1 ∨ b = s1.heap.objs.size := by simpa using hb
    rcases e' with z | z
    · rw [z]; exact Nat.le_add_right _ _
    · rw [z]; exact Nat.le_refl _
  exact I1.fpOk hle (I1.hok.fresh hle)
theorem for_enumT {a : Addr} {xs : List V} {g : TG} {tb : TS} {D : Ends} {σ : L2.St} {H : Hp} (Pv : Nat → L2.St → Hp → Prop) (h0 : Pv 0 σ H) (hl : ∀ i σ H, i ≤ xs.length → Pv i σ H → H a = some (.tup xs))
    (hs : ∀ i x t σ H, xs[i]? = some x → Pv i σ H → H t = none → g (.ref t) σ (upd H t (.tup [.int (i : Nat), x])) fun σ2 H2 => tb { D with nx := Pv (i + 1), ct := Pv (i + 1), bk := D.nx } σ2 H2) (hd : ∀ σ H, Pv xs.length σ H → D.nx σ H) :
    ∃ W : Nat → Nat → L2.St → Hp → Prop, (∃ m, W 0 m σ H) ∧ ∀ i m σ H, W i m σ H →
      ((IteT a).stop i H ∧ D.nx σ H) ∨ ((IteT a).go i H ∧ ∃ N : L2.St → Hp → Prop, (∀ σ' H', N σ' H' → ∃ m', m' < m ∧ W (i + 1) m' σ' H') ∧ ∀ x H', (IteT a).yld i H x H' → g x σ H' fun σ2 H2 => tb { D with nx := N, ct := N, bk := D.nx } σ2 H2) := by
  refine ⟨fun i m σ H => m = xs.length - i ∧ i ≤ xs.length ∧ Pv i σ H, ⟨xs.length, by simp, Nat.zero_le _, h0⟩, ?_⟩
  rintro i m σ H ⟨rfl, hi, p⟩
  have q := hl i σ H hi p
  by_cases hlt : i < xs.length
  · refine .inr ⟨⟨xs, xs[i], q, by simp [hlt]⟩, Pv (i + 1), fun σ' H' p' => ⟨xs.length - (i + 1), by omega, rfl, hlt, p'⟩, fun x H' y => ?_⟩
    obtain ⟨t, z, rfl, ht, rfl, hz⟩ := y
    exact hs i z t σ H (hz xs q) p ht
  · have e : i = xs.length := by omega
    subst e
    exact .inl ⟨⟨xs, q, rfl⟩, hd σ H p⟩
end K11
set_option Elab.async false
set_option linter.all false
set_option maxRecDepth 100000
set_option maxHeartbeats 4000000
namespace K11
open PySem PySem.Spec PyProof.Rows L2
/-! ### set.add of a tuple of ints -/
section
variable {P : Program} {w : World} {A : Around} {E : Value → Shared → Prop} {s : Shared}
theorem add_name {a x : Addr} {k : List Int} {L : List (Addr × List Int)} {es : Array (Int × Value)} {ep : Nat} {t : SetTable} {Q : Value → Shared → Prop}
    (S : SetTR P w s.heap a L es ep t) (hx : IsT P w s.heap k x) (hu : A.units + 8 < cLine) (few : L.length + 1 < 64)
    (fin : ∀ h' n L' es' ep' t', Heap.SameBut a s.heap h' → SetTR P w h' a L' es' ep' t' → (k ∈ L.map (·.2) → L' = L) → (k ∉ L.map (·.2) → L'.Perm ((x, k) :: L)) → Q .none { s with heap := h', toks := n }) :
    wpAny (model P w) A (call (.builtin "set.add") [.ref a, .ref x]) Q E s := by
  have hT : s.TypeIs (.ref a) "set" := by
    obtain ⟨o, ho, hex, _⟩ := S.ob
    exact ⟨o, ho, hex.1⟩
  refine wpAny_call_entry F.slot_set_add hT F.entry_set_add ?_ (F.args_set_add_2 _ _)
  unfold Builtin.«set.add» Builtin.Frozenset.oneOther
  simp only [List.isEmpty_nil, bind_assoc]
  unfold Builtin.Frozenset.addrOf setAdd
  refine wpAny_bind (wpAny_pure ?_)
  try dsimp only
  refine wpAny_bind (wpAny_pure ?_)
  try dsimp only
  refine wpAny_bind ?_
  refine wpAny_holding ?_
  refine wpAny_bind (wpAny_pyHash_tuple (by simp; omega) hx ?_)
  refine add_at (s := { s with toks := s.toks + (k.length + 1) }) S hx (by simp; omega) few fun b h' L' es' ep' t' sb S' c1 c2 => ?_
  show wpAny _ _ (ret Value.none) _ _ _
  exact wpAny_pure ⟨_, rfl, fin h' _ L' es' ep' t' sb S' c1 c2⟩
end

section
variable {X : Cx}
theorem set_names {pins : List (Addr × Obj)} {σ : L2.St} {H : Hp} {s : Shared} {D : Addr} {L : List (Addr × List Int)} (I : Inv X pins σ H s) (hD : H D = some (SetTO X.prog X.w D L)) (ht : ∀ p ∈ L, SqT X.K H p.1 (p.2.map V.int)) :
    ∃ es ep t, SetTR X.prog X.w s.heap D L es ep t := by
  have R : SetT0 X.prog X.w s.heap D L := (I.hok D _ hD).1
  exact R.full fun p hp => I.isT (ht p hp)
/-- the tracked set gets one more tuple -/
theorem add_tracked {pins : List (Addr × Obj)} {σ : L2.St} {H : Hp} {s : Shared} {E : Value → Shared → Prop} {D x : Addr} {k : List Int} {L : List (Addr × List Int)} {Q : Value → Shared → Prop} (I : Inv X pins σ H s) (hu : X.A.units + 8 < cLine)
    (hD : H D = some (SetTO X.prog X.w D L)) (ht : ∀ p ∈ L, SqT X.K H p.1 (p.2.map V.int)) (hx : SqT X.K H x (k.map V.int)) (few : L.length + 1 < 64)
    (fin : ∀ s' L', Inv X pins σ (upd H D (SetTO X.prog X.w D L')) s' → (k ∈ L.map (·.2) → L' = L) → (k ∉ L.map (·.2) → L'.Perm ((x, k) :: L)) → Q .none s') :
    wpAny (model X.prog X.w) X.A (call (.builtin "set.add") [.ref D, .ref x]) Q E s := by
  obtain ⟨es, ep, t, S⟩ := set_names I hD ht
  refine add_name S (I.isT hx) hu few fun h' n L' es' ep' t' sb S' c1 c2 => ?_
  have he : ∃ u, h'.get? D = some u := by
    obtain ⟨o, ho, _⟩ := S'.ob
    exact ⟨o, ho⟩
  exact fin _ L' (I.write (e := D) (t' := n) (by rw [hD]; trivial) (.inl rfl) (fun b u hb hu => (sb.2 b hb).trans hu) he (setTO_new S'.t0)) c1 c2
/-! ### {e for x in xs}: a set of tuples of ints -/
/-- what one turn asks of the value y and promises of the rest G -/
def OneIn (X : Cx) (D : Addr) (y : V) (H : Hp) (G : Hp → Prop) : Prop := ∃ (x : Addr) (k : List Int) (L : List (Addr × List Int)), y = .ref x ∧ H D = some (SetTO X.prog X.w D L) ∧ (∀ p ∈ L, SqT X.K H p.1 (p.2.map V.int)) ∧ SqT X.K H x (k.map V.int) ∧ L.length + 1 < 64 ∧
  ∀ L', (k ∈ L.map (·.2) → L' = L) → (k ∉ L.map (·.2) → L'.Perm ((x, k) :: L)) → G (upd H D (SetTO X.prog X.w D L'))
def tSn (X : Cx) (wi : TI) (g : TG) (tt : TT) (te : TE) (vs : List Nat) : TE := fun σ H Q => wi σ H fun J H1 => ∀ D, H1 D = none → ∃ W : Nat → Nat → Hp → Prop, (∃ m, W 0 m (upd H1 D (SetTO X.prog X.w D []))) ∧
  ∀ i m H, W i m H → (J.stop i H ∧ Q (.ref D) H) ∨
    (J.go i H ∧ ∃ G : Hp → Prop, (∀ H', G H' → ∃ m', m' < m ∧ W (i + 1) m' H') ∧ ∀ x H', J.yld i H x H' → g x (wipe σ vs) H' fun σ2 H2 => wipe σ2 vs = wipe σ vs ∧ tt σ2 H2 fun b H3 => if b = true then te σ2 H3 fun y H4 => OneIn X D y H4 G else G H3)
abbrev emptySet (w : World) : Obj := { cls := .type "set", dict := none, data := .set #[] 0 (.fresh 0 0 (!w.params.followText "set-order")) }
theorem sn_core {pins : List (Addr × Obj)} {s : Shared} {σ : L2.St} {H : Hp} {Q : VK} {elt tg iter : Expr} {ifs : List Expr} {scope : Scope} {own : List (PySem.Str × Nat)} {pos pos' : Pos} {wi : TI} {g : TG} {tt : TT} {te : TE} {use : Option (Value → Sem Unit)} {Qf : Value → Shared → Prop}
    (calm : X.calm = true) (nd : X.N.Nodup) (hu : X.A.units + 8 < cLine) (I : Inv X pins σ H s) (walk : PI X tg iter wi) (blk : BlkOk X.N X.env.scope scope own)
    (target : ∀ (s : Shared) (H : Hp) (C : Addr) (cl : List (PySem.Str × Addr)) (fp : List Addr), PG (X.blk s H scope (compEnvC scope cl C X.env) fp) tg g)
    (tests : ∀ (s : Shared) (H : Hp) (C : Addr) (cl : List (PySem.Str × Addr)) (fp : List Addr), PTs (X.blk s H scope (compEnvC scope cl C X.env) fp) ifs tt)
    (elem : ∀ (s : Shared) (H : Hp) (C : Addr) (cl : List (PySem.Str × Addr)) (fp : List Addr), PE (X.blk s H scope (compEnvC scope cl C X.env) fp) elt te)
    (plain : ∀ x, foldedSetIterable iter X.env x = pure x) (h : tSn X wi g tt te (own.map (·.2)) σ H Q)
    (out : ∀ D C s' m H', Inv X pins σ H' s' → Q (.ref D) H' → s'.heap.Ns C m → FpOk X pins H' C → compPost (model X.prog X.w) X.A X.xe use Qf (.ref D) C (.ok .next) s') :
    wpAny (model X.prog X.w) X.A (comprehension (.SetComp elt [⟨tg, iter, ifs, 0⟩] scope pos) scope X.env pos' (newSet (.type "set")) false (eval iter X.env) use) Qf X.xe s := by
  have closes : ∀ y ∈ scope.names, y.2 = .free → ∃ c, X.env.cells.lookup y.1 = some c := by
    intro y hy e
    rcases blk.free y hy e with k | k
    · exact I.ok.has _ (.inl k)
    · exact I.ok.has _ (.inr k)
  refine wpAny_comprehension_free (use := use) rfl plain (closure_ok closes) blk.kind (fun y hy e => by rw [blk.uniq y hy, e]) ?_
  refine thn (walk.run pins s σ H _ I h) fun xv sa ha => ?_
  refine thn ha fun itv sb hb => ?_
  obtain ⟨it, fp, tn, J, Ha, e, Ia, T, sta, fa, q⟩ := hb
  subst e
  refine PpSet.newSet_ok (newEnv_comp ?_)
  generalize eD : sb.heap.objs.size = D
  have freeD : Ha D = none := Ia.hok.fresh (Nat.le_of_eq eD)
  obtain ⟨W, ⟨m0, w0⟩, turn⟩ := q D freeD
  generalize es : ({ sb with heap := sb.heap.push (emptySet X.w) } : Shared) = sc
  have Ic : Inv X pins σ (upd Ha D (SetTO X.prog X.w D [])) sc := by
    rw [← es]
    refine Ia.laid (t' := sb.toks) (fun b o e => Heap.get?_push_of_some _ e) (Nat.le_of_eq eD) ?_
    rw [← eD]
    exact setTO_new (setTR_fresh (P := X.prog) (w := X.w) (Heap.get?_push_size _ rfl)).t0
  have hc : sc.heap = sb.heap.push (emptySet X.w) := by rw [← es]
  have below : ∀ b ∈ fp, b < sb.heap.objs.size := by
    intro b hb
    obtain ⟨o, e, _⟩ := T.obj _ _ sta b hb
    exact Heap.lt_size e
  have fc : ∀ b ∈ fp, FpOk X pins (upd Ha D (SetTO X.prog X.w D [])) b ∧ b < sc.heap.objs.size := by
    intro b hb
    have lt := below b hb
    refine ⟨⟨?_, (fa b hb).2⟩, by rw [hc, Heap.size_push]; exact Nat.lt_succ_of_lt lt⟩
    rw [upd_ne (by rw [← eD]; exact Nat.ne_of_lt lt)]
    exact (fa b hb).1
  have stc : tn 0 sc.heap := by
    refine T.keep _ _ _ sta fun b _ o e => ?_
    rw [hc]; exact Heap.get?_push_of_some _ e
  have Id := block_start Ic blk nd fc
  have ptg := target sc (upd Ha D (SetTO X.prog X.w D [])) sc.heap.objs.size (cellsFrom (sc.heap.objs.size + 1) scope.names (cloFrom X.env.cells scope.names [])) fp
  have pts := tests sc (upd Ha D (SetTO X.prog X.w D [])) sc.heap.objs.size (cellsFrom (sc.heap.objs.size + 1) scope.names (cloFrom X.env.cells scope.names [])) fp
  have pel := elem sc (upd Ha D (SetTO X.prog X.w D [])) sc.heap.objs.size (cellsFrom (sc.heap.objs.size + 1) scope.names (cloFrom X.env.cells scope.names [])) fp
  show codeAny _ _ (.compStart (.SetComp elt [⟨tg, iter, ifs, 0⟩] scope pos) 0 (.ref it) (.ref D) (compEnvC scope (cellsFrom (sc.heap.objs.size + 1) scope.names (cloFrom X.env.cells scope.names [])) sc.heap.objs.size X.env))
    (compPost (model X.prog X.w) X.A X.xe use Qf (.ref D) sc.heap.objs.size) { sc with heap := pushCells (sc.heap.push { cls := .type "dict", data := .dict #[] }) scope.names }
  have apart : ∀ b ∈ fp, (upd Ha D (SetTO X.prog X.w D [])) b = none := fun b hb => (fc b hb).1.1
  generalize ece : compEnvC scope (cellsFrom (sc.heap.objs.size + 1) scope.names (cloFrom X.env.cells scope.names [])) sc.heap.objs.size X.env = ce at Id ptg pts pel ⊢
  have locs : ce.locals = sc.heap.objs.size := by subst ece; rfl
  generalize eHc : upd Ha D (SetTO X.prog X.w D []) = Hc at Ic Id ptg pts pel w0 apart fc
  generalize esd : ({ sc with heap := pushCells (sc.heap.push { cls := .type "dict", data := .dict #[] }) scope.names } : Shared) = sd at Id ⊢
  have std : tn 0 sd.heap := by
    refine T.keep _ _ _ stc fun b _ o e => ?_
    rw [← esd]; exact pushCells_keeps _ _ _ _ (Heap.get?_push_of_some _ e)
  have still : ∀ {σ' : L2.St} {H' : Hp} {s' : Shared}, Inv (X.blk sc Hc scope ce fp) [] σ' H' s' → (∀ b ∈ fp, H' b = none) → ∀ b ∈ fp, FpOk (X.blk sc Hc scope ce fp) [] H' b := by
    intro σ' H' s' I' hn b hb
    exact ⟨hn b hb, (I'.ok.exf b hb).1, I'.ok.exfs b hb, .inl hb, fun x c e => (I'.ok.exf b hb).2 x c e, fun p hp => absurd (show p ∈ ([] : List (Addr × Obj)) ++ [] from hp) (by simp)⟩
  have loop : codeAny (model X.prog X.w) X.A (.compLoop (.SetComp elt [⟨tg, iter, ifs, 0⟩] scope pos) 0 (.ref it) (.ref D) ce) (compPost (model X.prog X.w) X.A X.xe use Qf (.ref D) sc.heap.objs.size) sd := by
    refine PpSet.compLoopS_any (fun n s' => ∃ i H', Inv (X.blk sc Hc scope ce fp) [] (wipe σ (own.map (·.2))) H' s' ∧ tn i s'.heap ∧ (∀ b ∈ fp, H' b = none) ∧ W i n H') ?_ m0 ⟨0, Hc, Id, std, apart, w0⟩
    rintro n se ⟨i, He, Ie, ste, ne, we⟩
    rcases turn i n He we with ⟨stop, fin⟩ | ⟨go, G, hG, step⟩
    · refine thnF (T.done (X.blk sc Hc scope ce fp) rfl rfl rfl calm i [] se _ He (fun _ _ => False) Ie (still Ie ne) ste stop) fun r sf ⟨er, If⟩ => ?_
      subst er
      have Ig : Inv X pins σ He sf := Ic.call' (ch := fp) If.os If.base If.hok If.bare fun b hb => ⟨(fc b hb).1.2.2.2.1, (fc b hb).1.2.1, (fc b hb).1.2.2.2.2.1, (fc b hb).1.2.2.2.2.2⟩
      have nC : He sc.heap.objs.size = none := by
        have z : He ce.locals = none := If.free
        rw [locs] at z
        exact z
      obtain ⟨m, hn, _⟩ := If.loc
      have hn' : sf.heap.Ns ce.locals m := hn
      rw [locs] at hn'
      exact out D sc.heap.objs.size sf m He Ig fin hn' (Ic.fpOk (Nat.le_refl _) nC)
    · refine thnF (T.item (X.blk sc Hc scope ce fp) rfl rfl rfl calm i [] se _ He (fun _ _ => False) Ie (still Ie ne) ste go) fun r sf ⟨u, er, hf⟩ => ?_
      subst er
      refine thnF hf fun _ sg ⟨x, Hg, Ig, rg, yg, stg, ng⟩ => ?_
      have Ig' := Ig.pinned (still Ig ng) (T.obj _ _ stg)
      refine thnF (ptg.run _ sg _ Hg x u _ Ig' rg (step x Hg yg)) fun _ sh ⟨σh, Hh, Ih, wh, qh⟩ => ?_
      refine thnF (pts.run _ sh σh Hh _ Ih qh) fun b si ⟨Hi, Ii, qi⟩ => ?_
      have last : ∀ {s' : Shared} {H' : Hp}, Inv (X.blk sc Hc scope ce fp) ([] ++ pinsAt fp sg.heap) σh H' s' → G H' →
          ∃ m, m < n ∧ ∃ i H', Inv (X.blk sc Hc scope ce fp) [] (wipe σ (own.map (·.2))) H' s' ∧ tn i s'.heap ∧ (∀ b ∈ fp, H' b = none) ∧ W i m H' := by
        intro s' H' I' nx
        obtain ⟨m', lt, w'⟩ := hG H' nx
        have held : ∀ b ∈ fp, ∀ o, sg.heap.get? b = some o → s'.heap.get? b = some o ∧ H' b = none := by
          intro b hb o e
          have z := I'.pin (b, o) (List.mem_append_right _ (List.mem_append_right _ (mem_pinsAt hb e)))
          exact ⟨z.1, z.2.1⟩
        have len : (wipe σ (own.map (·.2))).length = σh.length := by rw [← wh, wipe_length]
        refine ⟨m', lt, i + 1, H', (I'.unpinned (pins := [])).weak len (fun j v e => ?_), T.keep _ _ _ stg fun b hb o e => (held b hb o e).1, fun b hb => ?_, w'⟩
        · rw [← wh] at e
          exact (wipe_some e).1
        · obtain ⟨o, e, _⟩ := T.obj _ _ stg b hb
          exact (held b hb o e).2
      cases b with
      | false =>
        simp only [Bool.false_eq_true, if_false] at qi ⊢
        exact last Ii qi
      | true =>
        simp only [if_true] at qi ⊢
        refine thnF (pel.run _ si σh Hi _ Ii qi) fun z sj ⟨yv, Hj, Ij, rj, x, k, L, ey, hDj, htj, hxj, few, nx⟩ => ?_
        subst ey
        obtain rfl : z = Value.ref x := rj
        exact add_tracked (X := X.blk sc Hc scope ce fp) Ij hu hDj htj hxj few fun sk L' Ik c1 c2 => last Ik (nx L' c1 c2)
  exact PpSet.codeAny_compStart_set loop (T.self X.A 0 _ _ _ std loop)
/-- as a value -/
theorem pe_sn {elt tg iter : Expr} {ifs : List Expr} {scope : Scope} {own : List (PySem.Str × Nat)} {pos : Pos} {wi : TI} {g : TG} {tt : TT} {te : TE} (hu : X.A.units + 8 < cLine) (calm : X.calm = true) (nd : X.N.Nodup) (walk : PI X tg iter wi) (blk : BlkOk X.N X.env.scope scope own)
    (target : ∀ (s : Shared) (H : Hp) (C : Addr) (cl : List (PySem.Str × Addr)) (fp : List Addr), PG (X.blk s H scope (compEnvC scope cl C X.env) fp) tg g)
    (tests : ∀ (s : Shared) (H : Hp) (C : Addr) (cl : List (PySem.Str × Addr)) (fp : List Addr), PTs (X.blk s H scope (compEnvC scope cl C X.env) fp) ifs tt)
    (elem : ∀ (s : Shared) (H : Hp) (C : Addr) (cl : List (PySem.Str × Addr)) (fp : List Addr), PE (X.blk s H scope (compEnvC scope cl C X.env) fp) elt te)
    (plain : ∀ x, foldedSetIterable iter X.env x = pure x := by intro _; rfl) :
    PE X (.SetComp elt [⟨tg, iter, ifs, 0⟩] scope pos) (tSn X wi g tt te (own.map (·.2))) := by
  refine ⟨fun pins s σ H Q I h => ?_⟩
  rw [PpSet.eval_SetComp]
  refine sn_core calm nd hu I walk blk target tests elem plain h fun D C s' m H' I' q hn f => ⟨m, hn, fun h'' sb => ?_⟩
  obtain ⟨f0, f1, f2, f3, f4, f5⟩ := f
  exact ⟨.ref D, H', I'.turned (t' := s'.toks) (fun b o hb e => (sb.2 b hb).trans e) f0 f1 f3 f4 f5, rfl, q⟩
end

/-! ### sorted(s), s a set of tuples of ints of any lengths but 0 -/
section
variable {P : Program} {w : World} {A : Around} {E : Value → Shared → Prop} {s : Shared}
abbrev encN (q : Addr × List Int) : PyData := .tuple (q.2.map .int)
theorem reads_ints {h : Heap} : ∀ {k : List Int} {vs : List Value}, IntsAre vs k → ReadsAll h vs (k.map .int) []
  | _, _, .nil => .nil
  | _, _, .cons _ t r => .cons (as := []) (bs := []) (Reads.int _ t) (reads_ints r)
theorem reads_name {h : Heap} {k : List Int} {b : Addr} (x : IsT P w h k b) : Reads h (.ref b) (.tuple (k.map .int)) [] := by
  obtain ⟨o, items, n, ho, hc, hd, hi⟩ := x
  exact .tuple ho hc hd (reads_ints (ints_of_items hi))
theorem rows_in {L : List (Addr × List Int)} : ∀ vs : List Value, (∀ v ∈ vs, ∃ q ∈ L, v = Value.ref q.1) → ∃ M : List (Addr × List Int), vs = M.map (fun q => Value.ref q.1) ∧ ∀ q ∈ M, q ∈ L
  | [], _ => ⟨[], rfl, fun q hq => by cases hq⟩
  | v :: vs, hv => by
    obtain ⟨q, hq, e⟩ := hv v List.mem_cons_self
    obtain ⟨M, e1, hs⟩ := rows_in vs fun u hu => hv u (List.mem_cons_of_mem _ hu)
    refine ⟨q :: M, by rw [List.map_cons, e, e1], fun r hr => ?_⟩
    rcases List.mem_cons.mp hr with rfl | z
    · exact hq
    · exact hs r z
theorem each_ref : ∀ M : List (Addr × List Int), PySem.W.EachIs (fun (v : Value) (q : Addr × List Int) => v = Value.ref q.1) (M.map fun q => Value.ref q.1) M
  | [] => .nil
  | _ :: M => .cons rfl (each_ref M)
theorem ref_each : ∀ {vs : List Value} {M : List (Addr × List Int)}, PySem.W.EachIs (fun (v : Value) (q : Addr × List Int) => v = Value.ref q.1) vs M → vs = M.map fun q => Value.ref q.1
  | _, _, .nil => rfl
  | _, _, .cons e t => by rw [List.map_cons, ← ref_each t, e]
theorem each_reads {h : Heap} {a : Addr} : ∀ {M : List (Addr × List Int)}, (∀ q ∈ M, IsT P w h q.2 q.1) → PySem.W.EachIs (fun (v : Value) (q : Addr × List Int) => ∃ as, Reads h v (encN q) as ∧ a ∉ as) (M.map fun q => Value.ref q.1) M
  | [], _ => .nil
  | q :: M, hM => .cons ⟨[], reads_name (hM q List.mem_cons_self), by simp⟩ (each_reads fun r hr => hM r (List.mem_cons_of_mem _ hr))
theorem depth_name (k : List Int) : (PyData.tuple (k.map .int)).depth ≤ 1 := by
  rw [PyData.depth, PySem.W.depth_ints]
  omega
theorem sorted_names {a : Addr} {L : List (Addr × List Int)} {es : Array (Int × Value)} {ep : Nat} {t : SetTable} {Q : Value → Shared → Prop} (S : SetTR P w s.heap a L es ep t) (hh : A.handled = none) (hu : A.units + 16 < cLine) (ne : ∀ p ∈ L, p.2 ≠ [])
    (fin : ∀ s' p (out : Array Value) (c : Nat) (M : List (Addr × List Int)), (∀ b o, s.heap.get? b = some o → s'.heap.get? b = some o) → s'.gens = s.gens → s'.os = s.os → s.heap.objs.size ≤ p →
      s'.heap.get? p = some (seqObj "list" out c) → out.toList = M.map (fun q => Value.ref q.1) → (∀ q ∈ M, q ∈ L) → M.length = L.length → Q (.ref p) s') :
    wpAny (model P w) A (call (.builtin "sorted") [.ref a]) Q E s := by
  obtain ⟨o, ho, hex, hd⟩ := S.ob
  have hsz := S.size
  have few := S.few
  refine Calls.call_function_entry kind_sorted plain_sorted entry_sorted (args_sorted1 _) ?_
  unfold Builtin.«sorted»
  refine wpAny_bind (m := checkCount "sorted" 1 1 _) (wpAny_pure ?_)
  refine wpAny_bind (collect_set (A := A.in1) hh ⟨o, ho, hex.1, hd⟩ S.fits (by unfold scanBound; omega) S.tab.ris S.led fun s1 vs k1 hz g1 o1 pm => ?_)
  have els : es.toList.map (·.2) = L.map fun q => Value.ref q.1 := by
    rw [S.rows]
    unfold rowsOf
    rw [List.map_map]
    rfl
  rw [els] at pm
  obtain ⟨M, rfl, hM⟩ := rows_in vs fun v hv => by
    obtain ⟨q, hq, e⟩ := List.mem_map.mp (pm.mem_iff.mp hv)
    exact ⟨q, hq, e.symm⟩
  have lM : M.length = L.length := by
    have e := pm.length_eq
    rwa [List.length_map, List.length_map] at e
  refine wpAny_bind (wpAny_newList ?_ (by rw [List.length_map, sizeLine_eq]; omega))
  have at_ : (s1.heap.push (seqObj "list" (M.map fun q => Value.ref q.1).toArray 0)).get? s1.heap.objs.size = some (seqObj "list" (M.map fun q => Value.ref q.1).toArray 0) := Heap.get?_push_size _ rfl
  have tup : ∀ q ∈ M, IsT P w (s1.heap.push (seqObj "list" (M.map fun q => Value.ref q.1).toArray 0)) q.2 q.1 := fun q hq => isT_keep (S.tup q (hM q hq)) fun b u e => Heap.get?_push_of_some _ (k1 b u e)
  have hal : PySem.W.AllAlike (M.map encN) := PySem.W.AllAlike.of fun b b' => by
    rw [PySem.W.alike]
    exact PySem.W.alike_ints _ _
  have hk : PySem.W.Sortable (M.map encN) := .inl fun d hd => by
    obtain ⟨q, hq, rfl⟩ := List.mem_map.mp hd
    have n0 := ne q (hM q hq)
    cases e : q.2 with
    | nil => exact absurd e n0
    | cons x r => exact ⟨.int x, r.map .int, by rw [encN, e]; rfl⟩
  refine wpAny_bind (wpAny_holding (PySem.W.list_sort_data (s := { s1 with heap := s1.heap.push (seqObj "list" (M.map fun q => Value.ref q.1).toArray 0) }) (bs := M) (enc := encN) (R := fun v q => v = Value.ref q.1) at_ (each_ref M) (each_reads tup) hal hk (by rw [sizeLine_eq]; omega)
    (fun b _ => by
      have := depth_name b.2
      have e : (encN b).depth = (PyData.tuple (b.2.map PyData.int)).depth := rfl
      simp
      omega) fun out a1 a2 => ?_))
  obtain ⟨c, hc⟩ := sortedHeap_at (vs := M.map fun q => Value.ref q.1) (out := out.toArray) at_
  refine wpAny_pure ⟨_, rfl, fin _ s1.heap.objs.size out.toArray c (M.mergeSort (PySem.W.dataLe false encN)) (fun b u e => ?_) g1 o1 hz hc (by rw [List.toList_toArray]; exact ref_each a2) (fun q hq => hM q ((List.mergeSort_perm _ _).mem_iff.mp hq)) (by rw [List.length_mergeSort]; exact lM)⟩
  have q := k1 b u e
  have lt := Heap.lt_size q
  show (sortedHeap (s1.heap.push (seqObj "list" (M.map fun q => Value.ref q.1).toArray 0)) s1.heap.objs.size (M.map fun q => Value.ref q.1) out.toArray).get? b = some u
  rw [sortedHeap_old (Nat.ne_of_lt lt) (by rw [size_push']; exact Nat.lt_succ_of_lt lt)]
  exact Heap.get?_push_of_some _ q
end
section
variable {X : Cx}
def rSortN (K : PySem.W.Frag) (P : Program) (w : World) : List V → Hp → VK → Prop := fun vs H Q => ∃ (a : Addr) (L : List (Addr × List Int)), vs = [V.ref a] ∧ H a = some (SetTO P w a L) ∧ (∀ p ∈ L, SqT K H p.1 (p.2.map V.int)) ∧ (∀ p ∈ L, p.2 ≠ []) ∧
  ∀ (M : List (Addr × List Int)) (p : Addr), (∀ q ∈ M, q ∈ L) → M.length = L.length → H p = none → Q (.ref p) (upd H p (.lst (M.map fun q => V.ref q.1)))
theorem cr_sortN (calm : X.calm = true) (hu : X.A.units + 16 < cLine) : CallR X (.builtin "sorted") (rSortN X.K X.prog X.w) := by
  intro pins s σ H vs us Q I r h
  obtain ⟨a, L, rfl, ha, hk, ne, q⟩ := h
  obtain ⟨es, ep, t, S⟩ := set_names I ha hk
  rw [Vals.ref1 r]
  refine sorted_names S (I.ok.hd calm) hu ne fun s' p out c M k g o hp hg hout hM lM => ?_
  have few := S.few
  have len : (M.map fun q => V.ref q.1).length ≤ sizeLine := by
    rw [List.length_map, sizeLine_eq]
    omega
  have hn : H p = none := I.hok.fresh hp
  have hv : Vals (M.map fun q => V.ref q.1) out.toList := by
    rw [hout]
    exact vals_of_refs M
  have J : Inv X pins σ (upd H p (.lst (M.map fun q => V.ref q.1))) { s with heap := s'.heap, gens := s'.gens, drawn := s'.drawn, toks := s'.toks } := by
    refine I.call (ch := []) (Un.laid k hp hn) (I.hok.laid k hp ⟨len, out.toList, c, hv, hg⟩) ?_ fun _ z => nomatch z
    rw [g]
    exact I.bare
  have e : s' = { s with heap := s'.heap, gens := s'.gens, drawn := s'.drawn, toks := s'.toks } := by
    cases s'; cases s; cases o
    rfl
  rw [e]
  exact ⟨.ref p, _, J, rfl, q M p hM lM hn⟩
end
end K11
set_option Elab.async false
set_option linter.all false
set_option maxRecDepth 100000
set_option maxHeartbeats 4000000
namespace K11
open PySem PySem.Spec PyProof.Rows L2
/-! ### plain dicts -/
section
variable {α β κ : Type} [DecidableEq α] [DecidableEq κ]
def alook (l : List (α × β)) (k : α) : Option β := (l.find? fun p => decide (p.1 = k)).map (·.2)
def aput (l : List (α × β)) (k : α) (v : β) : List (α × β) :=
  if (l.any fun p => decide (p.1 = k)) = true then l.map (fun p => if p.1 = k then (p.1, v) else p) else l ++ [(k, v)]
theorem alook_nil (k : α) : alook ([] : List (α × β)) k = none := rfl
theorem alook_cons (p : α × β) (l : List (α × β)) (k : α) : alook (p :: l) k = if p.1 = k then some p.2 else alook l k := by
  unfold alook
  rw [List.find?_cons]
  by_cases e : p.1 = k
  · simp [e]
  · simp [e]
theorem alook_any (l : List (α × β)) (k : α) : (l.any fun p => decide (p.1 = k)) = (alook l k).isSome := by
  induction l with
  | nil => rfl
  | cons p l ih =>
    rw [List.any_cons, ih, alook_cons]
    by_cases e : p.1 = k
    · simp [e]
    · simp [e]
theorem alook_append (l m : List (α × β)) (k : α) : alook (l ++ m) k = (alook l k).or (alook m k) := by
  induction l with
  | nil => simp [alook_nil]
  | cons p l ih =>
    rw [List.cons_append, alook_cons, alook_cons, ih]
    split <;> simp
theorem alook_map (l : List (α × β)) (k k' : α) (v : β) : alook (l.map fun p => if p.1 = k then (p.1, v) else p) k' = if k = k' then (alook l k').map (fun _ => v) else alook l k' := by
  induction l with
  | nil => simp [alook_nil]
  | cons p l ih =>
    rw [List.map_cons, alook_cons, alook_cons, ih]
    by_cases e : p.1 = k
    · by_cases e2 : k = k'
      · simp [e, e2]
      · simp [e, e2]
    · by_cases e2 : k = k'
      · subst e2
        simp [e]
      · by_cases e3 : p.1 = k'
        · have e4 : ¬ k' = k := fun z => e2 z.symm
          simp [e2, e3, e4]
        · simp [e, e2, e3]
theorem alook_aput (l : List (α × β)) (k k' : α) (v : β) : alook (aput l k v) k' = if k = k' then some v else alook l k' := by
  unfold aput
  by_cases h : (l.any fun p => decide (p.1 = k)) = true
  · rw [if_pos h, alook_map]
    rw [alook_any] at h
    by_cases e : k = k'
    · subst e
      rw [if_pos rfl, if_pos rfl]
      cases q : alook l k with
      | none => rw [q] at h; cases h
      | some x => rfl
    · rw [if_neg e, if_neg e]
  · rw [if_neg h, alook_append, alook_cons, alook_nil]
    rw [alook_any] at h
    by_cases e : k = k'
    · subst e
      cases q : alook l k with
      | none => simp
      | some x => rw [q] at h; exact absurd rfl h
    · simp [e]
theorem alook_self (l : List (α × β)) (k : α) (v : β) : alook (aput l k v) k = some v := by rw [alook_aput, if_pos rfl]
theorem alook_ne {l : List (α × β)} {k k' : α} {v : β} (h : k ≠ k') : alook (aput l k v) k' = alook l k' := by rw [alook_aput, if_neg h]
theorem len_aput (l : List (α × β)) (k : α) (v : β) : (aput l k v).length ≤ l.length + 1 := by
  unfold aput
  split
  · rw [List.length_map]; omega
  · rw [List.length_append]; exact Nat.le_refl _
theorem keys_aput (l : List (α × β)) (k : α) (v : β) : ∀ p ∈ aput l k v, p.1 = k ∨ ∃ q ∈ l, q.1 = p.1 := by
  intro p hp
  unfold aput at hp
  split at hp
  · obtain ⟨q, hq, e⟩ := List.mem_map.mp hp
    by_cases z : q.1 = k
    · rw [if_pos z] at e
      exact .inr ⟨q, hq, by rw [← e]⟩
    · rw [if_neg z] at e
      exact .inr ⟨q, hq, by rw [← e]⟩
  · rcases List.mem_append.mp hp with h | h
    · exact .inr ⟨p, h, rfl⟩
    · exact .inl (by rw [List.mem_singleton.mp h])
/-- every value is P -/
def AllV (P : β → Prop) (l : List (α × β)) : Prop := ∀ p ∈ l, P p.2
theorem AllV.look {P : β → Prop} {l : List (α × β)} (h : AllV P l) {k : α} {v : β} (e : alook l k = some v) : P v := by
  unfold alook at e
  cases q : l.find? fun p => decide (p.1 = k) with
  | none => rw [q] at e; cases e
  | some p =>
    rw [q] at e
    cases e
    exact h p (List.mem_of_find?_eq_some q)
theorem AllV.put {P : β → Prop} {l : List (α × β)} (h : AllV P l) {k : α} {v : β} (hv : P v) : AllV P (aput l k v) := by
  intro p hp
  unfold aput at hp
  split at hp
  · obtain ⟨q, hq, e⟩ := List.mem_map.mp hp
    by_cases z : q.1 = k
    · rw [if_pos z] at e
      rw [← e]; exact hv
    · rw [if_neg z] at e
      rw [← e]; exact h q hq
  · rcases List.mem_append.mp hp with h' | h'
    · exact h p h'
    · rw [List.mem_singleton.mp h']; exact hv
/-- a tracked dict's pairs are a plain dict's -/
def AL (f : α → κ) (R : β → V → Prop) (kvs : List (κ × V)) (l : List (α × β)) : Prop := Paired (fun (p : κ × V) (q : α × β) => p.1 = f q.1 ∧ R q.2 p.2) kvs l
variable {f : α → κ} {R : β → V → Prop} {kvs : List (κ × V)} {l : List (α × β)}
theorem AL.nil : AL f R [] ([] : List (α × β)) := Paired.nil
theorem AL.len (h : AL f R kvs l) : kvs.length = l.length := Paired.length h
theorem AL.mono {R' : β → V → Prop} (h : AL f R kvs l) (k : ∀ x v, R x v → R' x v) : AL f R' kvs l := Paired.mapP h fun _ _ q => ⟨q.1, k _ _ q.2⟩
theorem AL.look (inj : ∀ a b, f a = f b → a = b) (h : AL f R kvs l) (k : α) {x : β} (e : alook l k = some x) : ∃ v, valV kvs (f k) = some v ∧ R x v := by
  unfold AL at h
  induction h with
  | nil => cases e
  | @cons p q as bs r t ih =>
    rw [alook_cons] at e
    by_cases z : q.1 = k
    · rw [if_pos z] at e
      cases e
      exact ⟨p.2, by rw [valV_pos (by rw [r.1, z])], r.2⟩
    · rw [if_neg z] at e
      obtain ⟨v, h1, h2⟩ := ih e
      exact ⟨v, by rw [valV_neg (by rw [r.1]; exact fun y => z (inj _ _ y))]; exact h1, h2⟩
theorem AL.none (inj : ∀ a b, f a = f b → a = b) (h : AL f R kvs l) (k : α) (e : alook l k = Option.none) : valV kvs (f k) = Option.none := by
  unfold AL at h
  induction h with
  | nil => rfl
  | @cons p q as bs r t ih =>
    rw [alook_cons] at e
    by_cases z : q.1 = k
    · rw [if_pos z] at e; cases e
    · rw [if_neg z] at e
      rw [valV_neg (by rw [r.1]; exact fun y => z (inj _ _ y))]
      exact ih e
theorem AL.any (inj : ∀ a b, f a = f b → a = b) (h : AL f R kvs l) (k : α) : (kvs.any fun p => decide (p.1 = f k)) = (l.any fun p => decide (p.1 = k)) := by
  rw [valV_any, alook_any]
  cases e : alook l k with
  | none => rw [h.none inj k e]; rfl
  | some x =>
    obtain ⟨v, q, _⟩ := h.look inj k e
    rw [q]; rfl
theorem paired_app {γ δ : Type} {F : γ → δ → Prop} : ∀ {a : List γ} {b : List δ} {c : List γ} {d : List δ}, Paired F a b → Paired F c d → Paired F (a ++ c) (b ++ d)
  | _, _, _, _, .nil, h => h
  | _, _, _, _, .cons r t, h => .cons r (paired_app t h)
theorem AL.put (inj : ∀ a b, f a = f b → a = b) (h : AL f R kvs l) {k : α} {x : β} {v : V} (r : R x v) : AL f R (putK kvs (f k) v) (aput l k x) := by
  unfold putK aput
  rw [h.any inj k]
  split
  · next hc =>
    clear hc
    unfold AL at h ⊢
    induction h with
    | nil => exact .nil
    | @cons p q as bs z t ih =>
      refine .cons ?_ ih
      show (if p.1 = f k then (p.1, v) else p).1 = f (if q.1 = k then (q.1, x) else q).1 ∧ R (if q.1 = k then (q.1, x) else q).2 (if p.1 = f k then (p.1, v) else p).2
      by_cases e : q.1 = k
      · rw [if_pos e, if_pos (by rw [z.1, e])]
        exact ⟨z.1, r⟩
      · rw [if_neg e, if_neg (by rw [z.1]; exact fun y => e (inj _ _ y))]
        exact z
  · unfold AL at h ⊢
    exact paired_app h (.cons ⟨rfl, r⟩ .nil)
end
/-! ### names -/
abbrev Nm := List Int
abbrev Sto := List (Str × Int)
def kn (n : Nm) : List Key := n.map Sum.inl
theorem kn_inj : ∀ a b : Nm, kn a = kn b → a = b
  | [], [], _ => rfl
  | [], _ :: _, h => by cases h
  | _ :: _, [], h => by cases h
  | x :: a, y :: b, h => by
    have h' : (Sum.inl x : Key) = Sum.inl y ∧ kn a = kn b := by
      unfold kn at h
      rw [List.map_cons, List.map_cons] at h
      exact List.cons.inj h
    rw [Sum.inl.inj h'.1, kn_inj a b h'.2]
theorem kn_kV (n : Nm) : (kn n).map kV = n.map V.int := by
  unfold kn
  rw [List.map_map]
  rfl
theorem inr_inj : ∀ a b : Str, (Sum.inr a : Key) = Sum.inr b → a = b := fun _ _ h => Sum.inr.inj h
/-- a name at an address -/
def NM (H : Hp) (n : Nm) (a : Addr) : Prop := H a = some (.tup (n.map V.int))
theorem NM.mono {H H' : Hp} (k : Tk H H') {n : Nm} {a : Addr} (h : NM H n a) : NM H' n a := k _ _ h
def RI (x : Int) (v : V) : Prop := v = .int x
/-- a store of words (or an env) at an address -/
def ST (H : Hp) (st : Sto) (a : Addr) : Prop := ∃ kvs, H a = some (.dK kvs) ∧ AL Sum.inr RI kvs st
/-- values within the prime -/
def BV (st : Sto) : Prop := AllV (fun v : Int => 0 ≤ v ∧ v < 1000003) st
/-- all but the objects at M stay -/
def Kp (M : List Addr) (H H' : Hp) : Prop := ∀ b o, H b = some o → b ∉ M → H' b = some o
theorem Kp.refl (M : List Addr) (H : Hp) : Kp M H H := fun _ _ h _ => h
theorem Kp.trans {M : List Addr} {H H1 H2 : Hp} (a : Kp M H H1) (b : Kp M H1 H2) : Kp M H H2 := fun c o h n => b c o (a c o h n) n
theorem Kp.same {M : List Addr} {H H' : Hp} (s : Same H H') : Kp M H H' := fun b o h _ => s b o h
theorem Kp.sub {M M' : List Addr} {H H' : Hp} (k : Kp M H H') (h : ∀ b ∈ M, b ∈ M') : Kp M' H H' := fun b o e n => k b o e fun z => n (h b z)
theorem Kp.upd {M : List Addr} {H : Hp} {p : Addr} {o : HO} (h : p ∈ M) : Kp M H (upd H p o) := fun b u e n => by rw [upd_ne (fun z => n (by rw [z]; exact h))]; exact e
theorem dget_t {H : Hp} {a b : Addr} {kvs : List (List Key × V)} {n : Nm} {v : V} (e : H a = some (.dT kvs)) (h : NM H n b) (q : valV kvs (kn n) = some v) : DGet H a (.ref b) (some v) := by
  rw [← q]
  exact DGet.t e (by rw [kn_kV]; exact h)
theorem dgetN_t {H : Hp} {a b : Addr} {kvs : List (List Key × V)} {n : Nm} {o : Option V} (e : H a = some (.dT kvs)) (h : NM H n b) (q : valV kvs (kn n) = o) : DGet H a (.ref b) o := by
  rw [← q]
  exact DGet.t e (by rw [kn_kV]; exact h)
theorem dput_t {H : Hp} {a b : Addr} {kvs : List (List Key × V)} {n : Nm} {v : V} (e : H a = some (.dT kvs)) (h : NM H n b) (z : kvs.length < sizeLine) : DPut H a (.ref b) v (upd H a (.dT (putK kvs (kn n) v))) := DPut.t e (by rw [kn_kV]; exact h) z
theorem dget_k {H : Hp} {a : Addr} {kvs : List (Key × V)} {x : Str} {v : V} (e : H a = some (.dK kvs)) (q : valV kvs (Sum.inr x) = some v) : DGet H a (.str x) (some v) := by
  rw [← q]
  exact DGet.k (k := Sum.inr x) e
theorem dgetN_k {H : Hp} {a : Addr} {kvs : List (Key × V)} {x : Str} {o : Option V} (e : H a = some (.dK kvs)) (q : valV kvs (Sum.inr x) = o) : DGet H a (.str x) o := by
  rw [← q]
  exact DGet.k (k := Sum.inr x) e
theorem dput_k {H : Hp} {a : Addr} {kvs : List (Key × V)} {x : Str} {v : V} (e : H a = some (.dK kvs)) (z : kvs.length < sizeLine) : DPut H a (.str x) v (upd H a (.dK (putK kvs (Sum.inr x) v))) := DPut.k (k := Sum.inr x) e z
end K11
set_option Elab.async false
set_option linter.all false
set_option maxRecDepth 100000
set_option maxHeartbeats 4000000
namespace K11
open PySem PySem.Spec PyProof.Rows L2
/-! ### what an operator and an expression work out -/
def opd (o : Str) (a b : Int) : Int :=
  if o = "+" then (a + b) % 1000003 else if o = "-" then (a - b) % 1000003 else if o = "*" then a * b % 1000003 else if o = "max" then (if b > a then b else a) else if o = "min" then (if b < a then b else a)
  else if o = "<" then (if a < b then 1 else 0) else (if a = b then 1 else 0)
def InP (v : Int) : Prop := 0 ≤ v ∧ v < 1000003
theorem opd_in {o : Str} {a b : Int} (ha : InP a) (hb : InP b) : InP (opd o a b) := by
  unfold opd InP at *
  split
  · omega
  split
  · omega
  split
  · exact ⟨Int.emod_nonneg _ (by decide), Int.emod_lt_of_pos _ (by decide)⟩
  split
  · split <;> omega
  split
  · split <;> omega
  split
  · split <;> omega
  · split <;> omega
def evE (st env : Sto) : Exp → Int
  | .num n => n
  | .word x => (alook st x).getD 0
  | .loc x => (alook env x).getD 0
  | .op o l r => opd o (evE st env l) (evE st env r)
theorem evE_in {st env : Sto} {L : List Str} (hs : BV st) (he : BV env) : ∀ {e : Exp}, WFE L e → InP (evE st env e)
  | .num n, h => h
  | .word x, _ => by
    show InP ((alook st x).getD 0)
    cases e : alook st x with
    | none => exact ⟨by decide, by decide⟩
    | some v => exact hs.look e
  | .loc x, _ => by
    show InP ((alook env x).getD 0)
    cases e : alook env x with
    | none => exact ⟨by decide, by decide⟩
    | some v => exact he.look e
  | .op _ _ _, h => opd_in (evE_in hs he h.2.1) (evE_in hs he h.2.2)
/-- every local name has a value -/
def EnvOk (env : Sto) (L : List Str) : Prop := ∀ x ∈ L, ∃ v, alook env x = some v
theorem EnvOk.put {env : Sto} {L : List Str} (h : EnvOk env L) (x : Str) (v : Int) : EnvOk (aput env x v) (L ++ [x]) := by
  intro y hy
  by_cases e : x = y
  · subst e; exact ⟨v, alook_self _ _ _⟩
  · rw [alook_ne e]
    rcases List.mem_append.mp hy with z | z
    · exact h y z
    · exact absurd (List.mem_singleton.mp z).symm e
/-- the parts of a fold, in their order -/
def parts : Nat → Nat → Nat → List Nm
  | 0, _, _ => []
  | k + 1, lo, hi => if hi < lo + 2 then (List.range (hi - lo)).map fun i => [((lo + i : Nat) : Int)] else parts k lo ((lo + hi) / 2) ++ parts k ((lo + hi) / 2) hi ++ [[(lo : Int), (hi : Int)]]
/-- names at values -/
def NMs (H : Hp) (ns : List Nm) (vs : List V) : Prop := Paired (fun n v => ∃ a, v = V.ref a ∧ NM H n a) ns vs
theorem NMs.mono {H H' : Hp} (k : Tk H H') {ns : List Nm} {vs : List V} (h : NMs H ns vs) : NMs H' ns vs := Paired.mapP h fun _ _ ⟨a, e, q⟩ => ⟨a, e, q.mono k⟩
theorem NMs.len {H : Hp} {ns : List Nm} {vs : List V} (h : NMs H ns vs) : ns.length = vs.length := Paired.length h
theorem NMs.get {H : Hp} : ∀ {ns : List Nm} {vs : List V}, NMs H ns vs → ∀ {i : Nat} {v : V}, vs[i]? = some v → ∃ n a, ns[i]? = some n ∧ v = .ref a ∧ NM H n a
  | _, _, .nil, i, v, e => by simp at e
  | _, _, .cons ⟨a, ea, ha⟩ t, 0, v, e => by
    simp at e
    subst e
    exact ⟨_, a, rfl, ea, ha⟩
  | _, _, .cons _ t, i + 1, v, e => by
    simpa using NMs.get (i := i) (v := v) t (by simpa using e)
/-- a list of names at an address -/
def LN (H : Hp) (ns : List Nm) (a : Addr) : Prop := ∃ vs, H a = some (.lst vs) ∧ NMs H ns vs
theorem len_parts : ∀ (k lo hi : Nat), (parts k lo hi).length ≤ 2 * (hi - lo)
  | 0, _, _ => Nat.zero_le _
  | k + 1, lo, hi => by
    unfold parts
    split
    · rw [List.length_map, List.length_range]; omega
    · have h1 := len_parts k lo ((lo + hi) / 2)
      have h2 := len_parts k ((lo + hi) / 2) hi
      have h3 := len_parts1 k lo ((lo + hi) / 2)
      rw [List.length_append, List.length_append, List.length_singleton]
      omega
where len_parts1 : ∀ (k lo hi : Nat), lo < hi → (parts k lo hi).length + 1 ≤ 2 * (hi - lo)
  | 0, lo, hi, h => by show 0 + 1 ≤ _; omega
  | k + 1, lo, hi, h => by
    unfold parts
    split
    · rw [List.length_map, List.length_range]; omega
    · have h1 := len_parts1 k lo ((lo + hi) / 2) (by omega)
      have h2 := len_parts1 k ((lo + hi) / 2) hi (by omega)
      rw [List.length_append, List.length_append, List.length_singleton]
      omega
section
variable {P : Program} {w : World} {K : PySem.W.Frag} {mg : Str → Option Value} {base : Heap}
def spOperated : Sp := fun vs H Q _ => ∃ (o : Str) (a b : Int), vs = [.str o, .int a, .int b] ∧ InP a ∧ InP b ∧ Q (.int (opd o a b)) H
theorem sc_operated : FnScope ["op", "a", "b", "held"] ["op", "a", "b"] (defScope s_operated) := ⟨rfl, rfl, rfl, by decide +kernel, rfl, by decide +kernel, by decide +kernel⟩
theorem ok_operated (T : Txt w K mg) : C8.Cal P w K mg base 1 "operated" spOperated [] := by
  refine T.f_operated.cal sc_operated (fun vs H Q E h => by obtain ⟨_, _, _, rfl, _⟩ := h; rfl) fun f cdv A outer s H vs Q E hr h => ?_
  obtain ⟨o, a, b, rfl, ⟨ha0, ha1⟩, ⟨hb0, hb1⟩, q⟩ := h
  refine ⟨_, (pss_cons (ps_if (pt_cmpR op_eq (pv 0) pe_str (nomark _)) (pss_one (ps_ret (pe_op op_mod (pe_op op_add (pv 1) (pv 2)) (C8.pe_gc rfl T.PRIME)))) pss_nil) 
    (pss_cons (ps_if (pt_cmpR op_eq (pv 0) pe_str (nomark _)) (pss_one (ps_ret (pe_op op_mod (pe_op op_sub (pv 1) (pv 2)) (C8.pe_gc rfl T.PRIME)))) pss_nil) 
    (pss_cons (ps_if (pt_cmpR op_eq (pv 0) pe_str (nomark _)) (pss_one (ps_ret (pe_op op_mod (pe_op op_mul (pv 1) (pv 2)) (C8.pe_gc rfl T.PRIME)))) pss_nil) 
    (pss_cons (ps_if (pt_cmpR op_eq (pv 0) pe_str (nomark _)) (pss_one (ps_ret (pe_callB (call_max2 rfl) (by rfl) T.z_max (by decide +kernel) (pa_cons (pv 1) (pa_cons (pv 2) pa_nil))))) pss_nil) 
    (pss_cons (ps_if (pt_cmpR op_eq (pv 0) pe_str (nomark _)) (pss_one (ps_ret (pe_callB (call_min2 rfl) (by rfl) T.z_min (by decide +kernel) (pa_cons (pv 1) (pa_cons (pv 2) pa_nil))))) pss_nil) 
    (pss_cons (ps_set (i := 3) sc_operated.nd rfl (Or.inl rfl) (pe_ifExp (pt_cmpR op_eq (pv 0) pe_str (nomark _)) (pe_cmpR op_lt (pv 1) (pv 2) (nomark _)) (pe_cmpR op_eq (pv 1) (pv 2) (nomark _)))) 
    (pss_one (ps_ret (pe_ifExp (pt_val (pv 3)) pe_int pe_int))))))))), ?_⟩
  have ne : ∀ {x : Str}, ¬ o = x → ¬ V.str o = V.str x := fun h z => h (V.str.inj z)
  refine ⟨_, rfl, rfl, _, rfl, ?_⟩
  by_cases c1 : o = "+"
  · refine iteD (by rw [c1]) ⟨_, rfl, _, rfl, _, _, rfl, rfl, _, _, rfl, rfl, (by show (0 : Int) < 1000003; decide), ?_⟩
    unfold opd at q
    rw [if_pos c1] at q
    exact q
  refine iteDF (ne c1) ⟨_, rfl, rfl, _, rfl, ?_⟩
  by_cases c2 : o = "-"
  · refine iteD (by rw [c2]) ⟨_, rfl, _, rfl, _, _, rfl, rfl, _, _, rfl, rfl, (by show (0 : Int) < 1000003; decide), ?_⟩
    unfold opd at q
    rw [if_neg c1, if_pos c2] at q
    exact q
  refine iteDF (ne c2) ⟨_, rfl, rfl, _, rfl, ?_⟩
  by_cases c3 : o = "*"
  · refine iteD (by rw [c3]) ⟨_, rfl, _, rfl, _, _, rfl, rfl, .inl ⟨by omega, by omega⟩, _, _, rfl, rfl, (by show (0 : Int) < 1000003; decide), ?_⟩
    unfold opd at q
    rw [if_neg c1, if_neg c2, if_pos c3] at q
    exact q
  refine iteDF (ne c3) ⟨_, rfl, rfl, _, rfl, ?_⟩
  by_cases c4 : o = "max"
  · refine iteD (by rw [c4]) ⟨_, rfl, _, rfl, _, _, rfl, ?_⟩
    unfold opd at q
    rw [if_neg c1, if_neg c2, if_neg c3, if_pos c4] at q
    exact q
  refine iteDF (ne c4) ⟨_, rfl, rfl, _, rfl, ?_⟩
  by_cases c5 : o = "min"
  · refine iteD (by rw [c5]) ⟨_, rfl, _, rfl, _, _, rfl, ?_⟩
    unfold opd at q
    rw [if_neg c1, if_neg c2, if_neg c3, if_neg c4, if_pos c5] at q
    exact q
  refine iteDF (ne c5) ⟨_, rfl, rfl, _, rfl, ?_⟩
  unfold opd at q
  rw [if_neg c1, if_neg c2, if_neg c3, if_neg c4, if_neg c5] at q
  by_cases c6 : o = "<"
  · rw [if_pos c6] at q
    refine iteD (by rw [c6]) ⟨_, rfl, _, rfl, _, _, rfl, rfl, _, rfl, _, rfl, ?_⟩
    by_cases c : a < b
    · rw [if_pos c] at q
      exact iteD c q
    · rw [if_neg c] at q
      exact iteDF c q
  · rw [if_neg c6] at q
    refine iteDF (ne c6) ⟨_, rfl, _, rfl, rfl, _, rfl, _, rfl, ?_⟩
    by_cases c : a = b
    · rw [if_pos c] at q
      exact iteD (by rw [c]) q
    · rw [if_neg c] at q
      exact iteDF (fun z => c (V.int.inj z)) q
def spWorked (n : Nat) : Sp := fun vs H Q _ => ∃ (v : V) (s e : Addr) (x : Exp) (st env : Sto) (L : List Str), vs = [v, .ref s, .ref e] ∧ DE H x v ∧ ST H st s ∧ ST H env e ∧ BV st ∧ BV env ∧ EnvOk env L ∧ WFE L x ∧ x.dep < n ∧ Q (.int (evE st env x)) H
theorem sc_worked_out : FnScope ["expression", "store", "env", "kind"] ["expression", "store", "env"] (defScope s_worked_out) := ⟨rfl, rfl, rfl, by decide +kernel, rfl, by decide +kernel, by decide +kernel⟩
theorem worked_out_1 {k n : Nat} (T : Txt w K mg) (hk : 1 ≤ k) (C_operated : C8.Cal P w K mg base 1 "operated" spOperated []) (C_worked_out : C8.Cal P w K mg base k "worked_out" (spWorked n) []) : C8.Cal P w K mg base (k + 1) "worked_out" (spWorked (n + 1)) [] := by
  refine T.f_worked_out.cal sc_worked_out (fun vs H Q E h => by obtain ⟨_, _, _, _, _, _, _, rfl, _⟩ := h; rfl) fun f cdv A outer s H vs Q E hr h => ?_
  obtain ⟨v, ss, es, x, st, env, L, rfl, de, hst, henv, bs, be, eo, wf, hd, q⟩ := h
  refine ⟨_, (pss_cons (ps_set (i := 3) sc_worked_out.nd rfl (Or.inl rfl) (pe_ix (kix_tup K rfl) (pv 0) pe_int (fun _ _ => rfl))) 
    (pss_cons (ps_if (pt_cmpR op_eq (pv 3) pe_str (nomark _)) (pss_one (ps_ret (pe_dget2 (hu_of hr) (pv 1) (pe_ix (kix_tup K rfl) (pv 0) pe_int (fun _ _ => rfl)) pe_int ⟨rfl, rfl, rfl, rfl⟩))) pss_nil) 
    (pss_cons (ps_if (pt_cmpR op_eq (pv 3) pe_str (nomark _)) (pss_one (ps_ret (pe_dget (hu_of hr) (pv 2) (pe_ix (kix_tup K rfl) (pv 0) pe_int (fun _ _ => rfl)) (fun _ _ => rfl)))) pss_nil) 
    (pss_cons (ps_if (pt_cmpR op_eq (pv 3) pe_str (nomark _)) (pss_one (ps_ret (C8.pe_c C_operated hr (by omega) rfl (pa_cons (pe_ix (kix_tup K rfl) (pv 0) pe_int (fun _ _ => rfl)) (pa_cons (C8.pe_c C_worked_out hr (by omega) rfl (pa_cons (pe_ix (kix_tup K rfl) (pv 0) pe_int (fun _ _ => rfl)) (pa_cons (pv 1) (pa_cons (pv 2) pa_nil)))) (pa_cons (C8.pe_c C_worked_out hr (by omega) rfl (pa_cons (pe_ix (kix_tup K rfl) (pv 0) pe_int (fun _ _ => rfl)) (pa_cons (pv 1) (pa_cons (pv 2) pa_nil)))) pa_nil)))))) pss_nil) 
    (pss_one (ps_ret (pe_ix (kix_tup K rfl) (pv 0) pe_int (fun _ _ => rfl)))))))), ?_⟩
  cases x with
  | num n =>
    obtain ⟨a, rfl, ha⟩ := de
    refine ⟨_, rfl, _, _, _, _, rfl, rfl, SqT.of ha, at0, ?_⟩
    refine ⟨_, rfl, rfl, _, rfl, iteDF (by decide) ?_⟩
    refine ⟨_, rfl, rfl, _, rfl, iteDF (by decide) ?_⟩
    refine ⟨_, rfl, rfl, _, rfl, iteDF (by decide) ?_⟩
    exact ⟨_, rfl, _, _, _, _, rfl, rfl, SqT.of ha, at1, q⟩
  | word y =>
    obtain ⟨a, rfl, ha⟩ := de
    obtain ⟨kvs, hs, al⟩ := hst
    refine ⟨_, rfl, _, _, _, _, rfl, rfl, SqT.of ha, at0, ?_⟩
    refine ⟨_, rfl, rfl, _, rfl, iteD (by decide) ?_⟩
    refine ⟨_, rfl, ss, rfl, .inl ⟨kvs, .inl hs⟩, _, rfl, _, _, _, _, rfl, rfl, SqT.of ha, at1, _, dgetN_k hs rfl, ?_⟩
    have e : (valV kvs (Sum.inr y)).getD (.int 0) = .int (evE st env (.word y)) := by
      show _ = V.int ((alook st y).getD 0)
      cases z : alook st y with
      | none => rw [al.none inr_inj y z]; rfl
      | some x =>
        obtain ⟨u, h1, h2⟩ := al.look inr_inj y z
        rw [h1, h2]; rfl
    rw [e]
    exact q
  | loc y =>
    obtain ⟨a, rfl, ha⟩ := de
    obtain ⟨kvs, hs, al⟩ := henv
    refine ⟨_, rfl, _, _, _, _, rfl, rfl, SqT.of ha, at0, ?_⟩
    refine ⟨_, rfl, rfl, _, rfl, iteDF (by decide) ?_⟩
    refine ⟨_, rfl, rfl, _, rfl, iteD (by decide) ?_⟩
    obtain ⟨x, z⟩ := eo y wf.2
    obtain ⟨u, h1, h2⟩ := al.look inr_inj y z
    refine ⟨_, rfl, _, rfl, _, _, _, _, rfl, rfl, SqT.of ha, at1, es, u, rfl, dget_k hs h1, ?_⟩
    have e : evE st env (.loc y) = x := by
      show (alook env y).getD 0 = x
      rw [z]; rfl
    rw [e] at q
    rw [h2]
    exact q
  | op o l r =>
    obtain ⟨a, vl, vr, rfl, ha, dl, dr⟩ := de
    have h1 : l.dep < n := by
      have := hd
      simp only [Exp.dep] at this
      omega
    have h2 : r.dep < n := by
      have := hd
      simp only [Exp.dep] at this
      omega
    refine ⟨_, rfl, _, _, _, _, rfl, rfl, SqT.of ha, at0, ?_⟩
    refine ⟨_, rfl, rfl, _, rfl, iteDF (by decide) ?_⟩
    refine ⟨_, rfl, rfl, _, rfl, iteDF (by decide) ?_⟩
    refine ⟨_, rfl, rfl, _, rfl, iteD (by decide) ?_⟩
    refine ⟨_, rfl, _, _, _, _, rfl, rfl, SqT.of ha, at1, _, rfl, _, _, _, _, rfl, rfl, SqT.of ha, at2, _, rfl, _, rfl, vl, ss, es, l, st, env, L, rfl, dl, hst, henv, bs, be, eo, wf.2.1, h1, ?_⟩
    refine ⟨_, rfl, _, _, _, _, rfl, rfl, SqT.of ha, at3, _, rfl, _, rfl, vr, ss, es, r, st, env, L, rfl, dr, hst, henv, bs, be, eo, wf.2.2, h2, ?_⟩
    exact ⟨o, _, _, rfl, evE_in bs be wf.2.1, evE_in bs be wf.2.2, q⟩
theorem ok_worked_out (T : Txt w K mg) (C_operated : C8.Cal P w K mg base 1 "operated" spOperated []) : ∀ n : Nat, C8.Cal P w K mg base (1 + n) "worked_out" (spWorked n) []
  | 0 => T.f_worked_out.none fun vs H Q E h => by
    obtain ⟨_, _, _, _, _, _, _, _, _, _, _, _, _, _, _, h, _⟩ := h
    omega
  | n + 1 => worked_out_1 (k := 1 + n) T (by omega) C_operated (ok_worked_out T C_operated n)
def spParts (k : Nat) : Sp := fun vs H Q _ => ∃ (lo hi : Nat), vs = [.int (lo : Int), .int (hi : Int)] ∧ lo ≤ hi ∧ hi < lo + k ∧ hi ≤ 100 ∧ lo ≤ 100 ∧ ∀ H' a, Same H H' → H a = none → LN H' (parts k lo hi) a → Q (.ref a) H'
theorem sc_parts_of_fold : FnScope ["low", "high", "i", "middle"] ["low", "high"] (defScope s_parts_of_fold) := ⟨rfl, rfl, rfl, by decide +kernel, rfl, by decide +kernel, by decide +kernel⟩
theorem parts_1 {k : Nat} (T : Txt w K mg) (C_parts_of_fold : C8.Cal P w K mg base k "parts_of_fold" (spParts k) []) : C8.Cal P w K mg base (k + 1) "parts_of_fold" (spParts (k + 1)) [] := by
  refine T.f_parts_of_fold.cal sc_parts_of_fold (fun vs H Q E h => by obtain ⟨_, _, rfl, _⟩ := h; rfl) fun f cdv A outer s H vs Q E hr h => ?_
  obtain ⟨lo, hi, rfl, hle, hk, h100, hl100, q⟩ := h
  refine ⟨_, (pss_cons (ps_if (pt_cmpR op_lt (pe_op op_sub (pv 1) (pv 0)) pe_int (nomark _)) (pss_one (ps_ret (pe_lc (own := [("i", 2)]) rfl sc_parts_of_fold.nd (pi_range2 rfl T.z_range (pa_cons (pv 0) (pa_cons (pv 1) pa_nil))) (blkOk_by (N := ["low", "high", "i", "middle"]) (sc := defScope s_parts_of_fold) (by decide +kernel)) (fun _ _ _ _ _ => (pg_name (i := 2) sc_parts_of_fold.nd rfl (Or.inl rfl))) (fun _ _ _ _ _ => pts_nil) (fun _ _ _ _ _ => (pe_tup (pa_cons (pv 2) pa_nil)))))) pss_nil) 
    (pss_cons (ps_set (i := 3) sc_parts_of_fold.nd rfl (Or.inl rfl) (pe_op op_fdiv (pe_op op_add (pv 0) (pv 1)) pe_int)) 
    (pss_one (ps_ret (pe_op op_cat (pe_op op_cat (C8.pe_c C_parts_of_fold hr (by omega) rfl (pa_cons (pv 0) (pa_cons (pv 3) pa_nil))) (C8.pe_c C_parts_of_fold hr (by omega) rfl (pa_cons (pv 3) (pa_cons (pv 1) pa_nil)))) (pe_lst (pa_cons (pe_tup (pa_cons (pv 0) (pa_cons (pv 1) pa_nil))) pa_nil))))))), ?_⟩
  refine ⟨_, rfl, _, rfl, _, _, rfl, rfl, _, _, rfl, rfl, _, rfl, ?_⟩
  by_cases c : hi < lo + 2
  · refine iteD (by omega) ?_
    refine ⟨_, rfl, _, rfl, _, _, rfl, ⟨by omega, by omega, by omega, by omega⟩, fun D hD => ?_⟩
    have en : ((hi : Int) - lo).toNat = hi - lo := by omega
    rw [en]
    refine lc_map (n := hi - lo) (fun i v H => ∃ a, v = .ref a ∧ NM H [((lo + i : Nat) : Int)] a) (fun i y H H' k ⟨a, e, h⟩ => ⟨a, e, h.mono k⟩) (lt_line (by omega)) hD (fun i H1 hi _ => hi) (fun _ _ => Nat.le_refl _) (fun i H1 v H' Qn hi hS yl k => ?_) fun H' ys hS hD' hl hR => ?_
    · obtain ⟨rfl, rfl⟩ := yl
      refine ⟨rfl, _, rfl, le_line (by show 1 ≤ 1000; decide), fun p hp => k _ _ (same_new hp _) ⟨p, rfl, ?_⟩⟩
      show upd H' p _ p = some (.tup [V.int ((lo + i : Nat) : Int)])
      rw [upd_same]
      rfl
    · refine q _ D hS hD ⟨ys, hD', ?_⟩
      unfold parts
      rw [if_pos c]
      have g : ∀ (m : Nat) (zs : List V) (j : Nat), zs.length = m → (∀ i y, zs[i]? = some y → ∃ a, y = V.ref a ∧ NM H' [((lo + (j + i) : Nat) : Int)] a) → NMs H' ((List.range' j m).map fun i => [((lo + i : Nat) : Int)]) zs := by
        intro m
        induction m with
        | zero =>
          intro zs j h0 _
          rw [List.length_eq_zero_iff.mp h0]
          exact .nil
        | succ m ih =>
          intro zs j h0 h
          cases zs with
          | nil => cases h0
          | cons z zs =>
            refine .cons ?_ (ih zs (j + 1) (Nat.succ.inj h0) fun i y e => ?_)
            · simpa using h 0 z rfl
            · have := h (i + 1) y (by simpa using e)
              rw [show j + 1 + i = j + (i + 1) by omega]
              exact this
      rw [List.range_eq_range']
      exact g (hi - lo) ys 0 hl fun i y e => by
        rw [Nat.zero_add]
        exact hR i y e
  · refine iteDF (by omega) ?_
    refine ⟨_, rfl, _, rfl, _, _, rfl, rfl, _, _, rfl, rfl, ⟨by decide, by decide⟩, ?_⟩
    have em : ((lo : Int) + hi) / 2 = (((lo + hi) / 2 : Nat) : Int) := by omega
    refine ⟨_, rfl, _, rfl, lo, (lo + hi) / 2, congrArg (fun z => [V.int (lo : Int), V.int z]) em, by omega, by omega, by omega, hl100, fun H1 a1 s1 _ ⟨v1, h1, n1⟩ => ?_⟩
    refine ⟨_, rfl, _, rfl, (lo + hi) / 2, hi, congrArg (fun z => [V.int z, V.int (hi : Int)]) em, by omega, by omega, h100, by omega, fun H2 a2 s2 _ ⟨v2, h2, n2⟩ => ?_⟩
    have l1 := n1.len
    have l2 := n2.len
    have p1 := len_parts k lo ((lo + hi) / 2)
    have p2 := len_parts k ((lo + hi) / 2) hi
    have h1' := s2 _ _ h1
    refine ⟨a1, a2, v1, v2, rfl, rfl, h1', h2, le_line (by omega), fun p3 hp3 => ?_⟩
    have s3 := same_new hp3 (.lst (v1 ++ v2))
    refine ⟨_, rfl, _, rfl, le_line (by show 2 ≤ 1000; decide), fun p4 hp4 => ?_⟩
    have s4 := same_new hp4 (.tup [V.int (lo : Int), V.int (hi : Int)])
    refine ⟨le_line (by show 1 ≤ 1000; decide), fun p5 hp5 => ?_⟩
    have s5 := same_new hp5 (.lst [V.ref p4])
    refine ⟨p3, p5, _, _, rfl, rfl, s5 _ _ (s4 _ _ upd_same), upd_same, le_line (by rw [List.length_append]; show _ + 1 ≤ 1000; omega), fun p6 hp6 => ?_⟩
    have s6 := same_new hp6 (.lst (v1 ++ v2 ++ [V.ref p4]))
    have s36 := s3.trans (s4.trans (s5.trans s6))
    refine q _ p6 (s1.trans (s2.trans s36)) ((s1.trans (s2.trans (s3.trans (s4.trans s5)))).free hp6) ⟨_, upd_same, ?_⟩
    unfold parts
    rw [if_neg c]
    refine paired_app (paired_app (n1.mono (Tk.same (s2.trans s36))) (n2.mono (Tk.same s36))) (.cons ⟨p4, rfl, ?_⟩ .nil)
    exact (s5.trans s6) _ _ upd_same
theorem ok_parts (T : Txt w K mg) : ∀ k : Nat, C8.Cal P w K mg base k "parts_of_fold" (spParts k) []
  | 0 => T.f_parts_of_fold.none fun vs H Q E h => by
    obtain ⟨lo, hi, _, h1, h2, _⟩ := h
    omega
  | k + 1 => parts_1 T (ok_parts T k)
end
end K11
set_option Elab.async false
set_option linter.all false
set_option maxRecDepth 100000
set_option maxHeartbeats 4000000
namespace K11
open PySem PySem.Spec PyProof.Rows L2
/-! ### the state of an unfolding -/
structure BI where
  stms : Blk
  env : Sto
  hang : Option Nm
  arnd : Option (Nm × Int)
structure KI where
  kd : Str
  fst : Nm
  prt : Nm
structure US where
  st : Sto
  done : List (Nm × Int)
  blocks : List (Nm × BI)
  known : List (Nm × KI)
  times : List (Nm × Nat)
structure AA where
  u : Addr
  dx : Addr
  s : Addr
  d : Addr
  b : Addr
  k : Addr
  t : Addr
def AA.mut (A : AA) : List Addr := [A.s, A.d, A.b, A.k, A.t]
def US.sz (u : US) : Nat := u.st.length + u.done.length + u.blocks.length + u.known.length + u.times.length
def ON (H : Hp) : Option Nm → V → Prop
  | none, v => v = .non
  | some n, v => ∃ a, v = .ref a ∧ NM H n a
def OA (H : Hp) : Option (Nm × Int) → V → Prop
  | none, v => v = .non
  | some p, v => ∃ t a, v = .ref t ∧ H t = some (.tup [.ref a, .int p.2]) ∧ NM H p.1 a
/-- a block at a value -/
def RB (CB : Addr) (M : List Addr) (H : Hp) (x : BI) (v : V) : Prop := ∃ b bx sa e vh va, v = .ref b ∧ H b = some (.ins CB bx [("statements", .ref sa), ("env", .ref e), ("hangs_on", vh), ("around", va)]) ∧
  DB H x.stms sa ∧ e ∉ M ∧ ST H x.env e ∧ ON H x.hang vh ∧ OA H x.arnd va
def RK (H : Hp) (x : KI) (v : V) : Prop := ∃ t f p, v = .ref t ∧ H t = some (.tup [.str x.kd, .ref f, .ref p]) ∧ NM H x.fst f ∧ NM H x.prt p
def RN (x : Nat) (v : V) : Prop := v = .int (x : Int)
/-- a dict with names for keys -/
def DT {β : Type} (R : β → V → Prop) (H : Hp) (l : List (Nm × β)) (a : Addr) : Prop := ∃ kvs, H a = some (.dT kvs) ∧ AL kn R kvs l
structure UAt (C CB : Addr) (A : AA) (H : Hp) (u : US) : Prop where
  ins : H A.u = some (.ins C A.dx [("store", .ref A.s), ("done", .ref A.d), ("blocks", .ref A.b), ("known", .ref A.k), ("times", .ref A.t)])
  st : ST H u.st A.s
  dn : DT RI H u.done A.d
  bl : DT (RB CB A.mut H) H u.blocks A.b
  kw : DT (RK H) H u.known A.k
  tm : DT RN H u.times A.t
  nd : A.mut.Nodup
/-- the addresses of M hold dicts -/
def DD (M : List Addr) (H : Hp) : Prop := ∀ b ∈ M, (∃ kvs, H b = some (.dK kvs)) ∨ ∃ kvs, H b = some (.dT kvs)
theorem DD.tup {M : List Addr} {H : Hp} (d : DD M H) {b : Addr} {vs : List V} (h : H b = some (.tup vs)) : b ∉ M := fun z => by
  rcases d b z with ⟨_, e⟩ | ⟨_, e⟩ <;> rw [h] at e <;> cases e
theorem DD.lst {M : List Addr} {H : Hp} (d : DD M H) {b : Addr} {vs : List V} (h : H b = some (.lst vs)) : b ∉ M := fun z => by
  rcases d b z with ⟨_, e⟩ | ⟨_, e⟩ <;> rw [h] at e <;> cases e
theorem DD.ins {M : List Addr} {H : Hp} (d : DD M H) {b C x : Addr} {fs : List (Str × V)} (h : H b = some (.ins C x fs)) : b ∉ M := fun z => by
  rcases d b z with ⟨_, e⟩ | ⟨_, e⟩ <;> rw [h] at e <;> cases e
theorem DD.none {M : List Addr} {H : Hp} (d : DD M H) {b : Addr} (h : H b = none) : b ∉ M := fun z => by
  rcases d b z with ⟨_, e⟩ | ⟨_, e⟩ <;> rw [h] at e <;> cases e
theorem UAt.dd {C CB : Addr} {A : AA} {H : Hp} {u : US} (h : UAt C CB A H u) : DD A.mut H := fun b hb => by
  obtain ⟨_, es, _⟩ := h.st
  obtain ⟨_, ed, _⟩ := h.dn
  obtain ⟨_, eb, _⟩ := h.bl
  obtain ⟨_, ek, _⟩ := h.kw
  obtain ⟨_, et, _⟩ := h.tm
  simp only [AA.mut, List.mem_cons, List.not_mem_nil, or_false] at hb
  rcases hb with rfl | rfl | rfl | rfl | rfl
  · exact .inl ⟨_, es⟩
  · exact .inr ⟨_, ed⟩
  · exact .inr ⟨_, eb⟩
  · exact .inr ⟨_, ek⟩
  · exact .inr ⟨_, et⟩
theorem tk_of {M : List Addr} {H H' : Hp} (d : DD M H) (k : Kp M H H') : Tk H H' := fun a vs h => k a _ h (d.tup h)
theorem ST.kp {M : List Addr} {H H' : Hp} (k : Kp M H H') {st : Sto} {a : Addr} (h : ST H st a) (n : a ∉ M) : ST H' st a := h.elim fun kvs q => ⟨kvs, k _ _ q.1 n, q.2⟩
theorem ST.same {H H' : Hp} (s : Same H H') {st : Sto} {a : Addr} (h : ST H st a) : ST H' st a := h.elim fun kvs q => ⟨kvs, s _ _ q.1, q.2⟩
theorem ON.mono {H H' : Hp} (k : Tk H H') : ∀ {x : Option Nm} {v : V}, ON H x v → ON H' x v
  | none, _, h => h
  | some _, _, ⟨a, e, h⟩ => ⟨a, e, h.mono k⟩
theorem OA.mono {H H' : Hp} (k : Tk H H') : ∀ {x : Option (Nm × Int)} {v : V}, OA H x v → OA H' x v
  | none, _, h => h
  | some _, _, ⟨t, a, e, h1, h2⟩ => ⟨t, a, e, k _ _ h1, h2.mono k⟩
theorem RB.kp {CB : Addr} {M : List Addr} {H H' : Hp} (d : DD M H) (k : Kp M H H') {x : BI} {v : V} (h : RB CB M H x v) : RB CB M H' x v := by
  obtain ⟨b, bx, sa, e, vh, va, e0, h1, h2, h3, h4, h5, h6⟩ := h
  have t := tk_of d k
  exact ⟨b, bx, sa, e, vh, va, e0, k _ _ h1 (d.ins h1), h2.mono t, h3, h4.kp k h3, h5.mono t, h6.mono t⟩
theorem RK.mono {H H' : Hp} (k : Tk H H') {x : KI} {v : V} (h : RK H x v) : RK H' x v := by
  obtain ⟨t, f, p, e, h1, h2, h3⟩ := h
  exact ⟨t, f, p, e, k _ _ h1, h2.mono k, h3.mono k⟩
theorem DT.kp {β : Type} {R R' : β → V → Prop} {H H' : Hp} {l : List (Nm × β)} {a : Addr} (h : DT R H l a) (e : ∀ o, H a = some o → H' a = some o) (m : ∀ x v, R x v → R' x v) : DT R' H' l a := h.elim fun kvs q => ⟨kvs, e _ q.1, q.2.mono m⟩
section
variable {C CB : Addr} {A : AA} {H H' : Hp} {u : US}
theorem UAt.same (h : UAt C CB A H u) (s : Same H H') : UAt C CB A H' u :=
  ⟨s _ _ h.ins, h.st.same s, h.dn.kp (s _) fun _ _ q => q, h.bl.kp (s _) fun _ _ q => q.kp h.dd (Kp.same s), h.kw.kp (s _) fun _ _ q => q.mono (Tk.same s), h.tm.kp (s _) fun _ _ q => q, h.nd⟩
theorem nd5 {a b c d e : Addr} (h : [a, b, c, d, e].Nodup) : a ≠ b ∧ a ≠ c ∧ a ≠ d ∧ a ≠ e ∧ b ≠ c ∧ b ≠ d ∧ b ≠ e ∧ c ≠ d ∧ c ≠ e ∧ d ≠ e := by
  simp only [List.nodup_cons, List.mem_cons, List.not_mem_nil, or_false, not_or, not_false_eq_true, List.nodup_nil, and_true] at h
  obtain ⟨⟨h1, h2, h3, h4⟩, ⟨h5, h6, h7⟩, ⟨h8, h9⟩, h10⟩ := h
  exact ⟨h1, h2, h3, h4, h5, h6, h7, h8, h9, h10⟩
theorem kp_one {M : List Addr} {p : Addr} (o : HO) (h : p ∈ M) (H : Hp) : Kp M H (upd H p o) := Kp.upd h
/-- one store into one of the dicts -/
theorem UAt.putS (h : UAt C CB A H u) {x : Str} {v : Int} (kvs : List (Key × V)) (e : H A.s = some (.dK kvs)) (al : AL Sum.inr RI kvs u.st) : UAt C CB A (upd H A.s (.dK (putK kvs (Sum.inr x) (.int v)))) { u with st := aput u.st x v } := by
  obtain ⟨n1, n2, n3, n4, n5, n6, n7, n8, n9, n10⟩ := nd5 h.nd
  have d := h.dd
  have k : Kp A.mut H (upd H A.s (.dK (putK kvs (Sum.inr x) (.int v)))) := Kp.upd (by simp [AA.mut])
  have t := tk_of d k
  exact ⟨k _ _ h.ins (d.ins h.ins), ⟨_, upd_same, al.put inr_inj rfl⟩, h.dn.kp (fun o q => by rw [upd_ne n1.symm]; exact q) fun _ _ q => q, h.bl.kp (fun o q => by rw [upd_ne n2.symm]; exact q) fun _ _ q => q.kp d k,
    h.kw.kp (fun o q => by rw [upd_ne n3.symm]; exact q) fun _ _ q => q.mono t, h.tm.kp (fun o q => by rw [upd_ne n4.symm]; exact q) fun _ _ q => q, h.nd⟩
theorem UAt.putD (h : UAt C CB A H u) {n : Nm} {v : Int} (kvs : List (List Key × V)) (e : H A.d = some (.dT kvs)) (al : AL kn RI kvs u.done) : UAt C CB A (upd H A.d (.dT (putK kvs (kn n) (.int v)))) { u with done := aput u.done n v } := by
  obtain ⟨n1, n2, n3, n4, n5, n6, n7, n8, n9, n10⟩ := nd5 h.nd
  have d := h.dd
  have k : Kp A.mut H (upd H A.d (.dT (putK kvs (kn n) (.int v)))) := Kp.upd (by simp [AA.mut])
  have t := tk_of d k
  exact ⟨k _ _ h.ins (d.ins h.ins), h.st.elim fun l q => ⟨l, by rw [upd_ne n1]; exact q.1, q.2⟩, ⟨_, upd_same, al.put kn_inj rfl⟩, h.bl.kp (fun o q => by rw [upd_ne n5.symm]; exact q) fun _ _ q => q.kp d k,
    h.kw.kp (fun o q => by rw [upd_ne n6.symm]; exact q) fun _ _ q => q.mono t, h.tm.kp (fun o q => by rw [upd_ne n7.symm]; exact q) fun _ _ q => q, h.nd⟩
theorem UAt.putB (h : UAt C CB A H u) {n : Nm} {x : BI} {v : V} (kvs : List (List Key × V)) (e : H A.b = some (.dT kvs)) (al : AL kn (RB CB A.mut H) kvs u.blocks) (r : RB CB A.mut H x v) :
    UAt C CB A (upd H A.b (.dT (putK kvs (kn n) v))) { u with blocks := aput u.blocks n x } := by
  obtain ⟨n1, n2, n3, n4, n5, n6, n7, n8, n9, n10⟩ := nd5 h.nd
  have d := h.dd
  have k : Kp A.mut H (upd H A.b (.dT (putK kvs (kn n) v))) := Kp.upd (by simp [AA.mut])
  have t := tk_of d k
  exact ⟨k _ _ h.ins (d.ins h.ins), h.st.elim fun l q => ⟨l, by rw [upd_ne n2]; exact q.1, q.2⟩, h.dn.kp (fun o q => by rw [upd_ne n5]; exact q) fun _ _ q => q, ⟨_, upd_same, (al.put kn_inj r).mono fun _ _ q => q.kp d k⟩,
    h.kw.kp (fun o q => by rw [upd_ne n8.symm]; exact q) fun _ _ q => q.mono t, h.tm.kp (fun o q => by rw [upd_ne n9.symm]; exact q) fun _ _ q => q, h.nd⟩
theorem UAt.putW (h : UAt C CB A H u) {n : Nm} {x : KI} {v : V} (kvs : List (List Key × V)) (e : H A.k = some (.dT kvs)) (al : AL kn (RK H) kvs u.known) (r : RK H x v) :
    UAt C CB A (upd H A.k (.dT (putK kvs (kn n) v))) { u with known := aput u.known n x } := by
  obtain ⟨n1, n2, n3, n4, n5, n6, n7, n8, n9, n10⟩ := nd5 h.nd
  have d := h.dd
  have k : Kp A.mut H (upd H A.k (.dT (putK kvs (kn n) v))) := Kp.upd (by simp [AA.mut])
  have t := tk_of d k
  exact ⟨k _ _ h.ins (d.ins h.ins), h.st.elim fun l q => ⟨l, by rw [upd_ne n3]; exact q.1, q.2⟩, h.dn.kp (fun o q => by rw [upd_ne n6]; exact q) fun _ _ q => q, h.bl.kp (fun o q => by rw [upd_ne n8]; exact q) fun _ _ q => q.kp d k,
    ⟨_, upd_same, (al.put kn_inj r).mono fun _ _ q => q.mono t⟩, h.tm.kp (fun o q => by rw [upd_ne n10.symm]; exact q) fun _ _ q => q, h.nd⟩
theorem UAt.putT (h : UAt C CB A H u) {n : Nm} {x : Nat} (kvs : List (List Key × V)) (e : H A.t = some (.dT kvs)) (al : AL kn RN kvs u.times) :
    UAt C CB A (upd H A.t (.dT (putK kvs (kn n) (.int (x : Int))))) { u with times := aput u.times n x } := by
  obtain ⟨n1, n2, n3, n4, n5, n6, n7, n8, n9, n10⟩ := nd5 h.nd
  have d := h.dd
  have k : Kp A.mut H (upd H A.t (.dT (putK kvs (kn n) (.int (x : Int))))) := Kp.upd (by simp [AA.mut])
  have t := tk_of d k
  exact ⟨k _ _ h.ins (d.ins h.ins), h.st.elim fun l q => ⟨l, by rw [upd_ne n4]; exact q.1, q.2⟩, h.dn.kp (fun o q => by rw [upd_ne n7]; exact q) fun _ _ q => q, h.bl.kp (fun o q => by rw [upd_ne n9]; exact q) fun _ _ q => q.kp d k,
    h.kw.kp (fun o q => by rw [upd_ne n10]; exact q) fun _ _ q => q.mono t, ⟨_, upd_same, al.put kn_inj rfl⟩, h.nd⟩
end
/-! ### unfolding a block, plainly -/
def knowN (q : Nm) (ss : List Stm) (l : List (Nm × KI)) : Nat → List (Nm × KI)
  | 0 => l
  | n + 1 => match ss[n]? with
    | some s => aput (knowN q ss l n) (q ++ [(n : Int)]) ⟨s.kd, q ++ [(n : Int)], []⟩
    | none => knowN q ss l n
theorem knowN_succ {q : Nm} {ss : List Stm} {l : List (Nm × KI)} {n : Nat} {s : Stm} (h : ss[n]? = some s) : knowN q ss l (n + 1) = aput (knowN q ss l n) (q ++ [(n : Int)]) ⟨s.kd, q ++ [(n : Int)], []⟩ := by
  show (match ss[n]? with
    | some s => aput (knowN q ss l n) (q ++ [(n : Int)]) ⟨s.kd, q ++ [(n : Int)], []⟩
    | none => knowN q ss l n) = _
  rw [h]
theorem len_knowN (q : Nm) (ss : List Stm) (l : List (Nm × KI)) : ∀ n, (knowN q ss l n).length ≤ l.length + n
  | 0 => Nat.le_refl _
  | n + 1 => by
    have h := len_knowN q ss l n
    cases e : ss[n]? with
    | none =>
      show (match ss[n]? with
        | some s => aput (knowN q ss l n) (q ++ [(n : Int)]) ⟨s.kd, q ++ [(n : Int)], []⟩
        | none => knowN q ss l n).length ≤ _
      rw [e]
      show (knowN q ss l n).length ≤ _
      omega
    | some s =>
      rw [knowN_succ e]
      have := len_aput (knowN q ss l n) (q ++ [(n : Int)]) ⟨s.kd, q ++ [(n : Int)], []⟩
      omega
/-- self.unfold(q, block) -/
def US.unf (u : US) (q : Nm) (x : BI) : US := { u with blocks := aput u.blocks q x, known := knowN q x.stms u.known x.stms.length }
end K11
set_option Elab.async false
set_option linter.all false
set_option maxRecDepth 100000
set_option maxHeartbeats 4000000
namespace K11
open PySem PySem.Spec PyProof.Rows L2
/-! ### names put together and taken apart -/
section
variable {X : Cx}
/-- q + m -/
def rCatN : R2 := fun x y H Q => ∃ q m a b, x = .ref a ∧ y = .ref b ∧ NM H q a ∧ NM H m b ∧ m ≠ [] ∧ q.length + m.length ≤ 1000 ∧ ∀ H' r, Same H H' → NM H' (q ++ m) r → Q (.ref r) H'
theorem op_catN : OpR X (binaryOp .Add) rCatN := by
  intro pins s σ H x y v u Q I rx ry h
  obtain ⟨q, m, a, b, rfl, rfl, ha, hb, hm, hl, k⟩ := h
  have e1 : (q.map V.int).length = q.length := List.length_map _
  have e2 : (m.map V.int).length = m.length := List.length_map _
  refine op_catA pins s σ H _ _ v u Q I rx ry ⟨a, b, _, _, rfl, rfl, SqT.of ha, SqT.of hb, le_line (by rw [e1, e2]; exact hl), fun z => ?_, fun _ z => ?_, fun _ _ p hp => k _ p (same_new hp _) ?_⟩
  · have z' : q = [] := List.map_eq_nil_iff.mp z
    subst z'
    exact k H b (Same.refl H) hb
  · exact absurd (List.map_eq_nil_iff.mp z) hm
  · show upd H p _ p = _
    rw [upd_same, List.map_append]
/-- n[:-1] -/
def rInitN : V → Option Int → Option Int → Hp → VK → Prop := fun x lo hi H Q => ∃ a q k, x = .ref a ∧ lo = none ∧ hi = some (-1) ∧ NM H (q ++ [k]) a ∧ ∀ H' r, Same H H' → NM H' q r → Q (.ref r) H'
theorem six_m1 (n d : Nat) (h : 0 < n) : HT.sIx n d (some (-1)) = n - 1 := by
  show (if (-1 : Int) < 0 then ((-1 : Int) + (n : Int)).toNat else min (-1 : Int).toNat n) = n - 1
  rw [if_pos (by decide)]
  omega
theorem sl_initN : SlR X rInitN := by
  intro pins s σ H x v vl vu lo hi sl Q I rx hs pl pu h
  obtain ⟨a, q, k, rfl, rfl, rfl, ha, kq⟩ := h
  have el : ((q ++ [k]).map V.int).length = q.length + 1 := by rw [List.length_map, List.length_append]; rfl
  refine sl_tupA pins s σ H _ v vl vu none (some (-1)) sl Q I rx hs pl pu ⟨a, _, rfl, SqT.of ha, fun z => ?_, fun _ p hp => kq _ p (same_new hp _) ?_⟩
  · have z2 := z.2
    rw [el, six_m1 _ _ (by omega)] at z2
    omega
  · show upd H p _ p = _
    rw [upd_same]
    unfold cutV
    rw [el, six_m1 _ _ (by omega), HT.sIx_none, List.drop_zero, List.map_append]
    rw [show q.length + 1 - 1 - 0 = (q.map V.int).length by rw [List.length_map]; omega, List.take_left]
end
theorem at_last {α : Type} {xs : List α} {v : α} : atI (xs ++ [v]) (-1) = some v := by
  unfold atI ixN
  rw [if_neg (by decide)]
  have e : (xs ++ [v]).length = xs.length + 1 := by rw [List.length_append]; rfl
  rw [if_pos (by omega), e]
  have e2 : (-1 + ((xs.length + 1 : Nat) : Int)).toNat = xs.length := by omega
  rw [e2]
  show (xs ++ [v])[xs.length]? = some v
  simp
theorem nm_last {H : Hp} {q : Nm} {k : Int} {a : Addr} (h : NM H (q ++ [k]) a) : ∃ xs, H a = some (.tup xs) ∧ atI xs (-1) = some (V.int k) := ⟨_, h, by rw [List.map_append]; exact at_last⟩
end K11
set_option Elab.async false
set_option linter.all false
set_option maxRecDepth 100000
set_option maxHeartbeats 4000000
namespace K11
open PySem PySem.Spec PyProof.Rows L2
section
variable {P : Program} {w : World} {K : PySem.W.Frag} {mg : Str → Option Value} {base : Heap}
abbrev UT (K : PySem.W.Frag) (A : AA) (H : Hp) (u : US) : Prop := UAt (ad K "Unfolding") (ad K "Block") A H u
abbrev RBk (K : PySem.W.Frag) (A : AA) (H : Hp) (x : BI) (v : V) : Prop := RB (ad K "Block") A.mut H x v
def spBlockInit : Sp := fun vs H Q _ => ∃ (p dx C : Addr) (a b c d : V), vs = [.ref p, a, b, c, d] ∧ C = ad K "Block" ∧ H p = some (.ins C dx []) ∧
  ∀ H', Kp [p] H H' → H' p = some (.ins C dx [("statements", a), ("env", b), ("hangs_on", c), ("around", d)]) → Q .non H'
theorem sc_Block___init__ : FnScope ["self", "statements", "env", "hangs_on", "around"] ["self", "statements", "env", "hangs_on", "around"] (defScope s_Block_init) := ⟨rfl, rfl, rfl, by decide +kernel, rfl, by decide +kernel, by decide +kernel⟩
theorem ok_Block_init (T : Txt w K mg) : C8.Mak P w K mg base 1 "Block" (ad K "Block") (spBlockInit (K := K)) [] := by
  refine T.f_Block_init.mak T.g_Block sc_Block___init__ (fun vs H Q E h => by obtain ⟨_, _, _, _, _, _, _, rfl, _⟩ := h; rfl) fun f cdv A outer s H vs Q E hr h => ?_
  obtain ⟨p, dx, C, a, b, c, d, rfl, rfl, hp, q⟩ := h
  refine ⟨_, (pss_cons (ps_fld (pv 0) (pv 1) rfl) 
    (pss_cons (ps_fld (pv 0) (pv 2) rfl) 
    (pss_cons (ps_fld (pv 0) (pv 3) rfl) 
    (pss_one (ps_fld (pv 0) (pv 4) rfl))))), ?_⟩
  have k : ∀ {o : HO} {H1 : Hp}, Kp [p] H H1 → Kp [p] H (upd H1 p o) := fun k => k.trans (Kp.upd (by simp))
  refine ⟨_, rfl, _, rfl, _, _, _, _, rfl, hp, T.c_Block, T.n_Block_statements, by decide, ?_⟩
  refine ⟨_, rfl, _, rfl, _, _, _, _, rfl, upd_same, T.c_Block, T.n_Block_env, (by show 1 < 1000; decide), ?_⟩
  refine ⟨_, rfl, _, rfl, _, _, _, _, rfl, upd_same, T.c_Block, T.n_Block_hangs_on, (by show 2 < 1000; decide), ?_⟩
  refine ⟨_, rfl, _, rfl, _, _, _, _, rfl, upd_same, T.c_Block, T.n_Block_around, (by show 3 < 1000; decide), ?_⟩
  exact q _ (k (k (k (k (Kp.refl _ _))))) upd_same
def spUnfold : Sp := fun vs H Q _ => ∃ (A : AA) (u : US) (q : Nm) (qa : Addr) (x : BI) (v : V), vs = [.ref A.u, .ref qa, v] ∧ UT K A H u ∧ NM H q qa ∧ q.length ≤ 100 ∧ RBk K A H x v ∧ x.stms.length ≤ 100 ∧ u.sz + x.stms.length + 1 < sizeLine ∧
  ∀ H', Kp A.mut H H' → UT K A H' (u.unf q x) → Q .non H'
theorem sc_Unfolding_unfold : FnScope ["self", "q", "block", "k", "statement"] ["self", "q", "block"] (defScope s_Unfolding_unfold) := ⟨rfl, rfl, rfl, by decide +kernel, rfl, by decide +kernel, by decide +kernel⟩
theorem ok_unfold (T : Txt w K mg) : C8.Met P w K mg base 1 (ad K "Unfolding") "unfold" (spUnfold (K := K)) [] := by
  refine T.f_Unfolding_unfold.met T.c_Unfolding sc_Unfolding_unfold (fun vs H Q E h => by obtain ⟨_, _, _, _, _, _, rfl, _⟩ := h; rfl) fun f cdv AR outer s H vs Q E hr h => ?_
  obtain ⟨A, u, q, qa, x, v, rfl, hU, hq, lq, rb, lx, hz, k⟩ := h
  refine ⟨_, (pss_cons (ps_dput (hu_of hr) (kfld K rfl (pv 0) rfl) (pv 1) (pv 2) rfl) 
    (pss_one (ps_for PassesOwn.never rfl (pi_enumT (by rfl) T.z_enumerate (pa_cons (kfld K rfl (pv 2) rfl) pa_nil)) (kpg_tup (n := 2) K rfl rfl (pgs_cons (pg_name (i := 3) sc_Unfolding_unfold.nd rfl (Or.inl rfl)) (pgs_cons (pg_name (i := 4) sc_Unfolding_unfold.nd rfl (Or.inl rfl)) pgs_nil))) (pss_one (ps_dput (hu_of hr) (kfld K rfl (pv 0) rfl) (pe_op op_catN (pv 1) (pe_tup (pa_cons (pv 3) pa_nil))) (pe_tup (pa_cons (pe_ix (kix_tup K rfl) (pv 4) pe_int (fun _ _ => rfl)) (pa_cons (pe_op op_catN (pv 1) (pe_tup (pa_cons (pv 3) pa_nil))) (pa_cons (pe_tup pa_nil) pa_nil)))) rfl))))), ?_⟩
  obtain ⟨kvs, hb, al⟩ := hU.bl
  have zb : kvs.length < sizeLine := by rw [al.len]; unfold US.sz at hz; omega
  refine ⟨_, rfl, _, rfl, _, _, _, _, _, rfl, hU.ins, T.c_Unfolding, T.n_Unfolding_blocks, rfl, _, rfl, _, _, rfl, dput_t hb hq zb, ?_⟩
  have U1 := hU.putB (n := q) (x := x) (v := v) kvs hb al rb
  have K1 : Kp A.mut H (upd H A.b (.dT (putK kvs (kn q) v))) := Kp.upd (by simp [AA.mut])
  have rb1 := rb.kp hU.dd K1
  have hq1 := hq.mono (tk_of hU.dd K1)
  generalize upd H A.b (.dT (putK kvs (kn q) v)) = H1 at U1 K1 rb1 hq1
  obtain ⟨b, bx, sa, e, vh, va, rfl, hb1, ⟨ws, hs1, ds1⟩, _⟩ := rb1
  have lw := ds1.length
  refine ⟨_, rfl, _, _, _, _, _, rfl, hb1, T.c_Block, T.n_Block_statements, rfl, sa, ws, rfl, hs1, for_enumT (xs := ws) (fun i σ H' => (∃ c1 c2, σ = [some (.ref A.u), some (.ref qa), some (.ref b), c1, c2]) ∧ Kp A.mut H1 H' ∧ UT K A H' { u with blocks := aput u.blocks q x, known := knowN q x.stms u.known i })
    ⟨⟨_, _, rfl⟩, Kp.refl _ _, U1⟩ (fun i σ H2 _ h => h.2.1 _ _ hs1 (U1.dd.tup hs1)) (fun i sv t σ H2 hx h ht => ?_) fun σ H2 h => ?_⟩
  · obtain ⟨⟨c1, c2, rfl⟩, K2, U2⟩ := h
    obtain ⟨st, hst, dst⟩ := ds1.get hx
    have hi : i < ws.length := (List.getElem?_eq_some_iff.mp hx).1
    have lk := len_knowN q x.stms u.known i
    have s2 := same_new ht (.tup [V.int (i : Nat), sv])
    refine ⟨t, _, rfl, SqT.of upd_same, rfl, _, _, rfl, _, _, rfl, rfl, ?_⟩
    have T2 : Tk H1 H2 := tk_of U1.dd K2
    obtain ⟨sa2, r, rfl, hst2, _⟩ := (dst.mono (T2.trans (Tk.same s2))).hd
    have U2' := U2.same s2
    have hq2 := hq1.mono (T2.trans (Tk.same s2))
    have K2' : Kp A.mut H1 _ := K2.trans (Kp.same s2)
    generalize upd H2 t (.tup [V.int (i : Nat), .ref sa2]) = H3 at s2 hst2 U2' hq2 K2'
    refine ⟨_, rfl, _, _, _, _, rfl, rfl, SqT.of hst2, at0, _, rfl, _, rfl, le_line (by show 1 ≤ 1000; decide), fun p1 hp1 => ?_⟩
    have s3 := same_new hp1 (.tup [V.int (i : Nat)])
    refine ⟨q, [(i : Int)], qa, p1, rfl, rfl, s3 _ _ hq2, upd_same, by simp, by simp; omega, fun H4 r1 s4 n1 => ⟨le_line (by show 0 ≤ 1000; decide), fun p2 hp2 => ?_⟩⟩
    have s5 := same_new hp2 (.tup [])
    refine ⟨le_line (by show 3 ≤ 1000; decide), fun p3 hp3 => ?_⟩
    have s6 := same_new hp3 (.tup [V.str st.kd, .ref r1, .ref p2])
    have s36 := s3.trans (s4.trans (s5.trans s6))
    have rk : RK (upd (upd H4 p2 (.tup [])) p3 (.tup [V.str st.kd, .ref r1, .ref p2])) ⟨st.kd, q ++ [(i : Int)], []⟩ (.ref p3) := ⟨p3, r1, p2, rfl, upd_same, n1.mono (Tk.same (s5.trans s6)), s6 _ _ upd_same⟩
    have U3 := U2'.same s36
    have hq3 := hq2.mono (Tk.same s36)
    have K3 := K2'.trans (Kp.same s36)
    generalize upd (upd H4 p2 (.tup [])) p3 (.tup [V.str st.kd, .ref r1, .ref p2]) = H5 at rk U3 hq3 K3
    obtain ⟨kvs3, hk3, al3⟩ := U3.kw
    refine ⟨_, rfl, _, _, _, _, _, rfl, U3.ins, T.c_Unfolding, T.n_Unfolding_known, rfl, _, rfl, _, rfl, le_line (by show 1 ≤ 1000; decide), fun p4 hp4 => ?_⟩
    have s7 := same_new hp4 (.tup [V.int (i : Nat)])
    refine ⟨q, [(i : Int)], qa, p4, rfl, rfl, s7 _ _ hq3, upd_same, by simp, by simp; omega, fun H6 r6 s8 n6 => ?_⟩
    have s78 := s7.trans s8
    have U6 := U3.same s78
    have al6 : AL kn (RK H6) kvs3 (knowN q x.stms u.known i) := al3.mono fun _ _ z => z.mono (Tk.same s78)
    refine ⟨_, _, rfl, dput_t (s78 _ _ hk3) n6 (by rw [al3.len]; show (knowN q x.stms u.known i).length < _; unfold US.sz at hz; omega), ⟨_, _, rfl⟩, (K3.trans (Kp.same s78)).trans (Kp.upd (by simp [AA.mut])), ?_⟩
    have U7 := U6.putW (n := q ++ [(i : Int)]) (x := ⟨st.kd, q ++ [(i : Int)], []⟩) (v := .ref p3) kvs3 (s78 _ _ hk3) al6 (rk.mono (Tk.same s78))
    rw [knowN_succ hst]
    exact U7
  · obtain ⟨⟨c1, c2, rfl⟩, K2, U2⟩ := h
    rw [lw] at U2
    exact k _ (K1.trans K2) U2
/-- the statement s stands in the block at q, at the place n -/
structure StAt (u : US) (q : Nm) (n : Nat) (x : BI) (s : Stm) : Prop where
  bl : alook u.blocks q = some x
  st : x.stms[n]? = some s
def spStatementOf : Sp := fun vs H Q _ => ∃ (A : AA) (u : US) (q : Nm) (n : Nat) (na : Addr) (x : BI) (s : Stm), vs = [.ref A.u, .ref na] ∧ UT K A H u ∧ NM H (q ++ [(n : Int)]) na ∧ StAt u q n x s ∧ ∀ H' v, Same H H' → DS H' s v → Q v H'
theorem sc_Unfolding_statement_of : FnScope ["self", "name"] ["self", "name"] (defScope s_Unfolding_statement_of) := ⟨rfl, rfl, rfl, by decide +kernel, rfl, by decide +kernel, by decide +kernel⟩
theorem ok_statement_of (T : Txt w K mg) : C8.Met P w K mg base 1 (ad K "Unfolding") "statement_of" (spStatementOf (K := K)) [] := by
  refine T.f_Unfolding_statement_of.met T.c_Unfolding sc_Unfolding_statement_of (fun vs H Q E h => by obtain ⟨_, _, _, _, _, _, _, rfl, _⟩ := h; rfl) fun f cdv AR outer s H vs Q E hr h => ?_
  obtain ⟨A, u, q, n, na, x, st, rfl, hU, hn, hs, k⟩ := h
  refine ⟨_, (pss_one (ps_ret (pe_ix (kix_tup K rfl) (kfld K rfl (pe_dget (hu_of hr) (kfld K rfl (pv 0) rfl) (pe_slice sl_initN (pv 1) po_none (po_some (pe_un un_neg pe_int))) (fun _ _ => rfl)) rfl) (pe_ix (kix_tup K rfl) (pv 1) (pe_un un_neg pe_int) (fun _ _ => rfl)) (fun _ _ => rfl)))), ?_⟩
  refine ⟨_, rfl, _, _, _, _, _, rfl, hU.ins, T.c_Unfolding, T.n_Unfolding_blocks, rfl, _, rfl, 1, rfl, _, rfl, na, q, n, rfl, rfl, rfl, hn, fun H1 r s1 n1 => ?_⟩
  have U1 := hU.same s1
  obtain ⟨kvs, hb, al⟩ := U1.bl
  obtain ⟨v, hv, rb⟩ := al.look kn_inj q hs.bl
  refine ⟨_, v, rfl, dget_t hb n1 hv, ?_⟩
  obtain ⟨b, bx, sa, e, vh, va, rfl, hb1, ⟨ws, hs1, ds1⟩, _⟩ := rb
  obtain ⟨sv, hsv, dsv⟩ := ds1.at hs.st
  obtain ⟨xs, hx, lx⟩ := nm_last (hn.mono (Tk.same s1))
  refine ⟨_, _, _, _, _, rfl, hb1, T.c_Block, T.n_Block_statements, rfl, _, rfl, 1, rfl, _, _, _, _, rfl, rfl, SqT.of hx, lx, _, _, _, _, rfl, rfl, SqT.of hs1, atI_nat hsv, k _ _ s1 dsv⟩
def spEnvOf : Sp := fun vs H Q _ => ∃ (A : AA) (u : US) (q : Nm) (n : Int) (na : Addr) (x : BI), vs = [.ref A.u, .ref na] ∧ UT K A H u ∧ NM H (q ++ [n]) na ∧ alook u.blocks q = some x ∧ ∀ H' e, Same H H' → ST H' x.env e → e ∉ A.mut → Q (.ref e) H'
theorem sc_Unfolding_env_of : FnScope ["self", "name"] ["self", "name"] (defScope s_Unfolding_env_of) := ⟨rfl, rfl, rfl, by decide +kernel, rfl, by decide +kernel, by decide +kernel⟩
theorem ok_env_of (T : Txt w K mg) : C8.Met P w K mg base 1 (ad K "Unfolding") "env_of" (spEnvOf (K := K)) [] := by
  refine T.f_Unfolding_env_of.met T.c_Unfolding sc_Unfolding_env_of (fun vs H Q E h => by obtain ⟨_, _, _, _, _, _, rfl, _⟩ := h; rfl) fun f cdv AR outer s H vs Q E hr h => ?_
  obtain ⟨A, u, q, n, na, x, rfl, hU, hn, hs, k⟩ := h
  refine ⟨_, (pss_one (ps_ret (kfld K rfl (pe_dget (hu_of hr) (kfld K rfl (pv 0) rfl) (pe_slice sl_initN (pv 1) po_none (po_some (pe_un un_neg pe_int))) (fun _ _ => rfl)) rfl))), ?_⟩
  refine ⟨_, rfl, _, _, _, _, _, rfl, hU.ins, T.c_Unfolding, T.n_Unfolding_blocks, rfl, _, rfl, 1, rfl, _, rfl, na, q, n, rfl, rfl, rfl, hn, fun H1 r s1 n1 => ?_⟩
  have U1 := hU.same s1
  obtain ⟨kvs, hb, al⟩ := U1.bl
  obtain ⟨v, hv, rb⟩ := al.look kn_inj q hs
  refine ⟨_, v, rfl, dget_t hb n1 hv, ?_⟩
  obtain ⟨b, bx, sa, e, vh, va, rfl, hb1, _, ne, he, _⟩ := rb
  exact ⟨_, _, _, _, _, rfl, hb1, T.c_Block, T.n_Block_env, rfl, k _ _ s1 he ne⟩
end
end K11
set_option Elab.async false
set_option linter.all false
set_option maxRecDepth 100000
set_option maxHeartbeats 4000000
namespace K11
open PySem PySem.Spec PyProof.Rows L2
theorem hu4 {k : Nat} {A : Around} (r : Room k A) : A.units + 4 < cLine := by have := r.un; omega
theorem hu8 {k : Nat} {A : Around} (r : Room k A) : A.units + 8 < cLine := by have := r.un; omega
theorem hu16 {k : Nat} {A : Around} (r : Room k A) : A.units + 16 < cLine := by have := r.un; omega
theorem hu65 {k : Nat} {A : Around} (r : Room k A) : A.units + 65 < cLine := by have := r.un; omega
/-! ### (kind, second) == (text, text) -/
section
variable {X : Cx}
def rEq2 : R2 := fun x y H Q => ∃ (a b : Addr) (k c d : Str) (z : V), x = .ref a ∧ y = .ref b ∧ H a = some (.tup [.str k, z]) ∧ H b = some (.tup [.str c, .str d]) ∧
  ((∃ zs, z = .str zs ∧ Q (.bl (decide (k = c) && decide (zs = d))) H) ∨ (∃ t xs, z = .ref t ∧ H t = some (.tup xs) ∧ Q (.bl false) H))
theorem str_beq_dec (a b : Str) : (a == b) = decide (a = b) := by
  by_cases e : a = b
  · subst e; simp
  · rw [decide_eq_false e]; exact beq_eq_false_iff_ne.mpr e
theorem op_eq2 (hu : X.A.units + 4 < cLine) : OpR X (compareOp .Eq) rEq2 := by
  intro pins s σ H x y v u Q I rx ry h
  obtain ⟨a, b, k, c, d, z, rfl, rfl, ha, hb, h⟩ := h
  cases rx
  cases ry
  obtain ⟨ia, ra, pa, _⟩ := I.tuple (SqT.of ha)
  obtain ⟨ib, rb, pb, _⟩ := I.tuple (SqT.of hb)
  obtain ⟨u1, u2, rfl, r1, r2⟩ := vals2 ra
  obtain ⟨w1, w2, rfl, q1, q2⟩ := vals2 rb
  obtain ⟨t1, rfl⟩ := r1
  obtain ⟨t2, rfl⟩ := q1
  obtain ⟨t3, rfl⟩ := q2
  rcases h with ⟨zs, rfl, hq⟩ | ⟨t, xs, rfl, ht, hq⟩
  · obtain ⟨t4, rfl⟩ := r2
    refine SeqAt.eq_tupleAt (e := fun j => if j = 0 then k == c else zs == d) pa pb (by omega) (fun j h1 h2 => ?_) ?_
    · have hj : j < 2 := h1
      rcases (show j = 0 ∨ j = 1 by omega) with rfl | rfl
      · exact SeqAt.EqAt.str_str k t1 c t2
      · exact SeqAt.EqAt.str_str zs t4 d t3
    · refine ⟨.bl _, H, I, rfl, ?_⟩
      have e : ((List.range (min 2 2)).all (fun j => if j = 0 then k == c else zs == d) && (2 : Nat) == 2) = (decide (k = c) && decide (zs = d)) := by
        rw [← str_beq_dec, ← str_beq_dec]
        show ((k == c) && ((zs == d) && true) && true) = _
        simp
      show Q (.bl ((List.range (min 2 2)).all (fun j => if j = 0 then k == c else zs == d) && (2 : Nat) == 2)) H
      rw [e]
      exact hq
  · cases r2
    obtain ⟨it, rt, pt, _⟩ := I.tuple (SqT.of ht)
    refine SeqAt.eq_tupleAt (e := fun j => if j = 0 then k == c else false) pa pb (by omega) (fun j h1 h2 => ?_) ?_
    · have hj : j < 2 := h1
      rcases (show j = 0 ∨ j = 1 by omega) with rfl | rfl
      · exact SeqAt.EqAt.str_str k t1 c t2
      · exact SeqAt.EqAt.tuple_str d t3 pt (by simp; omega)
    · refine ⟨.bl _, H, I, rfl, ?_⟩
      have e : ((List.range (min 2 2)).all (fun j => if j = 0 then k == c else false) && (2 : Nat) == 2) = false := by
        show ((k == c) && (false && true) && true) = _
        simp
      show Q (.bl ((List.range (min 2 2)).all (fun j => if j = 0 then k == c else false) && (2 : Nat) == 2)) H
      rw [e]
      exact hq
end
/-- t[:2] -/
def rTwo : V → Option Int → Option Int → Hp → VK → Prop := fun x lo hi H Q => ∃ a y z r, x = .ref a ∧ lo = none ∧ hi = some 2 ∧ H a = some (.tup (y :: z :: r)) ∧ ∀ H' p, Same H H' → H' p = some (.tup [y, z]) → Q (.ref p) H'
theorem sl_two {X : Cx} : SlR X rTwo := by
  intro pins s σ H x v vl vu lo hi sl Q I rx hs pl pu h
  obtain ⟨a, y, z, r, rfl, rfl, rfl, ha, k⟩ := h
  have e2 : HT.sIx (y :: z :: r).length (y :: z :: r).length (some 2) = 2 := by
    have g : ∀ n : Nat, HT.sIx n n (some ((2 : Nat) : Int)) = min 2 n := fun n => HT.sIx_nat n n 2
    have g' := g (y :: z :: r).length
    rw [show (2 : Int) = ((2 : Nat) : Int) from rfl, g', List.length_cons, List.length_cons]
    omega
  refine sl_tupA pins s σ H _ v vl vu none (some 2) sl Q I rx hs pl pu ⟨a, _, rfl, SqT.of ha, fun w => ?_, fun _ p hp => k _ p (same_new hp _) ?_⟩
  · have w2 := w.2
    rw [e2, List.length_cons, List.length_cons] at w2
    have : r = [] := List.length_eq_zero_iff.mp (by omega)
    subst this
    exact k H a (Same.refl H) ha
  · rw [upd_same]
    unfold cutV
    rw [e2, HT.sIx_none, List.drop_zero]
    rfl
/-- the second part of a statement: a text or a tuple -/
theorem DS.two {H : Hp} : ∀ {s : Stm} {v : V}, DS H s v → ∃ a z r, v = .ref a ∧ H a = some (.tup (.str s.kd :: z :: r)) ∧ ((∃ t b, s = .start t b ∧ z = .str t) ∨ ((∀ t b, s ≠ .start t b) ∧ ((∃ y, z = .str y) ∨ ∃ b xs, z = .ref b ∧ H b = some (.tup xs))))
  | .set _ _, _, ⟨a, _, e, h, _⟩ => ⟨a, _, _, e, h, .inr ⟨(fun _ _ z => by cases z), .inl ⟨_, rfl⟩⟩⟩
  | .add _ _ _, _, ⟨a, _, e, h, _⟩ => ⟨a, _, _, e, h, .inr ⟨(fun _ _ z => by cases z), .inl ⟨_, rfl⟩⟩⟩
  | .cond _ _ _, _, ⟨a, _, _, _, _, _, e, h, de, _⟩ => by
    obtain ⟨b, r, rfl, hb, _⟩ := de.hd
    exact ⟨a, _, _, e, h, .inr ⟨(fun _ _ z => by cases z), .inr ⟨b, _, rfl, hb⟩⟩⟩
  | .fork _, _, ⟨a, b, xs, e, h, hb, _⟩ => ⟨a, _, _, e, h, .inr ⟨(fun _ _ z => by cases z), .inr ⟨b, _, rfl, hb⟩⟩⟩
  | .each _ _ _, _, ⟨a, _, _, _, e, h, _⟩ => ⟨a, _, _, e, h, .inr ⟨(fun _ _ z => by cases z), .inl ⟨_, rfl⟩⟩⟩
  | .fold _ _ _ _ _, _, ⟨a, _, _, e, h, _⟩ => ⟨a, _, _, e, h, .inr ⟨(fun _ _ z => by cases z), .inl ⟨_, rfl⟩⟩⟩
  | .start _ _, _, ⟨a, _, _, e, h, _⟩ => ⟨a, _, _, e, h, .inl ⟨_, _, rfl, rfl⟩⟩
  | .wait _, _, ⟨a, e, h⟩ => ⟨a, _, _, e, h, .inr ⟨(fun _ _ z => by cases z), .inl ⟨_, rfl⟩⟩⟩
/-! ### last names, starts, what lies ahead: relations over a state -/
def Stm.jn : Stm → Bool
  | .fork _ => true
  | .each _ _ _ => true
  | .fold _ _ _ _ _ => true
  | _ => false
def Stm.isIf : Stm → Bool
  | .cond _ _ _ => true
  | _ => false
mutual
inductive LastOf (u : US) : Nat → Nm → Nm → Prop
  | jn {d : Nat} {q : Nm} {k : Nat} {x : BI} {s : Stm} : StAt u q k x s → s.jn = true → LastOf u d (q ++ [(k : Int)]) (q ++ [(k : Int)] ++ [-1])
  | self {d : Nat} {q : Nm} {k : Nat} {x : BI} {s : Stm} : StAt u q k x s → s.jn = false → s.isIf = false → LastOf u d (q ++ [(k : Int)]) (q ++ [(k : Int)])
  | cond {d : Nat} {q m : Nm} {k : Nat} {x : BI} {e : Exp} {a b : List Stm} {v : Int} : StAt u q k x (.cond e a b) → alook u.done (q ++ [(k : Int)]) = some v → LastIn u d (q ++ [(k : Int)] ++ [if v ≠ 0 then 0 else 1]) (q ++ [(k : Int)]) m →
      LastOf u (d + 1) (q ++ [(k : Int)]) m
inductive LastIn (u : US) : Nat → Nm → Nm → Nm → Prop
  | nil {d : Nat} {q o : Nm} {x : BI} : alook u.blocks q = some x → x.stms = [] → LastIn u d q o o
  | cons {d n : Nat} {q o m : Nm} {x : BI} : alook u.blocks q = some x → x.stms.length = n + 1 → LastOf u d (q ++ [(n : Int)]) m → LastIn u d q o m
end
inductive Meant (u : US) (t : Str) : Nat → Nm → Nat → Nm → Prop
  | here {h : Nat} {q : Nm} {k i : Nat} {x : BI} {b : List Stm} : q.length ≤ 100 → k ≤ 1000 → alook u.blocks q = some x → k ≤ x.stms.length → i < k → x.stms[i]? = some (.start t b) → (∀ j, i < j → j < k → ∀ b', x.stms[j]? ≠ some (.start t b')) → Meant u t h q k (q ++ [(i : Int)])
  | up {h : Nat} {q q' m : Nm} {k k' : Nat} {x : BI} : k ≤ 1000 → alook u.blocks q = some x → k ≤ x.stms.length → (∀ j, j < k → ∀ b', x.stms[j]? ≠ some (.start t b')) → x.arnd = some (q', (k' : Int)) → Meant u t h q' k' m → Meant u t (h + 1) q k m
theorem kd_jn (s : Stm) : inV (.str s.kd) [V.str "fork", V.str "each", V.str "fold"] = s.jn := by cases s <;> rfl
theorem kd_if (s : Stm) : decide (V.str s.kd = V.str "if") = s.isIf := by cases s <;> rfl
theorem LastOf.inv {u : US} {d : Nat} {nm m : Nm} (h : LastOf u d nm m) : ∃ q kk x s, nm = q ++ [((kk : Nat) : Int)] ∧ StAt u q kk x s ∧ ((s.jn = true ∧ m = nm ++ [-1]) ∨ (s.jn = false ∧ s.isIf = false ∧ m = nm) ∨
    (s.jn = false ∧ s.isIf = true ∧ ∃ d' v, d = d' + 1 ∧ alook u.done nm = some v ∧ LastIn u d' (nm ++ [if v ≠ 0 then 0 else 1]) nm m)) := by
  cases h with
  | jn h1 h2 => exact ⟨_, _, _, _, rfl, h1, .inl ⟨h2, rfl⟩⟩
  | self h1 h2 h3 => exact ⟨_, _, _, _, rfl, h1, .inr (.inl ⟨h2, h3, rfl⟩)⟩
  | cond h1 h2 h3 => exact ⟨_, _, _, _, rfl, h1, .inr (.inr ⟨rfl, rfl, _, _, rfl, h2, h3⟩)⟩
theorem Meant.inv {u : US} {t : Str} {h n : Nat} {q m : Nm} (hm : Meant u t h q n m) : n ≤ 1000 ∧ ∃ x, alook u.blocks q = some x ∧ n ≤ x.stms.length ∧
    ((∃ i b, q.length ≤ 100 ∧ i < n ∧ x.stms[i]? = some (.start t b) ∧ (∀ j, i < j → j < n → ∀ b', x.stms[j]? ≠ some (.start t b')) ∧ m = q ++ [((i : Nat) : Int)]) ∨
      ∃ h' q' k', h = h' + 1 ∧ (∀ j, j < n → ∀ b', x.stms[j]? ≠ some (.start t b')) ∧ x.arnd = some (q', ((k' : Nat) : Int)) ∧ Meant u t h' q' k' m) := by
  cases hm with
  | here h0 hk h1 h2 h3 h4 h5 => exact ⟨hk, _, h1, h2, .inl ⟨_, _, h0, h3, h4, h5, rfl⟩⟩
  | up hk h1 h2 h3 h4 h5 => exact ⟨hk, _, h1, h2, .inr ⟨_, _, _, rfl, h3, h4, h5⟩⟩
/-- is it start t? -/
def isSt (t : Str) : Stm → Bool
  | .start t' _ => decide (t' = t)
  | _ => false
theorem isSt_iff {t : Str} {s : Stm} : isSt t s = true ↔ ∃ b, s = .start t b := by
  cases s with
  | start t' b =>
    show decide (t' = t) = true ↔ _
    rw [decide_eq_true_eq]
    exact ⟨fun e => ⟨b, by rw [e]⟩, fun ⟨_, e⟩ => by injection e⟩
  | _ => exact ⟨fun z => (by cases z), fun ⟨_, e⟩ => (by cases e)⟩
theorem kd_start (s : Stm) (h : ∀ t b, s ≠ .start t b) : decide (s.kd = "start") = false := by
  cases s with
  | start t b => exact absurd rfl (h t b)
  | _ => rfl
end K11
set_option Elab.async false
set_option linter.all false
set_option maxRecDepth 100000
set_option maxHeartbeats 4000000
namespace K11
open PySem PySem.Spec PyProof.Rows L2
section
variable {P : Program} {w : World} {K : PySem.W.Frag} {mg : Str → Option Value} {base : Heap}
def spLastOf (n : Nat) : Sp := fun vs H Q _ => ∃ (A : AA) (u : US) (d : Nat) (nm m : Nm) (na : Addr), vs = [.ref A.u, .ref na] ∧ UT K A H u ∧ NM H nm na ∧ nm.length + 2 * n ≤ 100 ∧ LastOf u d nm m ∧ d < n ∧ ∀ H' a, Same H H' → NM H' m a → Q (.ref a) H'
def spLastIn (n : Nat) : Sp := fun vs H Q _ => ∃ (A : AA) (u : US) (d : Nat) (q o m : Nm) (qa oa : Addr), vs = [.ref A.u, .ref qa, .ref oa] ∧ UT K A H u ∧ NM H q qa ∧ NM H o oa ∧ q.length + 1 + 2 * n ≤ 100 ∧ LastIn u d q o m ∧ d < n ∧ ∀ H' a, Same H H' → NM H' m a → Q (.ref a) H'
theorem sc_Unfolding_last_of : FnScope ["self", "name", "kind"] ["self", "name"] (defScope s_Unfolding_last_of) := ⟨rfl, rfl, rfl, by decide +kernel, rfl, by decide +kernel, by decide +kernel⟩
theorem last_of_1 {k n : Nat} (T : Txt w K mg) (hk : 1 ≤ k) (C_statement_of : C8.Met P w K mg base 1 (ad K "Unfolding") "statement_of" (spStatementOf (K := K)) []) (C_last_in : C8.Met P w K mg base k (ad K "Unfolding") "last_in" (spLastIn (K := K) n) []) :
    C8.Met P w K mg base (k + 1) (ad K "Unfolding") "last_of" (spLastOf (K := K) (n + 1)) [] := by
  refine T.f_Unfolding_last_of.met T.c_Unfolding sc_Unfolding_last_of (fun vs H Q E h => by obtain ⟨_, _, _, _, _, _, rfl, _⟩ := h; rfl) fun f cdv AR outer s H vs Q E hr h => ?_
  obtain ⟨A, u, d, nm, m, na, rfl, hU, hn, hl, lo, hd, k0⟩ := h
  refine ⟨_, (pss_cons (ps_set (i := 2) sc_Unfolding_last_of.nd rfl (Or.inl rfl) (pe_ix (kix_tup K rfl) (C8.pe_mt C_statement_of hr (by omega) (pv 0) (pa_cons (pv 1) pa_nil)) pe_int (fun _ _ => rfl))) 
    (pss_cons (ps_if (pt_cmpR (kin_seq K rfl) (pv 2) (pe_tup (pa_cons pe_str (pa_cons pe_str (pa_cons pe_str pa_nil)))) (by rfl)) (pss_one (ps_ret (pe_op op_catN (pv 1) (pe_tup (pa_cons (pe_un un_neg pe_int) pa_nil))))) pss_nil) 
    (pss_cons (ps_if (pt_cmpR op_ne (pv 2) pe_str (nomark _)) (pss_one (ps_ret (pv 1))) pss_nil) 
    (pss_cons (ps_if (pt_cmp (pc_dnotin (hu_of hr) (pv 1) (kfld K rfl (pv 0) rfl)) rfl) (pss_one (ps_ret pe_non)) pss_nil) 
    (pss_one (ps_ret (C8.pe_mt C_last_in hr (by omega) (pv 0) (pa_cons (pe_op op_catN (pv 1) (pe_tup (pa_cons (pe_ifExp (pt_cmpR op_ne (pe_dget (hu_of hr) (kfld K rfl (pv 0) rfl) (pv 1) (fun _ _ => rfl)) pe_int (nomark _)) pe_int pe_int) pa_nil))) (pa_cons (pv 1) pa_nil))))))))), ?_⟩
  obtain ⟨q, kk, x, st, enm, hst, cs⟩ := lo.inv
  refine ⟨_, rfl, _, _, _, rfl, hU.ins, rfl, _, rfl, A, u, q, kk, na, x, st, rfl, hU, by rw [← enm]; exact hn, hst, fun H1 v s1 dv => ?_⟩
  obtain ⟨a, r, rfl, ha, _⟩ := dv.hd
  refine ⟨_, _, _, _, rfl, rfl, SqT.of ha, at0, ?_⟩
  refine ⟨_, rfl, le_line (by show 3 ≤ 1000; decide), fun p0 hp0 => ?_⟩
  have s12 := s1.trans (same_new hp0 (.tup [V.str "fork", V.str "each", V.str "fold"]))
  refine ⟨p0, _, rfl, .inr (SqT.of upd_same), rfl, rfl, _, rfl, ?_⟩
  have U2 := hU.same s12
  have hn2 := hn.mono (Tk.same s12)
  generalize upd H1 p0 (.tup [V.str "fork", V.str "each", V.str "fold"]) = H2 at s12 U2 hn2
  show if inV (.str st.kd) [V.str "fork", V.str "each", V.str "fold"] = true then _ else _
  rw [kd_jn]
  rcases cs with ⟨hj, rfl⟩ | ⟨hj, hi, rfl⟩ | ⟨hj, hi, d', v, rfl, hv, hin⟩
  · rw [hj]
    refine iteT ⟨_, rfl, _, rfl, le_line (by show 1 ≤ 1000; decide), fun p hp => ?_⟩
    have s3 := same_new hp (.tup [V.int (-1)])
    exact ⟨nm, [-1], na, p, rfl, rfl, s3 _ _ hn2, upd_same, by simp, by simp; omega, fun H' r s4 n4 => k0 H' r (s12.trans (s3.trans s4)) n4⟩
  · rw [hj]
    refine iteF ⟨_, rfl, rfl, _, rfl, ?_⟩
    show if (!decide (V.str st.kd = V.str "if")) = true then _ else _
    rw [kd_if, hi]
    exact iteT ⟨_, rfl, k0 _ na s12 hn2⟩
  · rw [hj]
    refine iteF ⟨_, rfl, rfl, _, rfl, ?_⟩
    show if (!decide (V.str st.kd = V.str "if")) = true then _ else _
    rw [kd_if, hi]
    refine iteF ?_
    obtain ⟨kvs, hdn, al⟩ := U2.dn
    obtain ⟨vv, hvv, rfl⟩ := al.look kn_inj _ hv
    refine ⟨_, rfl, _, rfl, _, _, _, _, _, rfl, U2.ins, T.c_Unfolding, T.n_Unfolding_done, rfl, _, _, rfl, dget_t hdn hn2 hvv, _, rfl, iteF ?_⟩
    refine ⟨_, rfl, _, _, _, rfl, U2.ins, rfl, _, rfl, ?_⟩
    refine ⟨_, rfl, _, _, _, _, _, rfl, U2.ins, T.c_Unfolding, T.n_Unfolding_done, rfl, _, rfl, _, _, rfl, dget_t hdn hn2 hvv, rfl, _, rfl, ?_⟩
    have go : ∀ b : Int, b = (if v ≠ 0 then 0 else 1) → ∀ p, H2 p = none → rCatN (.ref na) (.ref p) (upd H2 p (.tup [V.int b])) fun x H3 => tVar 1 (L2.start ["self", "name", "kind"] [V.ref A.u, V.ref na]) H3 fun y H4 => (spLastIn (K := K) n) [V.ref A.u, x, y] H4 Q C8.E0 := by
      intro b hb p hp
      have s3 := same_new hp (.tup [V.int b])
      refine ⟨nm, [b], na, p, rfl, rfl, s3 _ _ hn2, upd_same, by simp, by simp; omega, fun H' r s4 n4 => ⟨_, rfl, ?_⟩⟩
      have s34 := s3.trans s4
      exact ⟨A, u, d', nm ++ [b], nm, m, r, na, rfl, U2.same s34, n4, s34 _ _ hn2, by rw [List.length_append]; show nm.length + 1 + 1 + 2 * n ≤ 100; omega, by rw [hb]; exact hin, by omega, fun H3 a s5 n5 => k0 H3 a (s12.trans (s34.trans s5)) n5⟩
    by_cases c : v = 0
    · refine iteN (by rw [c]) ⟨le_line (by show 1 ≤ 1000; decide), fun p hp => ?_⟩
      exact go 1 (by rw [if_neg (fun z => z c)]) p hp
    · refine iteNF (fun z => c (V.int.inj z)) ⟨le_line (by show 1 ≤ 1000; decide), fun p hp => ?_⟩
      exact go 0 (by rw [if_pos c]) p hp
theorem sc_Unfolding_last_in : FnScope ["self", "q", "otherwise", "many"] ["self", "q", "otherwise"] (defScope s_Unfolding_last_in) := ⟨rfl, rfl, rfl, by decide +kernel, rfl, by decide +kernel, by decide +kernel⟩
theorem last_in_1 {k n : Nat} (T : Txt w K mg) (C_last_of : C8.Met P w K mg base k (ad K "Unfolding") "last_of" (spLastOf (K := K) n) []) :
    C8.Met P w K mg base (k + 1) (ad K "Unfolding") "last_in" (spLastIn (K := K) n) [] := by
  refine T.f_Unfolding_last_in.met T.c_Unfolding sc_Unfolding_last_in (fun vs H Q E h => by obtain ⟨_, _, _, _, _, _, _, _, rfl, _⟩ := h; rfl) fun f cdv AR outer s H vs Q E hr h => ?_
  obtain ⟨A, u, d, q, o, m, qa, oa, rfl, hU, hq, ho, hl, li, hd, k0⟩ := h
  refine ⟨_, (pss_cons (ps_set (i := 3) sc_Unfolding_last_in.nd rfl (Or.inl rfl) (pe_callB (klen_seq K rfl) (by rfl) T.z_len (by decide +kernel) (pa_cons (kfld K rfl (pe_dget (hu_of hr) (kfld K rfl (pv 0) rfl) (pv 1) (fun _ _ => rfl)) rfl) pa_nil))) 
    (pss_one (ps_ret (pe_ifExp (pt_cmpR op_eq (pv 3) pe_int (nomark _)) (pv 2) (C8.pe_mt C_last_of hr (by omega) (pv 0) (pa_cons (pe_op op_catN (pv 1) (pe_tup (pa_cons (pe_op op_sub (pv 3) pe_int) pa_nil))) pa_nil)))))), ?_⟩
  have bx : ∃ x, alook u.blocks q = some x ∧ ((x.stms = [] ∧ m = o) ∨ ∃ j, x.stms.length = j + 1 ∧ LastOf u d (q ++ [(j : Int)]) m) := by
    cases li with
    | nil h1 h2 => exact ⟨_, h1, .inl ⟨h2, rfl⟩⟩
    | cons h1 h2 h3 => exact ⟨_, h1, .inr ⟨_, h2, h3⟩⟩
  obtain ⟨x, hx, cs⟩ := bx
  obtain ⟨kvs, hb, al⟩ := hU.bl
  obtain ⟨v, hv, rb⟩ := al.look kn_inj q hx
  obtain ⟨b, bx, sa, e, vh, va, rfl, hb1, ⟨ws, hs1, ds1⟩, _⟩ := rb
  have lw := ds1.length
  refine ⟨_, rfl, _, _, _, _, _, rfl, hU.ins, T.c_Unfolding, T.n_Unfolding_blocks, rfl, _, rfl, _, _, rfl, dget_t hb hq hv, _, _, _, _, _, rfl, hb1, T.c_Block, T.n_Block_statements, rfl, _, _, rfl, .inr (SqT.of hs1), ?_⟩
  refine ⟨_, rfl, rfl, _, rfl, ?_⟩
  rcases cs with ⟨h0, rfl⟩ | ⟨j, hj, lo⟩
  · refine iteD (by rw [lw, h0]; rfl) ⟨_, rfl, k0 H oa (Same.refl H) ho⟩
  · refine iteDF (fun z => ?_) ?_
    · have z' := V.int.inj z
      rw [lw, hj] at z'
      omega
    refine ⟨_, rfl, _, _, _, rfl, hU.ins, rfl, _, rfl, _, rfl, _, _, rfl, rfl, le_line (by show 1 ≤ 1000; decide), fun p hp => ?_⟩
    have ej : ((ws.length : Int) - 1) = (j : Int) := by omega
    have s3 := same_new hp (.tup [V.int ((ws.length : Int) - 1)])
    refine ⟨q, [(ws.length : Int) - 1], qa, p, rfl, rfl, s3 _ _ hq, upd_same, by simp, by simp; omega, fun H' r s4 n4 => ?_⟩
    have s34 := s3.trans s4
    exact ⟨A, u, d, q ++ [(ws.length : Int) - 1], m, r, rfl, hU.same s34, n4, by rw [List.length_append]; show q.length + 1 + 2 * n ≤ 100; omega, by rw [ej]; exact lo, hd, fun H3 a s5 n5 => k0 H3 a (s34.trans s5) n5⟩
theorem ok_last (T : Txt w K mg) (C_statement_of : C8.Met P w K mg base 1 (ad K "Unfolding") "statement_of" (spStatementOf (K := K)) []) :
    ∀ n : Nat, C8.Met P w K mg base (2 * n + 1) (ad K "Unfolding") "last_of" (spLastOf (K := K) n) []
  | 0 => T.f_Unfolding_last_of.none T.c_Unfolding fun vs H Q E h => by
    obtain ⟨_, _, _, _, _, _, _, _, _, _, _, h, _⟩ := h
    omega
  | n + 1 => last_of_1 (k := 2 * n + 1 + 1) T (by omega) C_statement_of (last_in_1 (k := 2 * n + 1) T (ok_last T C_statement_of n))
def spMeant : Sp := fun vs H Q _ => ∃ (A : AA) (u : US) (q m : Nm) (n h : Nat) (na : Addr) (x : BI) (t : Str), vs = [.ref A.u, .ref na] ∧ UT K A H u ∧ NM H (q ++ [(n : Int)]) na ∧ StAt u q n x (.wait t) ∧ Meant u t h q n m ∧ ∀ H' a, Same H H' → NM H' m a → Q (.ref a) H'
theorem sc_Unfolding_meant_start : FnScope ["self", "name", "ticket", "q", "k", "block", "at"] ["self", "name"] (defScope s_Unfolding_meant_start) := ⟨rfl, rfl, rfl, by decide +kernel, rfl, by decide +kernel, by decide +kernel⟩
theorem ok_meant_start (T : Txt w K mg) (C_statement_of : C8.Met P w K mg base 1 (ad K "Unfolding") "statement_of" (spStatementOf (K := K)) []) : C8.Met P w K mg base 2 (ad K "Unfolding") "meant_start" (spMeant (K := K)) [] := by
  refine T.f_Unfolding_meant_start.met T.c_Unfolding sc_Unfolding_meant_start (fun vs H Q E h => by obtain ⟨_, _, _, _, _, _, _, _, _, rfl, _⟩ := h; rfl) fun f cdv AR outer s H vs Q E hr h => ?_
  obtain ⟨A, u, q, m, n, h, na, x, t, rfl, hU, hn, hst, hm, k0⟩ := h
  refine ⟨_, (pss_cons (ps_set (i := 2) sc_Unfolding_meant_start.nd rfl (Or.inl rfl) (pe_ix (kix_tup K rfl) (C8.pe_mt C_statement_of hr (by omega) (pv 0) (pa_cons (pv 1) pa_nil)) pe_int (fun _ _ => rfl))) 
    (pss_cons (ps_par (i := 3) (j := 4) (by rfl) sc_Unfolding_meant_start.nd rfl rfl (by decide) rfl rfl (pa_cons (pe_slice sl_initN (pv 1) po_none (po_some (pe_un un_neg pe_int))) (pa_cons (pe_ix (kix_tup K rfl) (pv 1) (pe_un un_neg pe_int) (fun _ _ => rfl)) pa_nil)) (by rfl)) 
    (pss_one (ps_while PassesOwn.never (pt_val pe_bl) 
      (pss_cons (ps_set (i := 5) sc_Unfolding_meant_start.nd rfl (Or.inl rfl) (pe_dget (hu_of hr) (kfld K rfl (pv 0) rfl) (pv 3) (fun _ _ => rfl))) 
      (pss_cons (ps_for PassesOwn.never rfl (pi_range3 rfl T.z_range (pa_cons (pe_op op_sub (pv 4) pe_int) (pa_cons (pe_un un_neg pe_int) (pa_cons (pe_un un_neg pe_int) pa_nil)))) (pg_name (i := 6) sc_Unfolding_meant_start.nd rfl (Or.inl rfl)) (pss_one (ps_if (pt_cmpR (op_eq2 (hu4 hr)) (pe_slice sl_two (pe_ix (kix_tup K rfl) (kfld K rfl (pv 5) rfl) (pv 6) (fun _ _ => rfl)) po_none (po_some pe_int)) (pe_tup (pa_cons pe_str (pa_cons (pv 2) pa_nil))) (by rfl)) (pss_one (ps_ret (pe_op op_catN (pv 3) (pe_tup (pa_cons (pv 6) pa_nil))))) pss_nil))) 
      (pss_one (ps_asg (kfld K rfl (pv 5) rfl) (kpg_tup (n := 2) K rfl rfl (pgs_cons (pg_name (i := 3) sc_Unfolding_meant_start.nd rfl (Or.inl rfl)) (pgs_cons (pg_name (i := 4) sc_Unfolding_meant_start.nd rfl (Or.inl rfl)) pgs_nil))))))))))), ?_⟩
  refine ⟨_, rfl, _, _, _, rfl, hU.ins, rfl, _, rfl, A, u, q, n, na, x, _, rfl, hU, hn, hst, fun H1 v s1 dv => ?_⟩
  obtain ⟨a, rfl, ha⟩ := dv
  refine ⟨_, _, _, _, rfl, rfl, SqT.of ha, at1, ?_⟩
  have hn1 := hn.mono (Tk.same s1)
  refine ⟨_, rfl, 1, rfl, _, rfl, na, q, n, rfl, rfl, rfl, hn1, fun H2 qa s2 hq2 => ?_⟩
  obtain ⟨xs, hx, lx⟩ := nm_last (hn1.mono (Tk.same s2))
  refine ⟨_, rfl, 1, rfl, _, _, _, _, rfl, rfl, SqT.of hx, lx, ?_⟩
  have s12 := s1.trans s2
  refine ⟨_, _, rfl, ?_⟩
  refine ⟨fun h σ H' => ∃ (q : Nm) (n : Nat) (qa : Addr) (c5 c6 : Option V), σ = [some (.ref A.u), some (.ref na), some (.str t), some (.ref qa), some (.int (n : Int)), c5, c6] ∧ NM H' q qa ∧ Same H H' ∧ Meant u t h q n m, ⟨h, q, n, qa, _, _, rfl, hq2, s12, hm⟩, ?_⟩
  clear hm hst hn hn1 hx lx ha hq2
  rintro h σ H3 ⟨q, n, qa, c5, c6, rfl, hq3, s3, hm⟩
  refine ⟨_, rfl, iteT ?_⟩
  refine ⟨fun σ H' => ∃ h', h' < h ∧ ∃ (q : Nm) (n : Nat) (qa : Addr) (c5 c6 : Option V), σ = [some (.ref A.u), some (.ref na), some (.str t), some (.ref qa), some (.int (n : Int)), c5, c6] ∧ NM H' q qa ∧ Same H H' ∧ Meant u t h' q n m, fun σ' H' z => z, ?_⟩
  have U3 := hU.same s3
  obtain ⟨hn1000, x, hbx, hnx, hcs⟩ := hm.inv
  obtain ⟨kvs, hb, al⟩ := U3.bl
  obtain ⟨v, hv, rb⟩ := al.look kn_inj q hbx
  refine ⟨_, rfl, _, _, _, _, _, rfl, U3.ins, T.c_Unfolding, T.n_Unfolding_blocks, rfl, _, rfl, _, _, rfl, dget_t hb hq3 hv, ?_⟩
  obtain ⟨b, bx, sa, e, vh, va, rfl, hb1, ⟨ws, hs1, ds1⟩, _, _, _, hoa⟩ := rb
  have lw := ds1.length
  refine ⟨_, rfl, _, _, rfl, rfl, _, rfl, _, rfl, _, _, _, _, rfl, RgC.neg (by omega) (by omega) (by omega) (by omega), ?_⟩
  have en : ((n : Int) - 1 - -1).toNat = n := by omega
  rw [en]
  -- the test at one statement
  have test : ∀ (i : Nat) (H4 : Hp) (st : Stm) (D1 D2 : Hp → Prop) (c6 : Option V), Same H3 H4 → x.stms[n - 1 - i]? = some st → i < n → (isSt t st = true → ∀ H5, Same H4 H5 → D1 H5) → (isSt t st = false → ∀ H5, Same H4 H5 → D2 H5) →
      ∃ (p : Addr) (xs : List V) (i2 : Int) (z : V), True := fun _ _ _ _ _ _ _ _ _ _ _ => ⟨0, [], 0, .non, trivial⟩
  refine for_rangeC (lo := (n : Int) - 1) (c := -1) (n := n) (fun i σ H' => (∃ c6, σ = [some (.ref A.u), some (.ref na), some (.str t), some (.ref qa), some (.int (n : Int)), some (.ref b), c6]) ∧ Same H3 H' ∧ ∀ j, n - i ≤ j → j < n → ∀ b', x.stms[j]? ≠ some (.start t b'))
    ⟨⟨_, rfl⟩, Same.refl _, fun j h1 h2 => by omega⟩ (fun i σ H4 hi hp => ?_) fun σ H4 hp => ?_
  · obtain ⟨⟨c6, rfl⟩, s4, hno⟩ := hp
    have s34 := s3.trans s4
    have hlt : n - 1 - i < x.stms.length := by omega
    obtain ⟨st, hst⟩ : ∃ st, x.stms[n - 1 - i]? = some st := ⟨_, List.getElem?_eq_getElem hlt⟩
    obtain ⟨sv, hsv, dsv⟩ := (ds1.mono (Tk.same s4)).at hst
    have ei : ((n : Int) - 1 + (i : Nat) * -1) = ((n - 1 - i : Nat) : Int) := by omega
    obtain ⟨a2, z2, r2, rfl, ha2, hz2⟩ := dsv.two
    have hb4 := s4 _ _ hb1
    refine ⟨_, rfl, _, _, _, _, _, rfl, hb4, T.c_Block, T.n_Block_statements, rfl, _, rfl, _, _, _, _, rfl, rfl, SqT.of (s4 _ _ hs1), by rw [ei]; exact atI_nat hsv, 2, rfl, ?_⟩
    refine ⟨a2, _, _, _, rfl, rfl, rfl, ha2, fun H5 p5 s5 hp5 => ⟨_, rfl, le_line (by show 2 ≤ 1000; decide), fun p6 hp6 => ?_⟩⟩
    have s6 := same_new hp6 (.tup [V.str "start", V.str t])
    refine ⟨p5, p6, st.kd, "start", t, z2, rfl, rfl, s6 _ _ hp5, upd_same, ?_⟩
    have s46 := s5.trans s6
    -- what follows a no
    have no : isSt t st = false → ∀ j, n - (i + 1) ≤ j → j < n → ∀ b', x.stms[j]? ≠ some (.start t b') := by
      intro e j h1 h2 b' hj
      by_cases ej : j = n - 1 - i
      · subst ej
        rw [hst] at hj
        cases hj
        have : isSt t (.start t b') = true := isSt_iff.mpr ⟨b', rfl⟩
        rw [this] at e
        cases e
      · exact hno j (by omega) h2 b' hj
    have yes : isSt t st = true → m = q ++ [((n - 1 - i : Nat) : Int)] ∧ q.length ≤ 100 := by
      intro e
      obtain ⟨b0, e0⟩ := isSt_iff.mp e
      rcases hcs with ⟨i0, b1, lq, h1, h2, h3, h4⟩ | ⟨h', q', k', h1, h2, h3, h4⟩
      · have : i0 = n - 1 - i := by
          by_cases c1 : i0 < n - 1 - i
          · exact absurd (by rw [hst, e0]) (h3 (n - 1 - i) c1 (by omega) b0)
          · by_cases c2 : n - 1 - i < i0
            · exact absurd h2 (hno i0 (by omega) h1 b1)
            · omega
        subst this
        exact ⟨h4, lq⟩
      · exact absurd (by rw [hst, e0]) (h2 (n - 1 - i) (by omega) b0)
    rcases hz2 with ⟨t2, b2, rfl, rfl⟩ | ⟨hne, hz⟩
    · refine .inl ⟨t2, rfl, _, rfl, ?_⟩
      show if (decide (("start" : Str) = "start") && decide (t2 = t)) = true then _ else _
      rw [decide_eq_true rfl, Bool.true_and]
      by_cases c : t2 = t
      · rw [decide_eq_true c]
        obtain ⟨em, lq⟩ := yes (by show decide (t2 = t) = true; exact decide_eq_true c)
        refine iteT ⟨_, rfl, _, rfl, le_line (by show 1 ≤ 1000; decide), fun p7 hp7 => ?_⟩
        have s7 := same_new hp7 (.tup [V.int ((n : Int) - 1 + (i : Nat) * -1)])
        refine ⟨q, [(n : Int) - 1 + (i : Nat) * -1], qa, p7, rfl, rfl, s7 _ _ (s6 _ _ (s5 _ _ (s4 _ _ hq3))), upd_same, by simp, by simp; omega, fun H8 r8 s8 n8 => k0 H8 r8 (s34.trans (s46.trans (s7.trans s8))) (by rw [em, ← ei]; exact n8)⟩
      · rw [decide_eq_false c]
        exact iteF ⟨⟨_, rfl⟩, s4.trans s46, no (by show decide (t2 = t) = false; exact decide_eq_false c)⟩
    · have e0 : isSt t st = false := by
        cases e : isSt t st with
        | false => rfl
        | true =>
          obtain ⟨b0, e1⟩ := isSt_iff.mp e
          exact absurd e1 (hne t b0)
      rcases hz with ⟨y, rfl⟩ | ⟨b2, xs2, rfl, hb2⟩
      · refine .inl ⟨y, rfl, _, rfl, ?_⟩
        show if (decide (st.kd = "start") && decide (y = t)) = true then _ else _
        rw [kd_start st hne, Bool.false_and]
        exact iteF ⟨⟨_, rfl⟩, s4.trans s46, no e0⟩
      · exact .inr ⟨b2, xs2, rfl, s6 _ _ (s5 _ _ hb2), _, rfl, iteF ⟨⟨_, rfl⟩, s4.trans s46, no e0⟩⟩
  · obtain ⟨⟨c6, rfl⟩, s4, hno⟩ := hp
    rcases hcs with ⟨i0, b1, lq, h1, h2, h3, h4⟩ | ⟨h', q', k', rfl, h2, h3, h4⟩
    · exact absurd h2 (hno i0 (by omega) h1 b1)
    have hb4 := s4 _ _ hb1
    have hoa4 := hoa.mono (Tk.same s4)
    rw [h3] at hoa4
    obtain ⟨tt, qa', rfl, htt, hq'⟩ := hoa4
    refine ⟨_, rfl, _, _, _, _, _, rfl, hb4, T.c_Block, T.n_Block_around, rfl, tt, _, rfl, SqT.of htt, rfl, _, _, rfl, _, _, rfl, rfl, h', Nat.lt_succ_self _, q', k', qa', _, _, rfl, hq', s3.trans s4, h4⟩
end
end K11
set_option Elab.async false
set_option linter.all false
set_option maxRecDepth 100000
set_option maxHeartbeats 4000000
namespace K11
open PySem PySem.Spec PyProof.Rows L2
def pfn (n : Nm) (lo hi : Nat) : Nm := if hi = lo + 1 then n ++ [(lo : Int)] else n ++ [(lo : Int), (hi : Int)]
/-- ahead of a statement in its block -/
def PrevOf (u : US) (D : Nat) (q : Nm) (x : BI) : Nat → List Nm → Prop
  | 0, ps => ps = x.hang.toList
  | k + 1, ps => ∃ d m, d < D ∧ LastOf u d (q ++ [(k : Int)]) m ∧ ps = [m]
def WaitOf (u : US) (D : Nat) (q : Nm) (k : Nat) : Stm → List Nm → Prop
  | .wait t, ps => ∃ h d m e, Meant u t h q k m ∧ (∃ v, alook u.done m = some v) ∧ m.length + 2 + 2 * D ≤ 100 ∧ d < D ∧ LastIn u d (m ++ [0]) m e ∧ ps = [e]
  | _, ps => ps = []
inductive Gap (u : US) (D : Nat) : Nm → List Nm → Prop
  | stm {q : Nm} {k : Nat} {x : BI} {s : Stm} {ps es : List Nm} : alook u.known (q ++ [(k : Int)]) = some ⟨s.kd, q ++ [(k : Int)], []⟩ → StAt u q k x s → PrevOf u D q x k ps → WaitOf u D q k s es → Gap u D (q ++ [(k : Int)]) (ps ++ es)
  | join {n f : Nm} {m v : Nat} {w : Int} {xs : List Nm} : alook u.known n = some ⟨"join", f, []⟩ → alook u.done f = some w → alook u.times f = some (m + 1) → m ≤ 10 → xs.length = m + 1 → (∀ (b : Nat) (y : Nm), xs[b]? = some y → ∃ d, d < D ∧ LastIn u d (f ++ [(b : Int)]) f y) → Gap u D n xs
  | join0 {n f : Nm} {w : Int} : alook u.known n = some ⟨"join", f, []⟩ → alook u.done f = some w → alook u.times f = some 0 → Gap u D n [f]
  | leaf {n f : Nm} {i : Nat} : alook u.known n = some ⟨"leaf", f, [(i : Int)]⟩ → Gap u D n [f]
  | pair {n f : Nm} {lo hi : Nat} : alook u.known n = some ⟨"pair", f, [(lo : Int), (hi : Int)]⟩ → lo + 1 < hi → hi ≤ 10 → Gap u D n [pfn f lo ((lo + hi) / 2), pfn f ((lo + hi) / 2) hi]
  | keep {n f : Nm} {m : Nat} : alook u.known n = some ⟨"keep", f, []⟩ → alook u.times f = some m → m ≤ 10 → Gap u D n [if m = 0 then f else pfn f 0 m]
section
variable {P : Program} {w : World} {K : PySem.W.Frag} {mg : Str → Option Value} {base : Heap}
def spPartOf : Sp := fun vs H Q _ => ∃ (A : AA) (u : US) (n : Nm) (lo hi : Nat) (na : Addr), vs = [.ref A.u, .ref na, .int (lo : Int), .int (hi : Int)] ∧ NM H n na ∧ n.length ≤ 100 ∧ ∀ H' a, Same H H' → NM H' (pfn n lo hi) a → Q (.ref a) H'
theorem sc_Unfolding_part_of_fold : FnScope ["self", "name", "low", "high"] ["self", "name", "low", "high"] (defScope s_Unfolding_part_of_fold) := ⟨rfl, rfl, rfl, by decide +kernel, rfl, by decide +kernel, by decide +kernel⟩
theorem ok_part_of_fold (T : Txt w K mg) : C8.Met P w K mg base 1 (ad K "Unfolding") "part_of_fold" spPartOf [] := by
  refine T.f_Unfolding_part_of_fold.met T.c_Unfolding sc_Unfolding_part_of_fold (fun vs H Q E h => by obtain ⟨_, _, _, _, _, _, rfl, _⟩ := h; rfl) fun f cdv AR outer s H vs Q E hr h => ?_
  obtain ⟨A, u, n, lo, hi, na, rfl, hn, hl, k⟩ := h
  refine ⟨_, (pss_one (ps_ret (pe_ifExp (pt_cmpR op_eq (pe_op op_sub (pv 3) (pv 2)) pe_int (nomark _)) (pe_op op_catN (pv 1) (pe_tup (pa_cons (pv 2) pa_nil))) (pe_op op_catN (pv 1) (pe_tup (pa_cons (pv 2) (pa_cons (pv 3) pa_nil))))))), ?_⟩
  refine ⟨_, rfl, _, rfl, _, _, rfl, rfl, rfl, _, rfl, ?_⟩
  unfold pfn at k
  by_cases c : hi = lo + 1
  · rw [if_pos c] at k
    refine iteD (by rw [c]; exact congrArg V.int (by omega)) ⟨_, rfl, _, rfl, le_line (by show 1 ≤ 1000; decide), fun p hp => ?_⟩
    have s1 := same_new hp (.tup [V.int (lo : Int)])
    exact ⟨n, [(lo : Int)], na, p, rfl, rfl, s1 _ _ hn, upd_same, by simp, by simp; omega, fun H' r s2 n2 => k H' r (s1.trans s2) n2⟩
  · rw [if_neg c] at k
    refine iteDF (fun z => c (by have := V.int.inj z; omega)) ⟨_, rfl, _, rfl, _, rfl, le_line (by show 2 ≤ 1000; decide), fun p hp => ?_⟩
    have s1 := same_new hp (.tup [V.int (lo : Int), V.int (hi : Int)])
    exact ⟨n, [(lo : Int), (hi : Int)], na, p, rfl, rfl, s1 _ _ hn, upd_same, by simp, by simp; omega, fun H' r s2 n2 => k H' r (s1.trans s2) n2⟩
def spAheadSt : Sp := fun vs H Q _ => ∃ (A : AA) (u : US) (q : Nm) (kk : Nat) (na : Addr) (x : BI) (st : Stm) (ps es : List Nm), vs = [.ref A.u, .ref na] ∧ UT K A H u ∧ NM H (q ++ [(kk : Int)]) na ∧ q.length ≤ 50 ∧ alook u.known (q ++ [(kk : Int)]) = some ⟨st.kd, q ++ [(kk : Int)], []⟩ ∧ StAt u q kk x st ∧
  PrevOf u 5 q x kk ps ∧ WaitOf u 5 q kk st es ∧ ∀ H' a, Same H H' → LN H' (ps ++ es) a → Q (.ref a) H'
theorem sc_Unfolding_ahead_of_statement : FnScope ["self", "name", "block", "found", "start"] ["self", "name"] (defScope s_Unfolding_ahead_of_statement) := ⟨rfl, rfl, rfl, by decide +kernel, rfl, by decide +kernel, by decide +kernel⟩
theorem ok_ahead_of_statement (T : Txt w K mg) (C_last_of : C8.Met P w K mg base 11 (ad K "Unfolding") "last_of" (spLastOf (K := K) 5) []) (C_last_in : C8.Met P w K mg base 12 (ad K "Unfolding") "last_in" (spLastIn (K := K) 5) [])
    (C_meant_start : C8.Met P w K mg base 2 (ad K "Unfolding") "meant_start" (spMeant (K := K)) []) : C8.Met P w K mg base 13 (ad K "Unfolding") "ahead_of_statement" (spAheadSt (K := K)) [] := by
  refine T.f_Unfolding_ahead_of_statement.met T.c_Unfolding sc_Unfolding_ahead_of_statement (fun vs H Q E h => by obtain ⟨_, _, _, _, _, _, _, _, _, rfl, _⟩ := h; rfl) fun f cdv AR outer s H vs Q E hr h => ?_
  obtain ⟨A, u, q, kk, na, x, st, ps, es, rfl, hU, hn, hl, hkn, hst, hpv, hwt, k0⟩ := h
  refine ⟨_, (pss_cons (ps_set (i := 2) sc_Unfolding_ahead_of_statement.nd rfl (Or.inl rfl) (pe_dget (hu_of hr) (kfld K rfl (pv 0) rfl) (pe_slice sl_initN (pv 1) po_none (po_some (pe_un un_neg pe_int))) (fun _ _ => rfl))) 
    (pss_cons (ps_set (i := 3) sc_Unfolding_ahead_of_statement.nd rfl (Or.inl rfl) (pe_lst pa_nil)) 
    (C8.pss_cut (ps_if (pt_cmpR op_gt (pe_ix (kix_tup K rfl) (pv 1) (pe_un un_neg pe_int) (fun _ _ => rfl)) pe_int (nomark _)) (pss_one (ps_expr (pe_bm PySem.F.plainAttrs_list PySem.F.slot_list_append PySem.F.type_list_append mt_append (pv 3) (pa_cons (C8.pe_mt C_last_of hr (by omega) (pv 0) (pa_cons (pe_op op_catN (pe_slice sl_initN (pv 1) po_none (po_some (pe_un un_neg pe_int))) (pe_tup (pa_cons (pe_op op_sub (pe_ix (kix_tup K rfl) (pv 1) (pe_un un_neg pe_int) (fun _ _ => rfl)) pe_int) pa_nil))) pa_nil)) pa_nil)))) (pss_one (ps_if (pt_cmpR op_notN (kfld K rfl (pv 2) rfl) pe_non (nomark _)) (pss_one (ps_expr (pe_bm PySem.F.plainAttrs_list PySem.F.slot_list_append PySem.F.type_list_append mt_append (pv 3) (pa_cons (kfld K rfl (pv 2) rfl) pa_nil)))) pss_nil))) 
    (pss_cons (ps_if (pt_cmpR op_eq (pe_ix (kix_tup K rfl) (pe_dget (hu_of hr) (kfld K rfl (pv 0) rfl) (pv 1) (fun _ _ => rfl)) pe_int (fun _ _ => rfl)) pe_str (nomark _)) 
      (pss_cons (ps_set (i := 4) sc_Unfolding_ahead_of_statement.nd rfl (Or.inl rfl) (C8.pe_mt C_meant_start hr (by omega) (pv 0) (pa_cons (pv 1) pa_nil))) 
      (pss_one (ps_expr (pe_bm PySem.F.plainAttrs_list PySem.F.slot_list_append PySem.F.type_list_append mt_append (pv 3) (pa_cons (pe_ifExp (pt_cmp (pc_din (hu_of hr) (pv 4) (kfld K rfl (pv 0) rfl)) rfl) (C8.pe_mt C_last_in hr (by omega) (pv 0) (pa_cons (pe_op op_catN (pv 4) (pe_tup (pa_cons pe_int pa_nil))) (pa_cons (pv 4) pa_nil))) pe_non) pa_nil))))) pss_nil) 
    (pss_one (ps_ret (pv 3))))))), ?_⟩
  have hnl : (q ++ [(kk : Int)]).length = q.length + 1 := by rw [List.length_append]; rfl
  refine ⟨_, rfl, _, _, _, _, _, rfl, hU.ins, T.c_Unfolding, T.n_Unfolding_blocks, rfl, _, rfl, 1, rfl, _, rfl, na, q, kk, rfl, rfl, rfl, hn, fun H1 qa s1 hq1 => ?_⟩
  have U1 := hU.same s1
  obtain ⟨kvs, hb, al⟩ := U1.bl
  obtain ⟨v, hv, rb⟩ := al.look kn_inj q hst.bl
  refine ⟨_, v, rfl, dget_t hb hq1 hv, ?_⟩
  obtain ⟨b, bx, sa, e, vh, va, rfl, hb1, _, _, _, hon, _⟩ := rb
  refine ⟨le_line (by show 0 ≤ 1000; decide), fun D hD => ?_⟩
  have sD := same_new hD (.lst [])
  refine ⟨fun σ H' => ∃ vs, σ = [some (.ref A.u), some (.ref na), some (.ref b), some (.ref D), none] ∧ Same H1 H' ∧ H' D = some (.lst vs) ∧ NMs H' ps vs ∧ ps.length ≤ 1, ?_, ?_⟩
  · obtain ⟨xs, hx, lx⟩ := nm_last (hn.mono (Tk.same (s1.trans sD)))
    refine ⟨_, rfl, 1, rfl, _, _, _, _, rfl, rfl, SqT.of hx, lx, _, _, rfl, rfl, _, rfl, ?_⟩
    cases kk with
    | zero =>
      refine iteDF (by decide) ?_
      have hps : ps = x.hang.toList := hpv
      subst hps
      refine ⟨_, rfl, _, _, _, _, _, rfl, sD _ _ hb1, T.c_Block, T.n_Block_hangs_on, rfl, rfl, _, rfl, ?_⟩
      cases hx2 : x.hang with
      | none =>
        rw [hx2] at hon
        have hvh : vh = .non := hon
        subst hvh
        exact iteN rfl ⟨[], rfl, sD, upd_same, .nil, Nat.zero_le _⟩
      | some g =>
        rw [hx2] at hon
        obtain ⟨ga, rfl, hg⟩ := hon
        refine iteNF (fun z => by cases z) ⟨_, rfl, .inl ⟨rfl, _, .inl (.inl upd_same)⟩, _, rfl, _, _, _, _, _, rfl, sD _ _ hb1, T.c_Block, T.n_Block_hangs_on, rfl, D, _, _, rfl, rfl, upd_same, lt_line (by show 0 ≤ 1000; decide), ?_⟩
        rw [upd_upd]
        have s2 := same_new hD (.lst ([] ++ [V.ref ga]))
        exact ⟨_, rfl, s2, upd_same, .cons ⟨ga, rfl, s2 _ _ hg⟩ .nil, Nat.le_refl _⟩
    | succ j =>
      obtain ⟨d, m, hd, hlo, rfl⟩ := hpv
      refine iteD (by omega) ?_
      refine ⟨_, rfl, .inl ⟨rfl, _, .inl (.inl upd_same)⟩, _, rfl, _, _, _, rfl, (hU.same (s1.trans sD)).ins, rfl, ?_⟩
      refine ⟨_, rfl, 1, rfl, _, rfl, na, q, ((j + 1 : Nat) : Int), rfl, rfl, rfl, hn.mono (Tk.same (s1.trans sD)), fun H3 qa3 s3 hq3 => ?_⟩
      obtain ⟨xs3, hx3, lx3⟩ := nm_last (hn.mono (Tk.same ((s1.trans sD).trans s3)))
      refine ⟨_, rfl, 1, rfl, _, _, _, _, rfl, rfl, SqT.of hx3, lx3, _, _, rfl, rfl, le_line (by show 1 ≤ 1000; decide), fun p hp => ?_⟩
      have s4 := same_new hp (.tup [V.int (((j + 1 : Nat) : Int) - 1)])
      have ej : (((j + 1 : Nat) : Int) - 1) = (j : Int) := by omega
      refine ⟨q, [((j + 1 : Nat) : Int) - 1], qa3, p, rfl, rfl, s4 _ _ hq3, upd_same, by simp, by simp; omega, fun H5 r5 s5 n5 => ?_⟩
      have s35 := s3.trans (s4.trans s5)
      refine ⟨A, u, d, q ++ [((j + 1 : Nat) : Int) - 1], m, r5, rfl, (hU.same (s1.trans sD)).same s35, n5, by rw [List.length_append]; show q.length + 1 + 2 * 5 ≤ 100; omega, by rw [ej]; exact hlo, hd, fun H6 a6 s6 n6 => ?_⟩
      have hD6 := s6 _ _ (s35 _ _ upd_same)
      refine ⟨D, _, _, rfl, rfl, hD6, lt_line (by show 0 ≤ 1000; decide), ?_⟩
      have k6 : Tk H6 (upd H6 D (.lst ([] ++ [V.ref a6]))) := tk_upd fun vs e => by rw [hD6] at e; cases e
      exact ⟨_, rfl, same_put hD (sD.trans (s35.trans s6)) _, upd_same, .cons ⟨a6, rfl, n6.mono k6⟩ .nil, Nat.le_refl _⟩
  · rintro σ H2 ⟨vs, rfl, s2, hD2, nps, lps⟩
    have s02 := s1.trans s2
    have U2 := hU.same s02
    obtain ⟨kvk, hk, alk⟩ := U2.kw
    obtain ⟨vk, hvk, t0, f0, p0, rfl, ht0, _, _⟩ := alk.look kn_inj _ hkn
    have hn2 := hn.mono (Tk.same s02)
    refine ⟨_, rfl, _, _, _, _, _, rfl, U2.ins, T.c_Unfolding, T.n_Unfolding_known, rfl, _, rfl, _, _, rfl, dget_t hk hn2 hvk, _, _, _, _, rfl, rfl, SqT.of ht0, at0, rfl, _, rfl, ?_⟩
    have lvs : vs.length ≤ 1 := by rw [← nps.len]; exact lps
    by_cases hw : ∃ t, st = .wait t
    · obtain ⟨t, rfl⟩ := hw
      obtain ⟨h, d, m, e, hm, ⟨mv, hmv⟩, lm, hd, hli, rfl⟩ := hwt
      refine iteD rfl ?_
      refine ⟨_, rfl, _, _, _, rfl, U2.ins, rfl, _, rfl, A, u, q, m, kk, h, na, x, t, rfl, U2, hn2, hst, hm, fun H3 ma s3 hma => ?_⟩
      have U3 := U2.same s3
      obtain ⟨kvd, hdn, ald⟩ := U3.dn
      obtain ⟨vd, hvd, _⟩ := ald.look kn_inj _ hmv
      refine ⟨_, rfl, .inl ⟨rfl, _, .inl (.inl (s3 _ _ hD2))⟩, ?_⟩
      refine ⟨_, rfl, _, rfl, _, _, _, _, _, rfl, U3.ins, T.c_Unfolding, T.n_Unfolding_done, rfl, _, _, rfl, dgetN_t hdn hma hvd, _, rfl, iteT ?_⟩
      refine ⟨_, rfl, _, _, _, rfl, U3.ins, rfl, _, rfl, le_line (by show 1 ≤ 1000; decide), fun p hp => ?_⟩
      have s4 := same_new hp (.tup [V.int 0])
      refine ⟨m, [0], ma, p, rfl, rfl, s4 _ _ hma, upd_same, by simp, by simp; omega, fun H5 r5 s5 n5 => ⟨_, rfl, ?_⟩⟩
      have s45 := s4.trans s5
      refine ⟨A, u, d, m ++ [0], m, e, r5, ma, rfl, U3.same s45, n5, s45 _ _ hma, by rw [List.length_append]; show m.length + 1 + 1 + 2 * 5 ≤ 100; omega, hli, hd, fun H6 a6 s6 n6 => ?_⟩
      have s36 := s3.trans (s45.trans s6)
      have hD6 := s36 _ _ hD2
      refine ⟨D, _, _, rfl, rfl, hD6, lt_line (by omega), ?_⟩
      have k6 : Tk H6 (upd H6 D (.lst (vs ++ [V.ref a6]))) := tk_upd fun vs e => by rw [hD6] at e; cases e
      exact ⟨_, rfl, k0 _ D (s1.trans (same_put hD (s2.trans s36) _)) ⟨_, upd_same, paired_app (nps.mono ((Tk.same s36).trans k6)) (.cons ⟨a6, rfl, n6.mono k6⟩ .nil)⟩⟩
    · have e1 : ¬ V.str st.kd = V.str "await" := by
        cases st <;> first | exact absurd ⟨_, rfl⟩ hw | (intro z; exact absurd (V.str.inj z) (by dsimp only [Stm.kd]; decide))
      have e2 : es = [] := by
        cases st <;> first | exact absurd ⟨_, rfl⟩ hw | exact hwt
      subst e2
      rw [List.append_nil] at k0
      exact iteDF e1 ⟨_, rfl, k0 _ D s02 ⟨vs, hD2, nps⟩⟩
end
end K11
set_option Elab.async false
set_option linter.all false
set_option maxRecDepth 100000
set_option maxHeartbeats 4000000
namespace K11
open PySem PySem.Spec PyProof.Rows L2
section
variable {P : Program} {w : World} {K : PySem.W.Frag} {mg : Str → Option Value} {base : Heap}
def spAheadJoin : Sp := fun vs H Q _ => ∃ (A : AA) (u : US) (f : Nm) (na : Addr) (m : Nat) (wv : Int) (xs : List Nm), vs = [.ref A.u, .ref na] ∧ UT K A H u ∧ NM H f na ∧ f.length ≤ 50 ∧ alook u.done f = some wv ∧ alook u.times f = some m ∧ m ≤ 11 ∧
  (m = 0 → xs = [f]) ∧ (0 < m → xs.length = m ∧ ∀ (b : Nat) (y : Nm), xs[b]? = some y → ∃ d, d < 5 ∧ LastIn u d (f ++ [(b : Int)]) f y) ∧ ∀ H' a, Same H H' → LN H' xs a → Q (.ref a) H'
theorem nms_of {H : Hp} : ∀ {ns : List Nm} {vs : List V}, vs.length = ns.length → (∀ (i : Nat) (v : V) (n : Nm), vs[i]? = some v → ns[i]? = some n → ∃ a, v = V.ref a ∧ NM H n a) → NMs H ns vs
  | [], [], _, _ => .nil
  | n :: ns, v :: vs, h, k => .cons (k 0 v n rfl rfl) (nms_of (Nat.succ.inj h) fun i v' n' h1 h2 => k (i + 1) v' n' (by simpa using h1) (by simpa using h2))
  | [], _ :: _, h, _ => by cases h
  | _ :: _, [], h, _ => by cases h
theorem sc_Unfolding_ahead_of_join : FnScope ["self", "name", "many", "b"] ["self", "name"] (defScope s_Unfolding_ahead_of_join) := ⟨rfl, rfl, rfl, by decide +kernel, rfl, by decide +kernel, by decide +kernel⟩
theorem ok_ahead_of_join (T : Txt w K mg) (C_last_in : C8.Met P w K mg base 12 (ad K "Unfolding") "last_in" (spLastIn (K := K) 5) []) : C8.Met P w K mg base 13 (ad K "Unfolding") "ahead_of_join" (spAheadJoin (K := K)) [] := by
  refine T.f_Unfolding_ahead_of_join.met T.c_Unfolding sc_Unfolding_ahead_of_join (fun vs H Q E h => by obtain ⟨_, _, _, _, _, _, _, rfl, _⟩ := h; rfl) fun f0 cdv AR outer s H vs Q E hr h => ?_
  obtain ⟨A, u, f, na, m, wv, xs, rfl, hU, hn, hl, hdn, htm, hm, hx0, hx1, k0⟩ := h
  refine ⟨_, (pss_cons (ps_if (pt_cmp (pc_dnotin (hu_of hr) (pv 1) (kfld K rfl (pv 0) rfl)) rfl) (pss_one (ps_ret (pe_lst (pa_cons pe_non pa_nil)))) pss_nil) 
    (pss_cons (ps_set (i := 2) sc_Unfolding_ahead_of_join.nd rfl (Or.inl rfl) (pe_dget (hu_of hr) (kfld K rfl (pv 0) rfl) (pv 1) (fun _ _ => rfl))) 
    (pss_one (ps_ret (pe_ifExp (pt_cmpR op_gt (pv 2) pe_int (nomark _)) (pe_lc (own := [("b", 3)]) rfl sc_Unfolding_ahead_of_join.nd (pi_range1 rfl T.z_range (pa_cons (pv 2) pa_nil)) (blkOk_by (N := ["self", "name", "many", "b"]) (sc := defScope s_Unfolding_ahead_of_join) (by decide +kernel)) (fun _ _ _ _ _ => (pg_name (i := 3) sc_Unfolding_ahead_of_join.nd rfl (Or.inl rfl))) (fun _ _ _ _ _ => pts_nil) (fun _ _ _ _ _ => (C8.pe_mt C_last_in hr (by omega) (pv 0) (pa_cons (pe_op op_catN (pv 1) (pe_tup (pa_cons (pv 3) pa_nil))) (pa_cons (pv 1) pa_nil))))) (pe_lst (pa_cons (pv 1) pa_nil))))))), ?_⟩
  obtain ⟨kvd, hd, ald⟩ := hU.dn
  obtain ⟨vd, hvd, _⟩ := ald.look kn_inj _ hdn
  obtain ⟨kvt, ht, alt⟩ := hU.tm
  obtain ⟨vt, hvt, rfl⟩ := alt.look kn_inj _ htm
  refine ⟨_, rfl, _, rfl, _, _, _, _, _, rfl, hU.ins, T.c_Unfolding, T.n_Unfolding_done, rfl, _, _, rfl, dgetN_t hd hn hvd, _, rfl, iteF ?_⟩
  refine ⟨_, rfl, _, _, _, _, _, rfl, hU.ins, T.c_Unfolding, T.n_Unfolding_times, rfl, _, rfl, _, _, rfl, dget_t ht hn hvt, ?_⟩
  refine ⟨_, rfl, _, _, rfl, rfl, _, rfl, ?_⟩
  by_cases c : m = 0
  · subst c
    rw [hx0 rfl] at k0
    refine iteDF (by decide) ⟨_, rfl, le_line (by show 1 ≤ 1000; decide), fun p hp => ?_⟩
    have s1 := same_new hp (.lst [V.ref na])
    exact k0 _ p s1 ⟨_, upd_same, .cons ⟨na, rfl, s1 _ _ hn⟩ .nil⟩
  · refine iteD (by omega) ⟨_, rfl, _, rfl, by omega, by omega, fun D hD => ?_⟩
    obtain ⟨hxl, hxs⟩ := hx1 (by omega)
    refine lc_map (n := ((m : Int)).toNat) (fun i v H => ∃ y, xs[i]? = some y ∧ ∃ a, v = .ref a ∧ NM H y a) (fun i y H H' k ⟨z, e, a, ea, h⟩ => ⟨z, e, a, ea, h.mono k⟩) (lt_line (by omega)) hD (fun i H1 hi _ => hi) (fun _ _ => Nat.le_refl _) (fun i H1 v H' Qn hi hS yl k => ?_) fun H' ys hS hD' hl hR => ?_
    · obtain ⟨rfl, rfl⟩ := yl
      have hi' : i < xs.length := by omega
      obtain ⟨d, hd5, hli⟩ := hxs i _ (List.getElem?_eq_getElem hi')
      refine ⟨rfl, _, rfl, _, _, _, rfl, (hU.same hS).ins, rfl, _, rfl, _, rfl, le_line (by show 1 ≤ 1000; decide), fun p hp => ?_⟩
      have s1 := same_new hp (.tup [V.int (0 + (i : Int))])
      have e0 : (0 + (i : Int)) = (i : Int) := by omega
      refine ⟨f, [0 + (i : Int)], na, p, rfl, rfl, s1 _ _ (hS _ _ hn), upd_same, by simp, by simp; omega, fun H5 r5 s5 n5 => ⟨_, rfl, ?_⟩⟩
      have s15 := s1.trans s5
      exact ⟨A, u, d, f ++ [0 + (i : Int)], f, _, r5, na, rfl, (hU.same hS).same s15, n5, s15 _ _ (hS _ _ hn), by rw [List.length_append]; show f.length + 1 + 1 + 2 * 5 ≤ 100; omega, by rw [e0]; exact hli, hd5, fun H6 a6 s6 n6 => k _ _ (s15.trans s6) ⟨_, List.getElem?_eq_getElem hi', a6, rfl, n6⟩⟩
    · refine k0 _ D hS ⟨ys, hD', nms_of (by omega) fun i v n h1 h2 => ?_⟩
      obtain ⟨y, hy, a, ea, ha⟩ := hR i v h1
      rw [h2] at hy
      cases hy
      exact ⟨a, ea, ha⟩
def spGaps : Sp := fun vs H Q _ => ∃ (A : AA) (u : US) (n : Nm) (na : Addr) (xs : List Nm), vs = [.ref A.u, .ref na] ∧ UT K A H u ∧ NM H n na ∧ n.length ≤ 40 ∧ (∀ k, alook u.known n = some k → k.fst.length ≤ 40) ∧ Gap u 5 n xs ∧ ∀ H' a, Same H H' → LN H' xs a → Q (.ref a) H'
theorem sc_Unfolding_ahead_with_gaps : FnScope ["self", "name", "kind", "first", "part", "low", "high", "middle", "many"] ["self", "name"] (defScope s_Unfolding_ahead_with_gaps) := ⟨rfl, rfl, rfl, by decide +kernel, rfl, by decide +kernel, by decide +kernel⟩
theorem ok_ahead_with_gaps (T : Txt w K mg) (C_part_of_fold : C8.Met P w K mg base 1 (ad K "Unfolding") "part_of_fold" spPartOf []) (C_ahead_of_join : C8.Met P w K mg base 13 (ad K "Unfolding") "ahead_of_join" (spAheadJoin (K := K)) [])
    (C_ahead_of_statement : C8.Met P w K mg base 13 (ad K "Unfolding") "ahead_of_statement" (spAheadSt (K := K)) []) : C8.Met P w K mg base 14 (ad K "Unfolding") "ahead_with_gaps" (spGaps (K := K)) [] := by
  refine T.f_Unfolding_ahead_with_gaps.met T.c_Unfolding sc_Unfolding_ahead_with_gaps (fun vs H Q E h => by obtain ⟨_, _, _, _, _, rfl, _⟩ := h; rfl) fun f0 cdv AR outer s H vs Q E hr h => ?_
  obtain ⟨A, u, n, na, xs, rfl, hU, hn, hl, hfl, gp, k0⟩ := h
  refine ⟨_, (pss_cons (ps_asg (pe_dget (hu_of hr) (kfld K rfl (pv 0) rfl) (pv 1) (fun _ _ => rfl)) (kpg_tup (n := 3) K rfl rfl (pgs_cons (pg_name (i := 2) sc_Unfolding_ahead_with_gaps.nd rfl (Or.inl rfl)) (pgs_cons (pg_name (i := 3) sc_Unfolding_ahead_with_gaps.nd rfl (Or.inl rfl)) (pgs_cons (pg_name (i := 4) sc_Unfolding_ahead_with_gaps.nd rfl (Or.inl rfl)) pgs_nil))))) 
    (pss_cons (ps_if (pt_cmpR op_eq (pv 2) pe_str (nomark _)) (pss_one (ps_ret (C8.pe_mt C_ahead_of_join hr (by omega) (pv 0) (pa_cons (pv 3) pa_nil)))) pss_nil) 
    (pss_cons (ps_if (pt_cmpR op_eq (pv 2) pe_str (nomark _)) (pss_one (ps_ret (pe_lst (pa_cons (pv 3) pa_nil)))) pss_nil) 
    (pss_cons (ps_if (pt_cmpR op_eq (pv 2) pe_str (nomark _)) 
      (pss_cons (ps_asg (pv 4) (kpg_tup (n := 2) K rfl rfl (pgs_cons (pg_name (i := 5) sc_Unfolding_ahead_with_gaps.nd rfl (Or.inl rfl)) (pgs_cons (pg_name (i := 6) sc_Unfolding_ahead_with_gaps.nd rfl (Or.inl rfl)) pgs_nil)))) 
      (pss_cons (ps_set (i := 7) sc_Unfolding_ahead_with_gaps.nd rfl (Or.inl rfl) (pe_op op_fdiv (pe_op op_add (pv 5) (pv 6)) pe_int)) 
      (pss_one (ps_ret (pe_lst (pa_cons (C8.pe_mt C_part_of_fold hr (by omega) (pv 0) (pa_cons (pv 3) (pa_cons (pv 5) (pa_cons (pv 7) pa_nil)))) (pa_cons (C8.pe_mt C_part_of_fold hr (by omega) (pv 0) (pa_cons (pv 3) (pa_cons (pv 7) (pa_cons (pv 6) pa_nil)))) pa_nil))))))) pss_nil) 
    (pss_cons (ps_if (pt_cmpR op_eq (pv 2) pe_str (nomark _)) 
      (pss_cons (ps_set (i := 8) sc_Unfolding_ahead_with_gaps.nd rfl (Or.inl rfl) (pe_dget (hu_of hr) (kfld K rfl (pv 0) rfl) (pv 3) (fun _ _ => rfl))) 
      (pss_one (ps_ret (pe_lst (pa_cons (pe_ifExp (pt_cmpR op_gt (pv 8) pe_int (nomark _)) (C8.pe_mt C_part_of_fold hr (by omega) (pv 0) (pa_cons (pv 3) (pa_cons pe_int (pa_cons (pv 8) pa_nil)))) (pv 3)) pa_nil))))) pss_nil) 
    (pss_one (ps_ret (C8.pe_mt C_ahead_of_statement hr (by omega) (pv 0) (pa_cons (pv 1) pa_nil))))))))), ?_⟩
  obtain ⟨kvk, hk, alk⟩ := hU.kw
  have go : ∀ {y : KI}, alook u.known n = some y → ∃ t f p, valV kvk (kn n) = some (.ref t) ∧ H t = some (.tup [.str y.kd, .ref f, .ref p]) ∧ NM H y.fst f ∧ NM H y.prt p := fun e => by
    obtain ⟨vk, hvk, t, f, p, rfl, h1, h2, h3⟩ := alk.look kn_inj _ e
    exact ⟨t, f, p, hvk, h1, h2, h3⟩
  have ne : ∀ {a b : Str}, a ≠ b → ¬ V.str a = V.str b := fun h z => h (V.str.inj z)
  cases gp with
  | @stm q kk x st ps es hkn hst hpv hwt =>
    obtain ⟨t, f, p, hv, ht, hf, hp⟩ := go hkn
    refine ⟨_, rfl, _, _, _, _, _, rfl, hU.ins, T.c_Unfolding, T.n_Unfolding_known, rfl, _, rfl, _, _, rfl, dget_t hk hn hv, t, _, rfl, SqT.of ht, rfl, _, _, rfl, _, _, rfl, _, _, rfl, rfl, ?_⟩
    have e1 : st.kd ≠ "join" := by cases st <;> (dsimp only [Stm.kd]; decide)
    have e2 : st.kd ≠ "leaf" := by cases st <;> (dsimp only [Stm.kd]; decide)
    have e3 : st.kd ≠ "pair" := by cases st <;> (dsimp only [Stm.kd]; decide)
    have e4 : st.kd ≠ "keep" := by cases st <;> (dsimp only [Stm.kd]; decide)
    refine ⟨_, rfl, rfl, _, rfl, iteDF (ne e1) ?_⟩
    refine ⟨_, rfl, rfl, _, rfl, iteDF (ne e2) ?_⟩
    refine ⟨_, rfl, rfl, _, rfl, iteDF (ne e3) ?_⟩
    refine ⟨_, rfl, rfl, _, rfl, iteDF (ne e4) ?_⟩
    rw [List.length_append] at hl
    exact ⟨_, rfl, _, _, _, rfl, hU.ins, rfl, _, rfl, A, u, q, kk, na, x, st, ps, es, rfl, hU, hn, by omega, hkn, hst, hpv, hwt, k0⟩
  | @join _ f m _ wv _ hkn hdn htm hm hxl hxs =>
    obtain ⟨t, fa, p, hv, ht, hf, hp⟩ := go hkn
    refine ⟨_, rfl, _, _, _, _, _, rfl, hU.ins, T.c_Unfolding, T.n_Unfolding_known, rfl, _, rfl, _, _, rfl, dget_t hk hn hv, t, _, rfl, SqT.of ht, rfl, _, _, rfl, _, _, rfl, _, _, rfl, rfl, ?_⟩
    refine ⟨_, rfl, rfl, _, rfl, iteD rfl ?_⟩
    exact ⟨_, rfl, _, _, _, rfl, hU.ins, rfl, _, rfl, A, u, f, fa, m + 1, wv, xs, rfl, hU, hf, by have := hfl _ hkn; show f.length ≤ 50; exact Nat.le_trans this (by decide), hdn, htm, by omega, fun z => by omega, fun _ => ⟨hxl, hxs⟩, k0⟩
  | @join0 _ f wv hkn hdn htm =>
    obtain ⟨t, fa, p, hv, ht, hf, hp⟩ := go hkn
    refine ⟨_, rfl, _, _, _, _, _, rfl, hU.ins, T.c_Unfolding, T.n_Unfolding_known, rfl, _, rfl, _, _, rfl, dget_t hk hn hv, t, _, rfl, SqT.of ht, rfl, _, _, rfl, _, _, rfl, _, _, rfl, rfl, ?_⟩
    refine ⟨_, rfl, rfl, _, rfl, iteD rfl ?_⟩
    exact ⟨_, rfl, _, _, _, rfl, hU.ins, rfl, _, rfl, A, u, f, fa, 0, wv, [f], rfl, hU, hf, by have := hfl _ hkn; show f.length ≤ 50; exact Nat.le_trans this (by decide), hdn, htm, by omega, fun z => rfl, fun z => by omega, k0⟩
  | @leaf _ f i hkn =>
    obtain ⟨t, fa, p, hv, ht, hf, hp⟩ := go hkn
    refine ⟨_, rfl, _, _, _, _, _, rfl, hU.ins, T.c_Unfolding, T.n_Unfolding_known, rfl, _, rfl, _, _, rfl, dget_t hk hn hv, t, _, rfl, SqT.of ht, rfl, _, _, rfl, _, _, rfl, _, _, rfl, rfl, ?_⟩
    refine ⟨_, rfl, rfl, _, rfl, iteDF (ne (by show ("leaf" : Str) ≠ "join"; decide)) ?_⟩
    refine ⟨_, rfl, rfl, _, rfl, iteD rfl ⟨_, rfl, le_line (by show 1 ≤ 1000; decide), fun p3 hp3 => ?_⟩⟩
    have s1 := same_new hp3 (.lst [V.ref fa])
    exact k0 _ p3 s1 ⟨_, upd_same, .cons ⟨fa, rfl, s1 _ _ hf⟩ .nil⟩
  | @pair _ f lo hi hkn h1 h2 =>
    obtain ⟨t, fa, p, hv, ht, hf, hp⟩ := go hkn
    refine ⟨_, rfl, _, _, _, _, _, rfl, hU.ins, T.c_Unfolding, T.n_Unfolding_known, rfl, _, rfl, _, _, rfl, dget_t hk hn hv, t, _, rfl, SqT.of ht, rfl, _, _, rfl, _, _, rfl, _, _, rfl, rfl, ?_⟩
    refine ⟨_, rfl, rfl, _, rfl, iteDF (ne (by show ("pair" : Str) ≠ "join"; decide)) ?_⟩
    refine ⟨_, rfl, rfl, _, rfl, iteDF (ne (by show ("pair" : Str) ≠ "leaf"; decide)) ?_⟩
    refine ⟨_, rfl, rfl, _, rfl, iteD rfl ?_⟩
    refine ⟨_, rfl, p, _, rfl, SqT.of hp, rfl, _, _, rfl, _, _, rfl, rfl, ?_⟩
    refine ⟨_, rfl, _, rfl, _, _, rfl, rfl, _, _, rfl, rfl, ⟨by decide, by decide⟩, ?_⟩
    have em : ((lo : Int) + hi) / 2 = (((lo + hi) / 2 : Nat) : Int) := by omega
    have lf : f.length ≤ 40 := hfl _ hkn
    refine ⟨_, rfl, _, _, _, rfl, hU.ins, rfl, _, rfl, _, rfl, _, rfl, A, u, f, lo, (lo + hi) / 2, fa, congrArg (fun z => [V.ref A.u, V.ref fa, V.int (lo : Int), V.int z]) em, hf, by omega, fun H1 a1 s1 n1 => ?_⟩
    have U1 := hU.same s1
    refine ⟨_, rfl, _, _, _, rfl, U1.ins, rfl, _, rfl, _, rfl, _, rfl, A, u, f, (lo + hi) / 2, hi, fa, congrArg (fun z => [V.ref A.u, V.ref fa, V.int z, V.int (hi : Int)]) em, hf.mono (Tk.same s1), by omega, fun H2 a2 s2 n2 => ?_⟩
    refine ⟨le_line (by show 2 ≤ 1000; decide), fun p3 hp3 => ?_⟩
    have s3 := same_new hp3 (.lst [V.ref a1, V.ref a2])
    exact k0 _ p3 (s1.trans (s2.trans s3)) ⟨_, upd_same, .cons ⟨a1, rfl, n1.mono (Tk.same (s2.trans s3))⟩ (.cons ⟨a2, rfl, n2.mono (Tk.same s3)⟩ .nil)⟩
  | @keep _ f m hkn htm hm =>
    obtain ⟨t, fa, p, hv, ht, hf, hp⟩ := go hkn
    obtain ⟨kvt, htt, alt⟩ := hU.tm
    obtain ⟨vt, hvt, rfl⟩ := alt.look kn_inj _ htm
    refine ⟨_, rfl, _, _, _, _, _, rfl, hU.ins, T.c_Unfolding, T.n_Unfolding_known, rfl, _, rfl, _, _, rfl, dget_t hk hn hv, t, _, rfl, SqT.of ht, rfl, _, _, rfl, _, _, rfl, _, _, rfl, rfl, ?_⟩
    refine ⟨_, rfl, rfl, _, rfl, iteDF (ne (by show ("keep" : Str) ≠ "join"; decide)) ?_⟩
    refine ⟨_, rfl, rfl, _, rfl, iteDF (ne (by show ("keep" : Str) ≠ "leaf"; decide)) ?_⟩
    refine ⟨_, rfl, rfl, _, rfl, iteDF (ne (by show ("keep" : Str) ≠ "pair"; decide)) ?_⟩
    refine ⟨_, rfl, rfl, _, rfl, iteD rfl ?_⟩
    refine ⟨_, rfl, _, _, _, _, _, rfl, hU.ins, T.c_Unfolding, T.n_Unfolding_times, rfl, _, rfl, _, _, rfl, dget_t htt hf hvt, ?_⟩
    have lf : f.length ≤ 40 := hfl _ hkn
    refine ⟨_, rfl, _, _, rfl, rfl, _, rfl, ?_⟩
    by_cases c : m = 0
    · subst c
      refine iteDF (by decide) ⟨_, rfl, le_line (by show 1 ≤ 1000; decide), fun p3 hp3 => ?_⟩
      have s1 := same_new hp3 (.lst [V.ref fa])
      exact k0 _ p3 s1 ⟨_, upd_same, .cons ⟨fa, rfl, s1 _ _ hf⟩ .nil⟩
    · rw [if_neg c] at k0
      refine iteD (by omega) ⟨_, rfl, _, _, _, rfl, hU.ins, rfl, _, rfl, _, rfl, A, u, f, 0, m, fa, rfl, hf, by omega, fun H1 a1 s1 n1 => ⟨le_line (by show 1 ≤ 1000; decide), fun p3 hp3 => ?_⟩⟩
      have s3 := same_new hp3 (.lst [V.ref a1])
      exact k0 _ p3 (s1.trans s3) ⟨_, upd_same, .cons ⟨a1, rfl, n1.mono (Tk.same s3)⟩ .nil⟩
end
end K11
set_option Elab.async false
set_option linter.all false
set_option maxRecDepth 100000
set_option maxHeartbeats 4000000
namespace K11
open PySem PySem.Spec PyProof.Rows L2
/-! ### names as data; the set of the names in a list -/
theorem dp_ints {K : PySem.W.Frag} {H : Hp} : ∀ n : List Int, DpAll K H (n.map V.int) (n.map PyData.int)
  | [] => .nil
  | i :: n => .cons (.int i) (dp_ints n)
theorem NM.dp {K : PySem.W.Frag} {H : Hp} {n : Nm} {a : Addr} (h : NM H n a) : Dp K H (.ref a) (.tuple (n.map .int)) := .tup (SqT.of h) (dp_ints n)
abbrev dN (n : Nm) : PyData := .tuple (n.map .int)
theorem NMs.dp {K : PySem.W.Frag} {H : Hp} {ns : List Nm} {vs : List V} (h : NMs H ns vs) : DpAll K H vs (ns.map dN) := by
  unfold NMs at h
  induction h with
  | nil => exact .nil
  | cons r _ ih =>
    obtain ⟨a, rfl, ha⟩ := r
    exact .cons ha.dp ih
theorem lay_ints : ∀ n : List Int, PyData.canLayAll0 (n.map .int) = true
  | [] => by simp [PyData.canLayAll0]
  | i :: n => by
    rw [List.map_cons, PyData.canLayAll0, lay_ints n]
    simp [PyData.canLay0]
theorem lay_names : ∀ ns : List Nm, PyData.canLayAll0 (ns.map dN) = true
  | [] => by simp [PyData.canLayAll0]
  | n :: ns => by
    rw [List.map_cons, PyData.canLayAll0, lay_names ns, PyData.canLay0, lay_ints n]
    rfl
theorem depth_names : ∀ ns : List Nm, PyData.depthAll (ns.map dN) ≤ 1
  | [] => by simp [PyData.depthAll]
  | n :: ns => by
    have := depth_names ns
    have : (dN n).depth ≤ 1 := depth_name n
    rw [List.map_cons, PyData.depthAll]
    omega
theorem shaped_name (n : Nm) : SeqAt.shaped (dN n) = true := by
  unfold SeqAt.shaped
  have : (dN n).depth ≤ 1 := depth_name n
  rw [PyData.canLay0, lay_ints n, decide_eq_true (by omega : (dN n).depth ≤ 64)]
  rfl
theorem shaped_names (ns : List Nm) : SeqAt.shaped (.list (ns.map dN)) = true := by
  unfold SeqAt.shaped
  have h := depth_names ns
  have e : (PyData.list (ns.map dN)).depth = PyData.depthAll (ns.map dN) + 1 := by rw [PyData.depth]
  rw [PyData.canLay0, lay_names ns, decide_eq_true (by rw [e]; omega : (PyData.list (ns.map dN)).depth ≤ 64)]
  rfl
theorem no_none (ns : List Nm) : ((ns.map dN).any fun z => PyData.eqv z .none) = false := by
  rw [List.any_eq_false]
  intro z hz
  obtain ⟨n, _, rfl⟩ := List.mem_map.mp hz
  simp [PyData.eqv]
theorem sn_list {X : Cx} {a : Addr} {ns : List Nm} {xs : List V} {g : TG} {te : TE} {vs : List Nat} {σ : L2.St} {H1 : Hp} {D : Addr} {Qd : Hp → Prop} (ha : H1 a = some (.lst xs)) (hn : NMs H1 ns xs) (few : ns.length < 60) (hD : H1 D = none)
    (hs : ∀ (i : Nat) x H (Qn : VK), xs[i]? = some x → Same H1 H → Qn x H → g x (wipe σ vs) H fun σ2 H2 => wipe σ2 vs = wipe σ vs ∧ te σ2 H2 Qn)
    (hd : ∀ H L, Same H1 H → H D = some (SetTO X.prog X.w D L) → (∀ p ∈ L, NM H p.2 p.1 ∧ p.2 ∈ ns) → L.length ≤ ns.length → Qd H) :
    ∃ W : Nat → Nat → Hp → Prop, (∃ m, W 0 m (upd H1 D (SetTO X.prog X.w D []))) ∧ ∀ i m H, W i m H → ((Itl X.K a).stop i H ∧ Qd H) ∨
      ((Itl X.K a).go i H ∧ ∃ G : Hp → Prop, (∀ H', G H' → ∃ m', m' < m ∧ W (i + 1) m' H') ∧ ∀ x H', (Itl X.K a).yld i H x H' → g x (wipe σ vs) H' fun σ2 H2 => wipe σ2 vs = wipe σ vs ∧ tYes σ2 H2 fun b H3 => if b = true then te σ2 H3 fun y H4 => OneIn X D y H4 G else G H3) := by
  have ln := hn.len
  let Pv : Nat → Hp → Prop := fun i H => ∃ L : List (Addr × List Int), Same H1 H ∧ H D = some (SetTO X.prog X.w D L) ∧ (∀ p ∈ L, NM H p.2 p.1 ∧ p.2 ∈ ns) ∧ L.length ≤ i
  refine ⟨fun i m H => m = xs.length - i ∧ i ≤ xs.length ∧ Pv i H, ⟨xs.length, by simp, Nat.zero_le _, [], same_new hD _, upd_same, fun p hp => (by cases hp), Nat.zero_le _⟩, ?_⟩
  rintro i m H ⟨rfl, hi, L, hS, hL, hp, hl⟩
  by_cases hlt : i < xs.length
  · refine .inr ⟨Itl.go_of (hS _ _ ha) hlt, Pv (i + 1), fun H' p' => ⟨xs.length - (i + 1), by omega, rfl, hlt, p'⟩, fun x H' yl => ?_⟩
    obtain ⟨rfl, hx⟩ := Itl.yld_of (hS _ _ ha) yl
    obtain ⟨n, b, hnn, rfl, hb⟩ := hn.get hx
    refine hs i _ H' _ hx hS ?_
    have hb' := hb.mono (Tk.same hS)
    refine ⟨b, n, L, rfl, hL, fun p h => SqT.of (hp p h).1, SqT.of hb', by omega, fun L' c1 c2 => ?_⟩
    have k : Tk H' (upd H' D (SetTO X.prog X.w D L')) := tk_upd fun vs e => by rw [hL] at e; cases e
    refine ⟨L', same_put hD hS _, upd_same, fun p h => ?_, ?_⟩
    · by_cases c : n ∈ L.map (·.2)
      · rw [c1 c] at h
        exact ⟨(hp p h).1.mono k, (hp p h).2⟩
      · rcases List.mem_cons.mp ((c2 c).mem_iff.mp h) with rfl | h'
        · exact ⟨hb'.mono k, List.mem_of_getElem? hnn⟩
        · exact ⟨(hp p h').1.mono k, (hp p h').2⟩
    · by_cases c : n ∈ L.map (·.2)
      · rw [c1 c]; omega
      · rw [(c2 c).length_eq, List.length_cons]; omega
  · have e : i = xs.length := by omega
    subst e
    exact .inl ⟨Itl.stop_of (hS _ _ ha), hd H L hS hL hp (by omega)⟩
section
variable {P : Program} {w : World} {K : PySem.W.Frag} {mg : Str → Option Value} {base : Heap}
def spAhead : Sp := fun vs H Q _ => ∃ (A : AA) (u : US) (n : Nm) (na : Addr) (xs : List Nm), vs = [.ref A.u, .ref na] ∧ UT K A H u ∧ NM H n na ∧ n.length ≤ 40 ∧ (∀ k, alook u.known n = some k → k.fst.length ≤ 40) ∧ Gap u 5 n xs ∧ xs.length < 60 ∧ (∀ x ∈ xs, x ≠ []) ∧
  ∀ H' a ys, Same H H' → LN H' ys a → (∀ y ∈ ys, y ∈ xs) → ys.length < 60 → Q (.ref a) H'
theorem sc_Unfolding_ahead : FnScope ["self", "name", "found", "one"] ["self", "name"] (defScope s_Unfolding_ahead) := ⟨rfl, rfl, rfl, by decide +kernel, rfl, by decide +kernel, by decide +kernel⟩
theorem ok_ahead (T : Txt w K mg) (C_ahead_with_gaps : C8.Met P w K mg base 14 (ad K "Unfolding") "ahead_with_gaps" (spGaps (K := K)) []) : C8.Met P w K mg base 15 (ad K "Unfolding") "ahead" (spAhead (K := K)) [] := by
  refine T.f_Unfolding_ahead.met T.c_Unfolding sc_Unfolding_ahead (fun vs H Q E h => by obtain ⟨_, _, _, _, _, rfl, _⟩ := h; rfl) fun f0 cdv AR outer s H vs Q E hr h => ?_
  obtain ⟨A, u, n, na, xs, rfl, hU, hn, hl, hfl, gp, few, hne, k0⟩ := h
  refine ⟨_, (pss_cons (ps_set (i := 2) sc_Unfolding_ahead.nd rfl (Or.inl rfl) (C8.pe_mt C_ahead_with_gaps hr (by omega) (pv 0) (pa_cons (pv 1) pa_nil))) 
    (pss_one (ps_ret (pe_ifExp (pt_cmpR (kinD K rfl (hu65 hr)) pe_non (pv 2) (by rfl)) pe_non (pe_callB (cr_sortN rfl (hu16 hr)) (by rfl) T.z_sorted (by decide +kernel) (pa_cons (pe_sn (hu8 hr) (own := [("one", 3)]) rfl sc_Unfolding_ahead.nd (pi_list (pv 2)) (blkOk_by (N := ["self", "name", "found", "one"]) (sc := defScope s_Unfolding_ahead) (by decide +kernel)) (fun _ _ _ _ _ => (pg_name (i := 3) sc_Unfolding_ahead.nd rfl (Or.inl rfl))) (fun _ _ _ _ _ => pts_nil) (fun _ _ _ _ _ => (pv 3))) pa_nil)))))), ?_⟩
  refine ⟨_, rfl, _, _, _, rfl, hU.ins, rfl, _, rfl, A, u, n, na, xs, rfl, hU, hn, hl, hfl, gp, fun H1 a1 s1 ⟨vs, h1, n1⟩ => ?_⟩
  refine ⟨_, rfl, _, _, .non, .lst (SqL.of h1) n1.dp, rfl, shaped_names xs, _, rfl, ?_⟩
  show if ((xs.map dN).any fun z => PyData.eqv z .none) = true then _ else _
  rw [no_none]
  refine iteF ⟨_, rfl, a1, rfl, ⟨_, SqL.of h1⟩, fun D hD => sn_list h1 n1 few hD (fun i x H2 Qn hx hS q => ⟨rfl, _, rfl, q⟩) fun H2 L hS hL hp hlen => ?_⟩
  refine ⟨D, L, rfl, hL, fun p h => SqT.of (hp p h).1, fun p h => hne _ (hp p h).2, fun M p hM lM hp2 => ?_⟩
  have s2 := same_new hp2 (.lst (M.map fun q => V.ref q.1))
  refine k0 _ p (M.map (·.2)) (s1.trans (hS.trans s2)) ⟨_, upd_same, nms_of (by rw [List.length_map, List.length_map]) fun i v m h3 h4 => ?_⟩ (fun y hy => ?_) (by rw [List.length_map, lM]; omega)
  · rw [List.getElem?_map] at h3 h4
    cases e : M[i]? with
    | none => rw [e] at h3; cases h3
    | some q =>
      rw [e] at h3 h4
      cases h3
      cases h4
      exact ⟨q.1, rfl, ((hp q (hM q (List.mem_of_getElem? e))).1).mono (Tk.same s2)⟩
  · obtain ⟨q, hq, rfl⟩ := List.mem_map.mp hy
    exact (hp q (hM q hq)).2
end
end K11
set_option Elab.async false
set_option linter.all false
set_option maxRecDepth 100000
set_option maxHeartbeats 4000000
namespace K11
open PySem PySem.Spec PyProof.Rows L2
/-- the expression that a statement works out when it is done, and the place where it stands -/
def Stm.ex : Stm → Option (Exp × Nat)
  | .set _ e => some (e, 2)
  | .add _ _ e => some (e, 3)
  | .cond e _ _ => some (e, 1)
  | .each _ e _ => some (e, 2)
  | .fold _ _ _ e _ => some (e, 4)
  | _ => none
theorem DS.ex {H : Hp} : ∀ {s : Stm} {v : V} {e : Exp} {n : Nat}, DS H s v → s.ex = some (e, n) → ∃ a xs ve, v = .ref a ∧ H a = some (.tup xs) ∧ atI xs (n : Int) = some ve ∧ DE H e ve
  | .set _ _, _, _, _, ⟨a, ve, e, h, he⟩, z => by cases z; exact ⟨a, _, ve, e, h, at2, he⟩
  | .add _ _ _, _, _, _, ⟨a, ve, e, h, he⟩, z => by cases z; exact ⟨a, _, ve, e, h, at3, he⟩
  | .cond _ _ _, _, _, _, ⟨a, ve, _, _, _, _, e, h, he, _⟩, z => by cases z; exact ⟨a, _, ve, e, h, at1, he⟩
  | .each _ _ _, _, _, _, ⟨a, ve, _, _, e, h, he, _⟩, z => by cases z; exact ⟨a, _, ve, e, h, at2, he⟩
  | .fold _ _ _ _ _, _, _, _, ⟨a, ve, _, e, h, he, _⟩, z => by cases z; exact ⟨a, _, ve, e, h, at4, he⟩
  | .fork _, _, _, _, _, z => by cases z
  | .start _ _, _, _, _, _, z => by cases z
  | .wait _, _, _, _, _, z => by cases z
theorem kd_ex (s : Stm) : inV (.str s.kd) [V.str "set", V.str "add", V.str "if", V.str "each", V.str "fold", V.str "leaf"] = s.ex.isSome := by cases s <;> rfl
theorem kd_leaf (s : Stm) : ¬ V.str s.kd = V.str "leaf" := by cases s <;> (intro z; exact absurd (V.str.inj z) (by dsimp only [Stm.kd]; decide))
abbrev placeL : List (Key × V) := [(Sum.inr "set", .int 2), (Sum.inr "add", .int 3), (Sum.inr "if", .int 1), (Sum.inr "each", .int 2), (Sum.inr "fold", .int 4)]
abbrev placeD : List (Key × V) := mergeK [] placeL
theorem place_at (s : Stm) {e : Exp} {n : Nat} (h : s.ex = some (e, n)) : valV placeD (Sum.inr s.kd) = some (.int (n : Int)) := by
  cases s <;> cases h <;> rfl
section
variable {P : Program} {w : World} {K : PySem.W.Frag} {mg : Str → Option Value} {base : Heap}
/-- what expression_of tells of the name n -/
inductive ExT (u : US) : Nm → Option (Exp × Sto) → Prop
  | no {q : Nm} {k : Nat} {x : BI} {s : Stm} : alook u.known (q ++ [(k : Int)]) = some ⟨s.kd, q ++ [(k : Int)], []⟩ → StAt u q k x s → s.ex = none → ExT u (q ++ [(k : Int)]) none
  | join {n f : Nm} : alook u.known n = some ⟨"join", f, []⟩ → ExT u n none
  | stm {q : Nm} {k : Nat} {x : BI} {s : Stm} {e : Exp} {i : Nat} : alook u.known (q ++ [(k : Int)]) = some ⟨s.kd, q ++ [(k : Int)], []⟩ → StAt u q k x s → s.ex = some (e, i) → ExT u (q ++ [(k : Int)]) (some (e, x.env))
  | leaf {n q : Nm} {k i : Nat} {x : BI} {y o j : Str} {e l : Exp} : alook u.known n = some ⟨"leaf", q ++ [(k : Int)], [(i : Int)]⟩ → StAt u q k x (.fold y o j e l) → x.env.length ≤ 1000 → ExT u n (some (l, aput x.env j (i : Int)))
def spExprOf : Sp := fun vs H Q _ => ∃ (A : AA) (u : US) (n : Nm) (na : Addr) (r : Option (Exp × Sto)), vs = [.ref A.u, .ref na] ∧ UT K A H u ∧ NM H n na ∧ ExT u n r ∧ (r = none → ∀ H', Same H H' → Q .non H') ∧
  ∀ e env, r = some (e, env) → ∀ H' t v ea, Same H H' → H' t = some (.tup [v, .ref ea]) → DE H' e v → ST H' env ea → Q (.ref t) H'
theorem sc_Unfolding_expression_of : FnScope ["self", "name", "kind", "first", "part", "statement", "env", "place"] ["self", "name"] (defScope s_Unfolding_expression_of) := ⟨rfl, rfl, rfl, by decide +kernel, rfl, by decide +kernel, by decide +kernel⟩
theorem ok_expression_of (T : Txt w K mg) (C_statement_of : C8.Met P w K mg base 1 (ad K "Unfolding") "statement_of" (spStatementOf (K := K)) []) (C_env_of : C8.Met P w K mg base 1 (ad K "Unfolding") "env_of" (spEnvOf (K := K)) []) :
    C8.Met P w K mg base 2 (ad K "Unfolding") "expression_of" (spExprOf (K := K)) [] := by
  refine T.f_Unfolding_expression_of.met T.c_Unfolding sc_Unfolding_expression_of (fun vs H Q E h => by obtain ⟨_, _, _, _, _, rfl, _⟩ := h; rfl) fun f0 cdv AR outer s H vs Q E hr h => ?_
  obtain ⟨A, u, n, na, r, rfl, hU, hn, ex, kn0, ks0⟩ := h
  refine ⟨_, (pss_cons (ps_asg (pe_dget (hu_of hr) (kfld K rfl (pv 0) rfl) (pv 1) (fun _ _ => rfl)) (kpg_tup (n := 3) K rfl rfl (pgs_cons (pg_name (i := 2) sc_Unfolding_expression_of.nd rfl (Or.inl rfl)) (pgs_cons (pg_name (i := 3) sc_Unfolding_expression_of.nd rfl (Or.inl rfl)) (pgs_cons (pg_name (i := 4) sc_Unfolding_expression_of.nd rfl (Or.inl rfl)) pgs_nil))))) 
    (pss_cons (ps_if (pt_cmpR (knotIn_seq K rfl) (pv 2) (pe_tup (pa_cons pe_str (pa_cons pe_str (pa_cons pe_str (pa_cons pe_str (pa_cons pe_str (pa_cons pe_str pa_nil))))))) (by rfl)) (pss_one (ps_ret pe_non)) pss_nil) 
    (pss_cons (ps_set (i := 5) sc_Unfolding_expression_of.nd rfl (Or.inl rfl) (C8.pe_mt C_statement_of hr (by omega) (pv 0) (pa_cons (pv 3) pa_nil))) 
    (pss_cons (ps_set (i := 6) sc_Unfolding_expression_of.nd rfl (Or.inl rfl) (C8.pe_mt C_env_of hr (by omega) (pv 0) (pa_cons (pv 3) pa_nil))) 
    (pss_cons (ps_if (pt_cmpR op_eq (pv 2) pe_str (nomark _)) (pss_one (ps_ret (pe_tup (pa_cons (pe_ix (kix_tup K rfl) (pv 5) pe_int (fun _ _ => rfl)) (pa_cons (pe_dstar (pv 6) (pe_ix (kix_tup K rfl) (pv 5) pe_int (fun _ _ => rfl)) (pe_ix (kix_tup K rfl) (pv 4) pe_int (fun _ _ => rfl))) pa_nil))))) pss_nil) 
    (pss_cons (ps_set (i := 7) sc_Unfolding_expression_of.nd rfl (Or.inl rfl) (pe_dget (hu_of hr) (pe_disp (pps_cons pe_str pe_int (pps_cons pe_str pe_int (pps_cons pe_str pe_int (pps_cons pe_str pe_int (pps_cons pe_str pe_int pps_nil))))) (by rfl) (by rfl) (fun z => by cases z) (by decide)) (pv 2) (fun _ _ => rfl))) 
    (pss_one (ps_ret (pe_tup (pa_cons (pe_ix (kix_tup K rfl) (pv 5) (pv 7) (fun _ _ => rfl)) (pa_cons (pv 6) pa_nil))))))))))), ?_⟩
  obtain ⟨kvk, hk, alk⟩ := hU.kw
  have go : ∀ {y : KI}, alook u.known n = some y → ∃ t f p, valV kvk (kn n) = some (.ref t) ∧ H t = some (.tup [.str y.kd, .ref f, .ref p]) ∧ NM H y.fst f ∧ NM H y.prt p := fun e => by
    obtain ⟨vk, hvk, t, f, p, rfl, h1, h2, h3⟩ := alk.look kn_inj _ e
    exact ⟨t, f, p, hvk, h1, h2, h3⟩
  cases ex with
  | @no q kk x st hkn hst hex =>
    obtain ⟨t, f, p, hv, ht, hf, hp⟩ := go hkn
    refine ⟨_, rfl, _, _, _, _, _, rfl, hU.ins, T.c_Unfolding, T.n_Unfolding_known, rfl, _, rfl, _, _, rfl, dget_t hk hn hv, t, _, rfl, SqT.of ht, rfl, _, _, rfl, _, _, rfl, _, _, rfl, rfl, ?_⟩
    refine ⟨_, rfl, le_line (by show 6 ≤ 1000; decide), fun p6 hp6 => ?_⟩
    have s1 := same_new hp6 (.tup [V.str "set", V.str "add", V.str "if", V.str "each", V.str "fold", V.str "leaf"])
    refine ⟨p6, _, rfl, .inr (SqT.of upd_same), rfl, rfl, _, rfl, ?_⟩
    show if (!inV (.str st.kd) [V.str "set", V.str "add", V.str "if", V.str "each", V.str "fold", V.str "leaf"]) = true then _ else _
    rw [kd_ex, hex]
    exact iteT (kn0 rfl _ s1)
  | @join _ g hkn =>
    obtain ⟨t, f, p, hv, ht, hf, hp⟩ := go hkn
    refine ⟨_, rfl, _, _, _, _, _, rfl, hU.ins, T.c_Unfolding, T.n_Unfolding_known, rfl, _, rfl, _, _, rfl, dget_t hk hn hv, t, _, rfl, SqT.of ht, rfl, _, _, rfl, _, _, rfl, _, _, rfl, rfl, ?_⟩
    refine ⟨_, rfl, le_line (by show 6 ≤ 1000; decide), fun p6 hp6 => ?_⟩
    have s1 := same_new hp6 (.tup [V.str "set", V.str "add", V.str "if", V.str "each", V.str "fold", V.str "leaf"])
    refine ⟨p6, _, rfl, .inr (SqT.of upd_same), rfl, rfl, _, rfl, ?_⟩
    show if (!inV (.str "join") [V.str "set", V.str "add", V.str "if", V.str "each", V.str "fold", V.str "leaf"]) = true then _ else _
    exact iteT (kn0 rfl _ s1)
  | @stm q kk x st e i hkn hst hex =>
    obtain ⟨t, f, p, hv, ht, hf, hp⟩ := go hkn
    refine ⟨_, rfl, _, _, _, _, _, rfl, hU.ins, T.c_Unfolding, T.n_Unfolding_known, rfl, _, rfl, _, _, rfl, dget_t hk hn hv, t, _, rfl, SqT.of ht, rfl, _, _, rfl, _, _, rfl, _, _, rfl, rfl, ?_⟩
    refine ⟨_, rfl, le_line (by show 6 ≤ 1000; decide), fun p6 hp6 => ?_⟩
    have s1 := same_new hp6 (.tup [V.str "set", V.str "add", V.str "if", V.str "each", V.str "fold", V.str "leaf"])
    refine ⟨p6, _, rfl, .inr (SqT.of upd_same), rfl, rfl, _, rfl, ?_⟩
    show if (!inV (.str st.kd) [V.str "set", V.str "add", V.str "if", V.str "each", V.str "fold", V.str "leaf"]) = true then _ else _
    rw [kd_ex, hex]
    refine iteF ?_
    have U1 := hU.same s1
    refine ⟨_, rfl, _, _, _, rfl, U1.ins, rfl, _, rfl, A, u, q, kk, f, x, st, rfl, U1, hf.mono (Tk.same s1), hst, fun H2 sv s2 dv => ?_⟩
    have s12 := s1.trans s2
    have U2 := hU.same s12
    refine ⟨_, rfl, _, _, _, rfl, U2.ins, rfl, _, rfl, A, u, q, kk, f, x, rfl, U2, hf.mono (Tk.same s12), hst.bl, fun H3 ea s3 hea _ => ?_⟩
    obtain ⟨a, xs, ve, rfl, ha, hat, de⟩ := (dv.mono (Tk.same s3)).ex hex
    refine ⟨_, rfl, rfl, _, rfl, iteDF (kd_leaf st) ?_⟩
    intro p7 hp7
    refine ⟨upd_same, placeL, rfl, by decide, ?_⟩
    rw [upd_upd]
    have s4 := same_new hp7 (.dK placeD)
    refine ⟨_, rfl, _, _, rfl, dget_k upd_same (place_at st hex), ?_⟩
    refine ⟨_, rfl, _, rfl, _, _, _, _, rfl, rfl, SqT.of (s4 _ _ ha), hat, _, rfl, le_line (by show 2 ≤ 1000; decide), fun p8 hp8 => ?_⟩
    have s5 := same_new hp8 (.tup [ve, V.ref ea])
    have s45 := s4.trans s5
    exact ks0 _ _ rfl _ p8 ve ea (s12.trans (s3.trans s45)) upd_same (de.mono (Tk.same s45)) (hea.same s45)
  | @leaf _ q kk i x y o j e l hkn hst hlen =>
    obtain ⟨t, f, p, hv, ht, hf, hp⟩ := go hkn
    refine ⟨_, rfl, _, _, _, _, _, rfl, hU.ins, T.c_Unfolding, T.n_Unfolding_known, rfl, _, rfl, _, _, rfl, dget_t hk hn hv, t, _, rfl, SqT.of ht, rfl, _, _, rfl, _, _, rfl, _, _, rfl, rfl, ?_⟩
    refine ⟨_, rfl, le_line (by show 6 ≤ 1000; decide), fun p6 hp6 => ?_⟩
    have s1 := same_new hp6 (.tup [V.str "set", V.str "add", V.str "if", V.str "each", V.str "fold", V.str "leaf"])
    refine ⟨p6, _, rfl, .inr (SqT.of upd_same), rfl, rfl, _, rfl, ?_⟩
    show if (!inV (.str "leaf") [V.str "set", V.str "add", V.str "if", V.str "each", V.str "fold", V.str "leaf"]) = true then _ else _
    refine iteF ?_
    have U1 := hU.same s1
    refine ⟨_, rfl, _, _, _, rfl, U1.ins, rfl, _, rfl, A, u, q, kk, f, x, _, rfl, U1, hf.mono (Tk.same s1), hst, fun H2 sv s2 dv => ?_⟩
    have s12 := s1.trans s2
    have U2 := hU.same s12
    refine ⟨_, rfl, _, _, _, rfl, U2.ins, rfl, _, rfl, A, u, q, kk, f, x, rfl, U2, hf.mono (Tk.same s12), hst.bl, fun H3 ea s3 hea _ => ?_⟩
    obtain ⟨a, ve, vl, rfl, ha, de, dl⟩ := dv.mono (Tk.same s3)
    refine ⟨_, rfl, rfl, _, rfl, iteD rfl ?_⟩
    obtain ⟨kve, hke, ale⟩ := hea
    refine ⟨_, rfl, _, _, _, _, rfl, rfl, SqT.of ha, at5, ?_⟩
    intro p7 hp7
    have s4 := same_new hp7 (.dK [])
    have hp3 := hp.mono (Tk.same (s12.trans (s3.trans s4)))
    refine ⟨_, rfl, ea, kve, rfl, upd_same, .inl (s4 _ _ hke), (ne_of_none hke hp7).symm, lt_line (by rw [ale.len]; exact hlen), fun q7 hq7 => ?_⟩
    rw [upd_upd] at hq7 ⊢
    have s5 := same_new hp7 (.dK kve)
    have s6 := same_new hq7 (.dK [])
    have s56 := s5.trans s6
    have ha6 := s56 _ _ ha
    have hp6' := hp.mono (Tk.same (s12.trans (s3.trans s56)))
    refine ⟨_, rfl, _, _, _, _, rfl, rfl, SqT.of ha6, at3, _, rfl, _, _, _, _, rfl, rfl, SqT.of hp6', at0, Sum.inr j, rfl, s6 _ _ upd_same, upd_same, ?_⟩
    rw [upd_upd]
    have hpq : q7 ≠ p7 := by
      intro z
      subst z
      rw [upd_same] at hq7
      cases hq7
    have hq3 : H3 q7 = none := by
      rw [upd_ne hpq] at hq7
      exact hq7
    have s7 : Same H3 (upd (upd (upd H3 p7 (.dK kve)) q7 (.dK [(Sum.inr j, V.int (i : Int))])) p7 (.dK (putK kve (Sum.inr j) (.int (i : Int))))) := same_put hp7 (same_put hq3 (same_new hp7 _) _) _
    refine ⟨le_line (by show 2 ≤ 1000; decide), fun p8 hp8 => ?_⟩
    have s8 := same_new hp8 (.tup [vl, V.ref p7])
    exact ks0 _ _ rfl _ p8 vl p7 (s12.trans (s3.trans (s7.trans s8))) upd_same (dl.mono (Tk.same (s7.trans s8))) ⟨_, s8 _ _ upd_same, ale.put inr_inj rfl⟩
end
end K11
set_option Elab.async false
set_option linter.all false
set_option maxRecDepth 100000
set_option maxHeartbeats 4000000
namespace K11
open PySem PySem.Spec PyProof.Rows L2
inductive ResOf (u : US) : Nm → Int → Prop
  | ex {n : Nm} {e : Exp} {env : Sto} {L : List Str} : ExT u n (some (e, env)) → BV env → EnvOk env L → WFE L e → e.dep < 3 → ResOf u n (evE u.st env e)
  | no {n : Nm} : ExT u n none → ResOf u n 0
  | pair {n q : Nm} {k lo hi : Nat} {a b : Int} {x : BI} {y o j : Str} {e l : Exp} : alook u.known n = some ⟨"pair", q ++ [(k : Int)], [(lo : Int), (hi : Int)]⟩ → lo + 1 < hi → hi ≤ 10 → StAt u q k x (.fold y o j e l) →
      alook u.done (pfn (q ++ [(k : Int)]) lo ((lo + hi) / 2)) = some a → alook u.done (pfn (q ++ [(k : Int)]) ((lo + hi) / 2) hi) = some b → InP a → InP b → ResOf u n (opd o a b)
  | keep {n f : Nm} {m : Nat} {v : Int} : alook u.known n = some ⟨"keep", f, []⟩ → alook u.times f = some m → m ≤ 10 → 0 < m → alook u.done (pfn f 0 m) = some v → ResOf u n v
  | keep0 {n f : Nm} {w : Int} : alook u.known n = some ⟨"keep", f, []⟩ → alook u.times f = some 0 → alook u.done f = some w → ResOf u n 0
theorem kd_pk (s : Stm) : inV (.str s.kd) [V.str "pair", V.str "keep"] = false := by cases s <;> rfl
theorem ExT.kn {u : US} {n : Nm} {r : Option (Exp × Sto)} (h : ExT u n r) : ∃ y, alook u.known n = some y ∧ inV (.str y.kd) [V.str "pair", V.str "keep"] = false := by
  cases h with
  | no h1 h2 h3 => exact ⟨_, h1, kd_pk _⟩
  | join h1 => exact ⟨_, h1, rfl⟩
  | stm h1 h2 h3 => exact ⟨_, h1, kd_pk _⟩
  | leaf h1 h2 h3 => exact ⟨_, h1, rfl⟩
section
variable {P : Program} {w : World} {K : PySem.W.Frag} {mg : Str → Option Value} {base : Heap}
def spResultBy : Sp := fun vs H Q _ => ∃ (A : AA) (u : US) (n : Nm) (na : Addr) (r : Int), vs = [.ref A.u, .ref na] ∧ UT K A H u ∧ NM H n na ∧ n.length ≤ 40 ∧ (∀ k, alook u.known n = some k → k.fst.length ≤ 40) ∧ BV u.st ∧ ResOf u n r ∧ ∀ H', Same H H' → Q (.int r) H'
theorem sc_Unfolding_result_by : FnScope ["self", "name", "kind", "first", "part", "ahead", "one", "told"] ["self", "name"] (defScope s_Unfolding_result_by) := ⟨rfl, rfl, rfl, by decide +kernel, rfl, by decide +kernel, by decide +kernel⟩
theorem ok_result_by (T : Txt w K mg) (C_statement_of : C8.Met P w K mg base 1 (ad K "Unfolding") "statement_of" (spStatementOf (K := K)) []) (C_ahead_with_gaps : C8.Met P w K mg base 14 (ad K "Unfolding") "ahead_with_gaps" (spGaps (K := K)) [])
    (C_expression_of : C8.Met P w K mg base 2 (ad K "Unfolding") "expression_of" (spExprOf (K := K)) []) (C_operated : C8.Cal P w K mg base 1 "operated" spOperated []) (C_worked_out : C8.Cal P w K mg base 4 "worked_out" (spWorked 3) []) :
    C8.Met P w K mg base 15 (ad K "Unfolding") "result_by" (spResultBy (K := K)) [] := by
  refine T.f_Unfolding_result_by.met T.c_Unfolding sc_Unfolding_result_by (fun vs H Q E h => by obtain ⟨_, _, _, _, _, rfl, _⟩ := h; rfl) fun f0 cdv AR outer s H vs Q E hr h => ?_
  obtain ⟨A, u, n, na, r, rfl, hU, hn, hl, hfl, bs, ro, k0⟩ := h
  refine ⟨_, (pss_cons (ps_asg (pe_dget (hu_of hr) (kfld K rfl (pv 0) rfl) (pv 1) (fun _ _ => rfl)) (kpg_tup (n := 3) K rfl rfl (pgs_cons (pg_name (i := 2) sc_Unfolding_result_by.nd rfl (Or.inl rfl)) (pgs_cons (pg_name (i := 3) sc_Unfolding_result_by.nd rfl (Or.inl rfl)) (pgs_cons (pg_name (i := 4) sc_Unfolding_result_by.nd rfl (Or.inl rfl)) pgs_nil))))) 
    (pss_cons (ps_if (pt_cmpR (kin_seq K rfl) (pv 2) (pe_tup (pa_cons pe_str (pa_cons pe_str pa_nil))) (by rfl)) 
      (pss_cons (ps_setLc (i := 5) (own := [("one", 6)]) rfl sc_Unfolding_result_by.nd rfl rfl (sw_true rfl rfl rfl (by decide +kernel)) (pi_list (C8.pe_mt C_ahead_with_gaps hr (by omega) (pv 0) (pa_cons (pv 1) pa_nil))) (blkOk_by (N := ["self", "name", "kind", "first", "part", "ahead", "one", "told"]) (sc := defScope s_Unfolding_result_by) (by decide +kernel)) (fun _ _ _ _ _ => (pg_name (i := 6) sc_Unfolding_result_by.nd rfl (Or.inl rfl))) (fun _ _ _ _ _ => pts_nil) (fun _ _ _ _ _ => (pe_dget (hu_of hr) (kfld K rfl (pv 0) rfl) (pv 6) (fun _ _ => rfl)))) 
      (pss_cons (ps_if (pt_cmpR op_eq (pv 2) pe_str (nomark _)) (pss_one (ps_ret (C8.pe_c C_operated hr (by omega) rfl (pa_cons (pe_ix (kix_tup K rfl) (C8.pe_mt C_statement_of hr (by omega) (pv 0) (pa_cons (pv 3) pa_nil)) pe_int (fun _ _ => rfl)) (pa_cons (pe_ix (kix_list K rfl) (pv 5) pe_int (fun _ _ => rfl)) (pa_cons (pe_ix (kix_list K rfl) (pv 5) pe_int (fun _ _ => rfl)) pa_nil)))))) pss_nil) 
      (pss_one (ps_ret (pe_ifExp (pt_cmpR op_gt (pe_dget (hu_of hr) (kfld K rfl (pv 0) rfl) (pv 3) (fun _ _ => rfl)) pe_int (nomark _)) (pe_ix (kix_list K rfl) (pv 5) pe_int (fun _ _ => rfl)) pe_int))))) pss_nil) 
    (pss_cons (ps_set (i := 7) sc_Unfolding_result_by.nd rfl (Or.inl rfl) (C8.pe_mt C_expression_of hr (by omega) (pv 0) (pa_cons (pv 1) pa_nil))) 
    (pss_one (ps_ret (pe_ifExp (pt_cmpR op_isN (pv 7) pe_non (nomark _)) pe_int (C8.pe_c C_worked_out hr (by omega) rfl (pa_cons (pe_ix (kix_tup K rfl) (pv 7) pe_int (fun _ _ => rfl)) (pa_cons (kfld K rfl (pv 0) rfl) (pa_cons (pe_ix (kix_tup K rfl) (pv 7) pe_int (fun _ _ => rfl)) pa_nil)))))))))), ?_⟩
  obtain ⟨kvk, hk, alk⟩ := hU.kw
  have go : ∀ {y : KI}, alook u.known n = some y → ∃ t f p, valV kvk (kn n) = some (.ref t) ∧ H t = some (.tup [.str y.kd, .ref f, .ref p]) ∧ NM H y.fst f ∧ NM H y.prt p := fun e => by
    obtain ⟨vk, hvk, t, f, p, rfl, h1, h2, h3⟩ := alk.look kn_inj _ e
    exact ⟨t, f, p, hvk, h1, h2, h3⟩
  -- the expression's way
  have way : ∀ {ro : Option (Exp × Sto)}, ExT u n ro → ∃ y t f p, alook u.known n = some y ∧ inV (.str y.kd) [V.str "pair", V.str "keep"] = false ∧ valV kvk (kn n) = some (.ref t) ∧ H t = some (.tup [.str y.kd, .ref f, .ref p]) := fun h => by
    obtain ⟨y, h1, h2⟩ := h.kn
    obtain ⟨t, f, p, h3, h4, _⟩ := go h1
    exact ⟨y, t, f, p, h1, h2, h3, h4⟩
  cases ro with
  | @no ex =>
    obtain ⟨y, t, f, p, h1, h2, h3, h4⟩ := way ex
    refine ⟨_, rfl, _, _, _, _, _, rfl, hU.ins, T.c_Unfolding, T.n_Unfolding_known, rfl, _, rfl, _, _, rfl, dget_t hk hn h3, t, _, rfl, SqT.of h4, rfl, _, _, rfl, _, _, rfl, _, _, rfl, rfl, ?_⟩
    refine ⟨_, rfl, le_line (by show 2 ≤ 1000; decide), fun p6 hp6 => ?_⟩
    have s1 := same_new hp6 (.tup [V.str "pair", V.str "keep"])
    refine ⟨p6, _, rfl, .inr (SqT.of upd_same), rfl, rfl, _, rfl, ?_⟩
    show if inV (.str y.kd) [V.str "pair", V.str "keep"] = true then _ else _
    rw [h2]
    have U1 := hU.same s1
    refine iteF ⟨_, rfl, _, _, _, rfl, U1.ins, rfl, _, rfl, A, u, n, na, none, rfl, U1, s1 _ _ hn, ex, fun _ H2 s2 => ?_, fun e env z => by cases z⟩
    exact ⟨_, rfl, rfl, _, rfl, iteT (k0 _ (s1.trans s2))⟩
  | @ex e env L ex bv eo wf hd =>
    obtain ⟨y, t, f, p, h1, h2, h3, h4⟩ := way ex
    refine ⟨_, rfl, _, _, _, _, _, rfl, hU.ins, T.c_Unfolding, T.n_Unfolding_known, rfl, _, rfl, _, _, rfl, dget_t hk hn h3, t, _, rfl, SqT.of h4, rfl, _, _, rfl, _, _, rfl, _, _, rfl, rfl, ?_⟩
    refine ⟨_, rfl, le_line (by show 2 ≤ 1000; decide), fun p6 hp6 => ?_⟩
    have s1 := same_new hp6 (.tup [V.str "pair", V.str "keep"])
    refine ⟨p6, _, rfl, .inr (SqT.of upd_same), rfl, rfl, _, rfl, ?_⟩
    show if inV (.str y.kd) [V.str "pair", V.str "keep"] = true then _ else _
    rw [h2]
    have U1 := hU.same s1
    refine iteF ⟨_, rfl, _, _, _, rfl, U1.ins, rfl, _, rfl, A, u, n, na, _, rfl, U1, s1 _ _ hn, ex, fun z => (by cases z), fun e' env' z H2 t2 v ea s2 ht2 de hea => ?_⟩
    cases z
    have U2 := U1.same s2
    refine ⟨_, rfl, rfl, _, rfl, iteDF (fun z => by cases z) ?_⟩
    refine ⟨_, rfl, _, _, _, _, rfl, rfl, SqT.of ht2, at0, _, rfl, _, _, _, _, _, rfl, U2.ins, T.c_Unfolding, T.n_Unfolding_store, rfl, _, rfl, _, _, _, _, rfl, rfl, SqT.of ht2, at1, v, A.s, ea, e, u.st, env, L, rfl, de, U2.st, hea, bs, bv, eo, wf, hd, k0 _ (s1.trans s2)⟩
  | @pair q kk lo hi a b x y o j e l hkn h1 h2 hst hda hdb ha hb =>
    obtain ⟨t, f, p, hv, ht, hf, hp⟩ := go hkn
    refine ⟨_, rfl, _, _, _, _, _, rfl, hU.ins, T.c_Unfolding, T.n_Unfolding_known, rfl, _, rfl, _, _, rfl, dget_t hk hn hv, t, _, rfl, SqT.of ht, rfl, _, _, rfl, _, _, rfl, _, _, rfl, rfl, ?_⟩
    refine ⟨_, rfl, le_line (by show 2 ≤ 1000; decide), fun p6 hp6 => ?_⟩
    have s1 := same_new hp6 (.tup [V.str "pair", V.str "keep"])
    refine ⟨p6, _, rfl, .inr (SqT.of upd_same), rfl, rfl, _, rfl, ?_⟩
    show if inV (.str "pair") [V.str "pair", V.str "keep"] = true then _ else _
    have U1 := hU.same s1
    refine iteT ⟨_, rfl, _, _, _, rfl, U1.ins, rfl, _, rfl, A, u, n, na, _, rfl, U1, s1 _ _ hn, hl, hfl, .pair hkn h1 h2, fun H2 a2 s2 ⟨vs, hv2, nv⟩ => ?_⟩
    have U2 := U1.same s2
    have lv := nv.len
    have val : ∀ (i : Nat) v, vs[i]? = some v → ∀ H3, Same H2 H3 → ∃ na', v = .ref na' ∧ ∃ nm, NM H3 nm na' ∧ alook u.done nm = some (if i = 0 then a else b) := by
      intro i v hv3 H3 s3
      obtain ⟨nm, na', hnm, rfl, hna⟩ := nv.get hv3
      refine ⟨na', rfl, nm, hna.mono (Tk.same s3), ?_⟩
      match i, hnm with
      | 0, e => cases e; exact hda
      | 1, e => cases e; exact hdb
      | _ + 2, e => simp at e
    refine ⟨a2, rfl, ⟨_, SqL.of hv2⟩, fun D hD => lc_pure (n := vs.length) (fun i => V.int (if i = 0 then a else b)) (lt_line (by rw [← lv]; show 2 ≤ 1000; decide)) hD (fun i H3 hi hS => Itl.go_of (hS _ _ hv2) hi) (fun _ hS => Itl.stop_of (hS _ _ hv2)) (fun i H3 v H' Qn hi hS yl k => ?_) fun H' hS hD' => ?_⟩
    · obtain ⟨rfl, hvi⟩ := Itl.yld_of (hS _ _ hv2) yl
      obtain ⟨na', rfl, nm, hna, hdn⟩ := val i v hvi H' hS
      have U3 := U2.same hS
      obtain ⟨kvd, hd, ald⟩ := U3.dn
      obtain ⟨vd, hvd, rfl⟩ := ald.look kn_inj _ hdn
      exact ⟨rfl, _, rfl, _, _, _, _, _, rfl, U3.ins, T.c_Unfolding, T.n_Unfolding_done, rfl, _, rfl, _, _, rfl, dget_t hd hna hvd, k _ (Same.refl _)⟩
    · have e2 : vs.length = 2 := lv.symm
      rw [e2] at hD'
      have hD2 : H' D = some (.lst [V.int a, V.int b]) := hD'
      have s12 := (s1.trans s2).trans hS
      have U3 := hU.same s12
      refine ⟨_, rfl, rfl, _, rfl, iteD rfl ?_⟩
      refine ⟨_, rfl, _, _, _, rfl, U3.ins, rfl, _, rfl, A, u, q, kk, f, x, _, rfl, U3, hf.mono (Tk.same s12), hst, fun H4 sv s4 dv => ?_⟩
      obtain ⟨sa, ve, vl, rfl, hsa, _⟩ := dv
      have hD4 := s4 _ _ hD2
      refine ⟨_, _, _, _, rfl, rfl, SqT.of hsa, at2, _, rfl, _, _, _, _, rfl, rfl, SqL.of hD4, at0, _, rfl, _, _, _, _, rfl, rfl, SqL.of hD4, at1, o, a, b, rfl, ha, hb, k0 _ (s12.trans s4)⟩
  | @keep f m v hkn htm hm hm0 hdv =>
    obtain ⟨t, fa, p, hv, ht, hf, hp⟩ := go hkn
    refine ⟨_, rfl, _, _, _, _, _, rfl, hU.ins, T.c_Unfolding, T.n_Unfolding_known, rfl, _, rfl, _, _, rfl, dget_t hk hn hv, t, _, rfl, SqT.of ht, rfl, _, _, rfl, _, _, rfl, _, _, rfl, rfl, ?_⟩
    refine ⟨_, rfl, le_line (by show 2 ≤ 1000; decide), fun p6 hp6 => ?_⟩
    have s1 := same_new hp6 (.tup [V.str "pair", V.str "keep"])
    refine ⟨p6, _, rfl, .inr (SqT.of upd_same), rfl, rfl, _, rfl, ?_⟩
    show if inV (.str "keep") [V.str "pair", V.str "keep"] = true then _ else _
    have U1 := hU.same s1
    refine iteT ⟨_, rfl, _, _, _, rfl, U1.ins, rfl, _, rfl, A, u, n, na, _, rfl, U1, s1 _ _ hn, hl, hfl, .keep hkn htm hm, fun H2 a2 s2 ⟨vs, hv2, nv⟩ => ?_⟩
    have U2 := U1.same s2
    have lv := nv.len
    rw [if_neg (by omega)] at nv
    refine ⟨a2, rfl, ⟨_, SqL.of hv2⟩, fun D hD => lc_pure (n := vs.length) (fun i => V.int r) (lt_line (by rw [← lv]; show 1 ≤ 1000; decide)) hD (fun i H3 hi hS => Itl.go_of (hS _ _ hv2) hi) (fun _ hS => Itl.stop_of (hS _ _ hv2)) (fun i H3 v H' Qn hi hS yl k => ?_) fun H' hS hD' => ?_⟩
    · obtain ⟨rfl, hvi⟩ := Itl.yld_of (hS _ _ hv2) yl
      obtain ⟨nm, na', hnm, rfl, hna⟩ := nv.get hvi
      have en : nm = pfn f 0 m := by
        match i, hnm with
        | 0, e => cases e; rfl
        | _ + 1, e => simp at e
      subst en
      have U3 := U2.same hS
      obtain ⟨kvd, hd, ald⟩ := U3.dn
      obtain ⟨vd, hvd, rfl⟩ := ald.look kn_inj _ hdv
      exact ⟨rfl, _, rfl, _, _, _, _, _, rfl, U3.ins, T.c_Unfolding, T.n_Unfolding_done, rfl, _, rfl, _, _, rfl, dget_t hd (hna.mono (Tk.same hS)) hvd, k _ (Same.refl _)⟩
    · have e2 : vs.length = 1 := lv.symm
      rw [e2] at hD'
      have hD2 : H' D = some (.lst [V.int r]) := hD'
      have s12 := (s1.trans s2).trans hS
      have U3 := hU.same s12
      obtain ⟨kvt, htt, alt⟩ := U3.tm
      obtain ⟨vt, hvt, rfl⟩ := alt.look kn_inj _ htm
      refine ⟨_, rfl, rfl, _, rfl, iteDF (by show ¬ V.str "keep" = V.str "pair"; decide) ?_⟩
      refine ⟨_, rfl, _, _, _, _, _, rfl, U3.ins, T.c_Unfolding, T.n_Unfolding_times, rfl, _, rfl, _, _, rfl, dget_t htt (hf.mono (Tk.same s12)) hvt, _, _, rfl, rfl, _, rfl, iteD (by omega) ?_⟩
      exact ⟨_, rfl, _, _, _, _, rfl, rfl, SqL.of hD2, at0, k0 _ s12⟩
  | @keep0 f wv hkn htm hdv =>
    obtain ⟨t, fa, p, hv, ht, hf, hp⟩ := go hkn
    refine ⟨_, rfl, _, _, _, _, _, rfl, hU.ins, T.c_Unfolding, T.n_Unfolding_known, rfl, _, rfl, _, _, rfl, dget_t hk hn hv, t, _, rfl, SqT.of ht, rfl, _, _, rfl, _, _, rfl, _, _, rfl, rfl, ?_⟩
    refine ⟨_, rfl, le_line (by show 2 ≤ 1000; decide), fun p6 hp6 => ?_⟩
    have s1 := same_new hp6 (.tup [V.str "pair", V.str "keep"])
    refine ⟨p6, _, rfl, .inr (SqT.of upd_same), rfl, rfl, _, rfl, ?_⟩
    show if inV (.str "keep") [V.str "pair", V.str "keep"] = true then _ else _
    have U1 := hU.same s1
    refine iteT ⟨_, rfl, _, _, _, rfl, U1.ins, rfl, _, rfl, A, u, n, na, _, rfl, U1, s1 _ _ hn, hl, hfl, .keep hkn htm (Nat.zero_le _), fun H2 a2 s2 ⟨vs, hv2, nv⟩ => ?_⟩
    have U2 := U1.same s2
    have lv := nv.len
    rw [if_pos rfl] at nv
    refine ⟨a2, rfl, ⟨_, SqL.of hv2⟩, fun D hD => lc_pure (n := vs.length) (fun i => V.int wv) (lt_line (by rw [← lv]; show 1 ≤ 1000; decide)) hD (fun i H3 hi hS => Itl.go_of (hS _ _ hv2) hi) (fun _ hS => Itl.stop_of (hS _ _ hv2)) (fun i H3 v H' Qn hi hS yl k => ?_) fun H' hS hD' => ?_⟩
    · obtain ⟨rfl, hvi⟩ := Itl.yld_of (hS _ _ hv2) yl
      obtain ⟨nm, na', hnm, rfl, hna⟩ := nv.get hvi
      have en : nm = f := by
        match i, hnm with
        | 0, e => cases e; rfl
        | _ + 1, e => simp at e
      subst en
      have U3 := U2.same hS
      obtain ⟨kvd, hd, ald⟩ := U3.dn
      obtain ⟨vd, hvd, rfl⟩ := ald.look kn_inj _ hdv
      exact ⟨rfl, _, rfl, _, _, _, _, _, rfl, U3.ins, T.c_Unfolding, T.n_Unfolding_done, rfl, _, rfl, _, _, rfl, dget_t hd (hna.mono (Tk.same hS)) hvd, k _ (Same.refl _)⟩
    · have s12 := (s1.trans s2).trans hS
      have U3 := hU.same s12
      obtain ⟨kvt, htt, alt⟩ := U3.tm
      obtain ⟨vt, hvt, rfl⟩ := alt.look kn_inj _ htm
      refine ⟨_, rfl, rfl, _, rfl, iteDF (by show ¬ V.str "keep" = V.str "pair"; decide) ?_⟩
      refine ⟨_, rfl, _, _, _, _, _, rfl, U3.ins, T.c_Unfolding, T.n_Unfolding_times, rfl, _, rfl, _, _, rfl, dget_t htt (hf.mono (Tk.same s12)) hvt, _, _, rfl, rfl, _, rfl, iteDF (by decide) (k0 _ s12)⟩
end
end K11
set_option Elab.async false
set_option linter.all false
set_option maxRecDepth 100000
set_option maxHeartbeats 4000000
namespace K11
open PySem PySem.Spec PyProof.Rows L2
/-! ### going on behind a statement, plainly -/
def loopU (u : US) (nm : Nm) (f : Nat → BI) : Nat → US
  | 0 => u
  | n + 1 => (loopU u nm f n).unf (nm ++ [(n : Int)]) (f n)
def goU (u : US) (nm q : Nm) (k : Int) (x : BI) (v : Int) : Stm → US
  | .cond _ a b => u.unf (nm ++ [if v ≠ 0 then 0 else 1]) ⟨if v ≠ 0 then a else b, x.env, some nm, some (q, k)⟩
  | .start _ b => u.unf (nm ++ [0]) ⟨b, x.env, some nm, some (q, k)⟩
  | .fork bs => let w := loopU { u with times := aput u.times nm bs.length } nm (fun i => ⟨bs.getD i [], x.env, some nm, some (q, k)⟩) bs.length
    { w with known := aput w.known (nm ++ [-1]) ⟨"join", nm, []⟩ }
  | .each y _ b => let w := loopU { u with times := aput u.times nm (v % 7).toNat } nm (fun i => ⟨b, aput x.env y (i : Int), some nm, some (q, k)⟩) (v % 7).toNat
    { w with known := aput w.known (nm ++ [-1]) ⟨"join", nm, []⟩ }
  | _ => u
theorem sz_unf (u : US) (q : Nm) (x : BI) : (u.unf q x).sz ≤ u.sz + x.stms.length + 1 := by
  have h1 := len_aput u.blocks q x
  have h2 := len_knowN q x.stms u.known x.stms.length
  unfold US.sz US.unf
  dsimp only
  omega
theorem sz_loopU (u : US) (nm : Nm) (f : Nat → BI) (c : Nat) (h : ∀ i, (f i).stms.length ≤ c) : ∀ n, (loopU u nm f n).sz ≤ u.sz + n * (c + 1)
  | 0 => by simp [loopU]
  | n + 1 => by
    have h1 := sz_loopU u nm f c h n
    have h2 := sz_unf (loopU u nm f n) (nm ++ [(n : Int)]) (f n)
    have h3 := h n
    have e : (n + 1) * (c + 1) = n * (c + 1) + (c + 1) := Nat.succ_mul ..
    show ((loopU u nm f n).unf _ _).sz ≤ _
    omega
/-- a block's statements are few -/
def Few (b : List Stm) : Prop := b.length ≤ 100
def Stm.few : Stm → Prop
  | .cond _ a b => Few a ∧ Few b
  | .fork bs => bs.length ≤ 10 ∧ ∀ b ∈ bs, Few b
  | .each _ _ b => Few b
  | .start _ b => Few b
  | _ => True
def Stm.goes : Stm → Bool
  | .cond _ _ _ => true
  | .fork _ => true
  | .each _ _ _ => true
  | .start _ _ => true
  | _ => false
section
variable {P : Program} {w : World} {K : PySem.W.Frag} {mg : Str → Option Value} {base : Heap}
theorem made_same {H1 H' : Hp} {p dx C : Addr} (hp : H1 p = none) (hdx : H1 dx = none) (k : Kp [p] (upd (upd H1 dx (.own p)) p (.ins C dx [])) H') : Same H1 H' :=
  Same.made hp hdx fun b o e ne => k b o e (by simp [ne])
def spGoOn : Sp := fun vs H Q _ => ∃ (A : AA) (u : US) (q : Nm) (k : Nat) (na : Addr) (x : BI) (s : Stm) (sv : V) (v : Int), vs = [.ref A.u, .ref na, sv, .int v] ∧ UT K A H u ∧ NM H (q ++ [(k : Int)]) na ∧ q.length ≤ 40 ∧ alook u.blocks q = some x ∧ x.env.length ≤ 1000 ∧ DS H s sv ∧ s.goes = true ∧ s.few ∧
  u.sz + 2000 < sizeLine ∧ ∀ H', Kp A.mut H H' → UT K A H' (goU u (q ++ [(k : Int)]) q k x v s) → Q .non H'
theorem sc_Unfolding_go_on : FnScope ["self", "name", "statement", "value", "around", "env", "b", "inner", "part"] ["self", "name", "statement", "value"] (defScope s_Unfolding_go_on) := ⟨rfl, rfl, rfl, by decide +kernel, rfl, by decide +kernel, by decide +kernel⟩
theorem ok_go_on (T : Txt w K mg) (C_env_of : C8.Met P w K mg base 1 (ad K "Unfolding") "env_of" (spEnvOf (K := K)) []) (C_unfold : C8.Met P w K mg base 1 (ad K "Unfolding") "unfold" (spUnfold (K := K)) []) (C_Block : C8.Mak P w K mg base 1 "Block" (ad K "Block") (spBlockInit (K := K)) []) :
    C8.Met P w K mg base 3 (ad K "Unfolding") "go_on" (spGoOn (K := K)) [] := by
  refine T.f_Unfolding_go_on.met T.c_Unfolding sc_Unfolding_go_on (fun vs H Q E h => by obtain ⟨_, _, _, _, _, _, _, _, _, rfl, _⟩ := h; rfl) fun f0 cdv AR outer s H vs Q E hr h => ?_
  obtain ⟨A, u, q, k, na, x, st, sv, v, rfl, hU, hn, hl, hbl, hex, ds, hgo, few, hz, k0⟩ := h
  refine ⟨_, (pss_cons (ps_set (i := 4) sc_Unfolding_go_on.nd rfl (Or.inl rfl) (pe_tup (pa_cons (pe_slice sl_initN (pv 1) po_none (po_some (pe_un un_neg pe_int))) (pa_cons (pe_ix (kix_tup K rfl) (pv 1) (pe_un un_neg pe_int) (fun _ _ => rfl)) pa_nil)))) 
    (pss_cons (ps_set (i := 5) sc_Unfolding_go_on.nd rfl (Or.inl rfl) (C8.pe_mt C_env_of hr (by omega) (pv 0) (pa_cons (pv 1) pa_nil))) 
    (pss_one (ps_if (pt_cmpR op_eq (pe_ix (kix_tup K rfl) (pv 2) pe_int (fun _ _ => rfl)) pe_str (nomark _)) 
      (pss_cons (ps_set (i := 6) sc_Unfolding_go_on.nd rfl (Or.inl rfl) (pe_ifExp (pt_cmpR op_ne (pv 3) pe_int (nomark _)) pe_int pe_int)) 
      (pss_one (ps_expr (C8.pe_mt C_unfold hr (by omega) (pv 0) (pa_cons (pe_op op_catN (pv 1) (pe_tup (pa_cons (pv 6) pa_nil))) (pa_cons (C8.pe_mk C_Block hr (by omega) rfl (pa_cons (pe_ix (kix_tup K rfl) (pv 2) (pe_op op_add pe_int (pv 6)) (fun _ _ => rfl)) (pa_cons (pv 5) (pa_cons (pv 1) (pa_cons (pv 4) pa_nil))))) pa_nil)))))) (pss_one (ps_if (pt_cmpR op_eq (pe_ix (kix_tup K rfl) (pv 2) pe_int (fun _ _ => rfl)) pe_str (nomark _)) (pss_one (ps_expr (C8.pe_mt C_unfold hr (by omega) (pv 0) (pa_cons (pe_op op_catN (pv 1) (pe_tup (pa_cons pe_int pa_nil))) (pa_cons (C8.pe_mk C_Block hr (by omega) rfl (pa_cons (pe_ix (kix_tup K rfl) (pv 2) pe_int (fun _ _ => rfl)) (pa_cons (pv 5) (pa_cons (pv 1) (pa_cons (pv 4) pa_nil))))) pa_nil))))) 
        (pss_cons (ps_dput (hu_of hr) (kfld K rfl (pv 0) rfl) (pv 1) (pe_ifExp (pt_cmpR op_eq (pe_ix (kix_tup K rfl) (pv 2) pe_int (fun _ _ => rfl)) pe_str (nomark _)) (pe_callB (klen_seq K rfl) (by rfl) T.z_len (by decide +kernel) (pa_cons (pe_ix (kix_tup K rfl) (pv 2) pe_int (fun _ _ => rfl)) pa_nil)) (pe_op op_mod (pv 3) (C8.pe_gc rfl T.MOST_TIMES))) rfl) 
        (pss_cons (ps_for PassesOwn.never rfl (pi_range1 rfl T.z_range (pa_cons (pe_dget (hu_of hr) (kfld K rfl (pv 0) rfl) (pv 1) (fun _ _ => rfl)) pa_nil)) (pg_name (i := 6) sc_Unfolding_go_on.nd rfl (Or.inl rfl)) 
          (pss_cons (ps_set (i := 7) sc_Unfolding_go_on.nd rfl (Or.inl rfl) (pe_ifExp (pt_cmpR op_eq (pe_ix (kix_tup K rfl) (pv 2) pe_int (fun _ _ => rfl)) pe_str (nomark _)) (pv 5) (pe_dstar (pv 5) (pe_ix (kix_tup K rfl) (pv 2) pe_int (fun _ _ => rfl)) (pv 6)))) 
          (pss_cons (ps_set (i := 8) sc_Unfolding_go_on.nd rfl (Or.inl rfl) (pe_ifExp (pt_cmpR op_eq (pe_ix (kix_tup K rfl) (pv 2) pe_int (fun _ _ => rfl)) pe_str (nomark _)) (pe_ix (kix_tup K rfl) (pe_ix (kix_tup K rfl) (pv 2) pe_int (fun _ _ => rfl)) (pv 6) (fun _ _ => rfl)) (pe_ix (kix_tup K rfl) (pv 2) pe_int (fun _ _ => rfl)))) 
          (pss_one (ps_expr (C8.pe_mt C_unfold hr (by omega) (pv 0) (pa_cons (pe_op op_catN (pv 1) (pe_tup (pa_cons (pv 6) pa_nil))) (pa_cons (C8.pe_mk C_Block hr (by omega) rfl (pa_cons (pv 8) (pa_cons (pv 7) (pa_cons (pv 1) (pa_cons (pv 4) pa_nil))))) pa_nil)))))))) 
        (pss_one (ps_dput (hu_of hr) (kfld K rfl (pv 0) rfl) (pe_op op_catN (pv 1) (pe_tup (pa_cons (pe_un un_neg pe_int) pa_nil))) (pe_tup (pa_cons pe_str (pa_cons (pv 1) (pa_cons (pe_tup pa_nil) pa_nil)))) rfl)))))))))), ?_⟩
  -- around, env
  refine ⟨_, rfl, 1, rfl, _, rfl, na, q, k, rfl, rfl, rfl, hn, fun H1 qa s1 hq1 => ?_⟩
  obtain ⟨xs, hx, lx⟩ := nm_last (hn.mono (Tk.same s1))
  refine ⟨_, rfl, 1, rfl, _, _, _, _, rfl, rfl, SqT.of hx, lx, le_line (by show 2 ≤ 1000; decide), fun ta hta => ?_⟩
  have s2 := same_new hta (.tup [V.ref qa, V.int (k : Int)])
  have s12 := s1.trans s2
  have U2 := hU.same s12
  refine ⟨_, rfl, _, _, _, rfl, U2.ins, rfl, _, rfl, A, u, q, k, na, x, rfl, U2, hn.mono (Tk.same s12), hbl, fun H3 ea s3 hea nea => ?_⟩
  have s13 := s12.trans s3
  have U3 := hU.same s13
  have ds3 := ds.mono (Tk.same s13)
  have hn3 := hn.mono (Tk.same s13)
  have hta3 : H3 ta = some (.tup [V.ref qa, V.int (k : Int)]) := s3 _ _ upd_same
  have hqa3 : NM H3 q qa := hq1.mono (Tk.same (s2.trans s3))
  have KP : Kp A.mut H H3 := Kp.same s13
  clear hx lx ds hn hq1
  have lnm : (q ++ [(k : Int)]).length = q.length + 1 := by rw [List.length_append]; rfl
  -- making a block and unfolding it: from any heap that keeps H3
  have mkb : ∀ (H4 : Hp) (u4 : US) (m : Int) (ma sa ee : Addr) (xb : BI) (Q' : VK), Kp A.mut H3 H4 → UT K A H4 u4 → NM H4 (q ++ [(k : Int)] ++ [m]) ma → DB H4 xb.stms sa → ST H4 xb.env ee → ee ∉ A.mut → xb.hang = some (q ++ [(k : Int)]) → xb.arnd = some (q, (k : Int)) → Few xb.stms → u4.sz + xb.stms.length + 1 < sizeLine →
      (∀ H', Kp A.mut H3 H' → UT K A H' (u4.unf (q ++ [(k : Int)] ++ [m]) xb) → Q' .non H') →
      ∀ p dx, H4 p = none → H4 dx = none → dx ≠ p → (spBlockInit (K := K)) [.ref p, .ref sa, .ref ee, .ref na, .ref ta] (upd (upd H4 dx (.own p)) p (.ins (ad K "Block") dx [])) (fun v H2 => v = .non ∧ (spUnfold (K := K)) [.ref A.u, .ref ma, .ref p] H2 Q' C8.E0) C8.E0 := by
    intro H4 u4 m ma sa ee xb Q' k4 U4 hm4 db4 st4 ne4 hh ha fw hz4 kq p dx hp hdx hne
    refine ⟨p, dx, _, _, _, _, _, rfl, rfl, upd_same, fun H5 k5 h5 => ⟨rfl, ?_⟩⟩
    have s45 := made_same hp hdx k5
    have t34 := tk_of U3.dd k4
    have t35 := t34.trans (Tk.same s45)
    refine ⟨A, u4, _, ma, xb, .ref p, rfl, U4.same s45, hm4.mono (Tk.same s45), by rw [List.length_append, lnm]; show q.length + 1 + 1 ≤ 100; omega, ⟨p, dx, sa, ee, _, _, rfl, h5, db4.mono (Tk.same s45), ne4, st4.same s45, ?_, ?_⟩, fw, hz4, fun H6 k6 u6 => kq H6 (k4.trans ((Kp.same s45).trans k6)) u6⟩
    · rw [hh]; exact ⟨na, rfl, hn3.mono t35⟩
    · rw [ha]; exact ⟨ta, qa, rfl, t35 _ _ hta3, hqa3.mono t35⟩
  cases st with
  | set _ _ => cases hgo
  | add _ _ _ => cases hgo
  | fold _ _ _ _ _ => cases hgo
  | wait _ => cases hgo
  | cond e a b =>
    obtain ⟨sa, ve, vb, vc, xb, xc, rfl, hsa, de, hvb, db, hvc, dc⟩ := ds3
    refine ⟨_, rfl, _, _, _, _, rfl, rfl, SqT.of hsa, at0, rfl, _, rfl, iteD (by decide) ?_⟩
    have fin : ∀ m : Int, m = (if v ≠ 0 then 0 else 1) → ∀ (va : Addr) (bb : List Stm), bb = (if v ≠ 0 then a else b) → DB H3 bb va → ∀ p, H3 p = none → rCatN (.ref na) (.ref p) (upd H3 p (.tup [V.int m])) fun y H4 => ∀ p dx, H4 p = none → H4 dx = none → dx ≠ p → (spBlockInit (K := K)) [.ref p, .ref va, .ref ea, .ref na, .ref ta] (upd (upd H4 dx (.own p)) p (.ins (ad K "Block") dx [])) (fun z H2 => z = .non ∧ (spUnfold (K := K)) [.ref A.u, y, .ref p] H2 (fun _ H' => Q .non H') C8.E0) C8.E0 := by
      intro m em va bb eb hdb p hp
      have s4 := same_new hp (.tup [V.int m])
      refine ⟨_, [m], na, p, rfl, rfl, s4 _ _ hn3, upd_same, by simp, by rw [lnm]; show q.length + 1 + 1 ≤ 1000; omega, fun H5 r5 s5 n5 => ?_⟩
      have s45 := s4.trans s5
      have fb : Few bb := by rw [eb]; split; exact few.1; exact few.2
      refine mkb H5 u m r5 va ea ⟨bb, x.env, some (q ++ [(k : Int)]), some (q, (k : Int))⟩ _ (Kp.same s45) (U3.same s45) n5 (hdb.mono (Tk.same s45)) (hea.same s45) nea rfl rfl fb (by unfold Few at fb; show u.sz + bb.length + 1 < _; omega) fun H' k' u' => k0 H' (KP.trans k') ?_
      subst em eb
      exact u'
    refine ⟨_, rfl, rfl, _, rfl, ?_⟩
    by_cases c : v = 0
    · refine iteN (by rw [c]) ?_
      refine ⟨_, rfl, _, _, _, rfl, U3.ins, rfl, _, rfl, _, rfl, le_line (by show 1 ≤ 1000; decide), fun p hp => ?_⟩
      have f1 := fin 1 (by rw [if_neg (fun z => z c)]) vc b (by rw [if_neg (fun z => z c)]) ⟨xc, hvc, dc⟩ p hp
      obtain ⟨qq, mm, a1, b1, e1, e2, h1, h2, h3, h4, h5⟩ := f1
      refine ⟨qq, mm, a1, b1, e1, e2, h1, h2, h3, h4, fun H' r s n => ?_⟩
      have hsa4 := s _ _ ((same_new hp (.tup [V.int 1])) _ _ hsa)
      refine ⟨_, rfl, _, rfl, _, _, rfl, rfl, _, _, _, _, rfl, rfl, SqT.of hsa4, at3, _, rfl, _, rfl, _, rfl, h5 H' r s n⟩
    · refine iteNF (fun z => c (V.int.inj z)) ?_
      refine ⟨_, rfl, _, _, _, rfl, U3.ins, rfl, _, rfl, _, rfl, le_line (by show 1 ≤ 1000; decide), fun p hp => ?_⟩
      have f1 := fin 0 (by rw [if_pos c]) vb a (by rw [if_pos c]) ⟨xb, hvb, db⟩ p hp
      obtain ⟨qq, mm, a1, b1, e1, e2, h1, h2, h3, h4, h5⟩ := f1
      refine ⟨qq, mm, a1, b1, e1, e2, h1, h2, h3, h4, fun H' r s n => ?_⟩
      have hsa4 := s _ _ ((same_new hp (.tup [V.int 0])) _ _ hsa)
      refine ⟨_, rfl, _, rfl, _, _, rfl, rfl, _, _, _, _, rfl, rfl, SqT.of hsa4, at2, _, rfl, _, rfl, _, rfl, h5 H' r s n⟩
  | start t b =>
    obtain ⟨sa, vb, xb, rfl, hsa, hvb, db⟩ := ds3
    refine ⟨_, rfl, _, _, _, _, rfl, rfl, SqT.of hsa, at0, rfl, _, rfl, iteDF (by decide) ?_⟩
    refine ⟨_, rfl, _, _, _, _, rfl, rfl, SqT.of hsa, at0, rfl, _, rfl, iteD (by decide) ?_⟩
    refine ⟨_, rfl, _, _, _, rfl, U3.ins, rfl, _, rfl, le_line (by show 1 ≤ 1000; decide), fun p hp => ?_⟩
    have s4 := same_new hp (.tup [V.int 0])
    refine ⟨_, [0], na, p, rfl, rfl, s4 _ _ hn3, upd_same, by simp, by rw [lnm]; show q.length + 1 + 1 ≤ 1000; omega, fun H5 r5 s5 n5 => ?_⟩
    have s45 := s4.trans s5
    have hsa5 := s45 _ _ hsa
    refine ⟨_, rfl, _, _, _, _, rfl, rfl, SqT.of hsa5, at2, _, rfl, _, rfl, _, rfl, ?_⟩
    exact mkb H5 u 0 r5 vb ea ⟨b, x.env, some (q ++ [(k : Int)]), some (q, (k : Int))⟩ _ (Kp.same s45) (U3.same s45) n5 (DB.mono (Tk.same s45) ⟨xb, hvb, db⟩) (hea.same s45) nea rfl rfl few (by have : b.length ≤ 100 := few; show u.sz + b.length + 1 < _; omega) fun H' k' u' => k0 H' (KP.trans k') u'
  | fork bs =>
    obtain ⟨sa, vb, xs, rfl, hsa, hvb, dbs⟩ := ds3
    have lbs := dbs.length
    refine ⟨_, rfl, _, _, _, _, rfl, rfl, SqT.of hsa, at0, rfl, _, rfl, iteDF (by decide) ?_⟩
    refine ⟨_, rfl, _, _, _, _, rfl, rfl, SqT.of hsa, at0, rfl, _, rfl, iteDF (by decide) ?_⟩
    refine ⟨_, rfl, _, _, _, _, rfl, rfl, SqT.of hsa, at0, rfl, _, rfl, iteD rfl ⟨_, rfl, _, _, _, _, rfl, rfl, SqT.of hsa, at1, _, _, rfl, .inr (SqT.of hvb), ?_⟩⟩
    obtain ⟨kvt, htt, alt⟩ := U3.tm
    refine ⟨_, rfl, _, _, _, _, _, rfl, U3.ins, T.c_Unfolding, T.n_Unfolding_times, rfl, _, rfl, _, _, rfl, dput_t htt hn3 (by rw [alt.len]; unfold US.sz at hz; omega), ?_⟩
    have U4 := U3.putT (n := q ++ [(k : Int)]) (x := xs.length) kvt htt alt
    have K4 : Kp A.mut H3 (upd H3 A.t (.dT (putK kvt (kn (q ++ [(k : Int)])) (.int (xs.length : Int))))) := Kp.upd (by simp [AA.mut])
    have T4 := tk_of U3.dd K4
    have D4 := U4.dd
    generalize upd H3 A.t (.dT (putK kvt (kn (q ++ [(k : Int)])) (.int (xs.length : Int)))) = H4 at U4 K4 T4 D4
    obtain ⟨kvt4, htt4, alt4⟩ := U4.tm
    obtain ⟨vt, hvt, rfl⟩ := alt4.look kn_inj (q ++ [(k : Int)]) (alook_self _ _ _)
    have l10 := few.1
    refine ⟨_, rfl, _, _, _, _, _, rfl, U4.ins, T.c_Unfolding, T.n_Unfolding_times, rfl, _, rfl, _, _, rfl, dget_t htt4 (hn3.mono T4) hvt, _, rfl, by omega, by omega, ?_⟩
    have en : ((xs.length : Nat) : Int).toNat = xs.length := by omega
    rw [en]
    have zl : ∀ i, i ≤ xs.length → (loopU { u with times := aput u.times (q ++ [(k : Int)]) xs.length } (q ++ [(k : Int)]) (fun i => ⟨bs.getD i [], x.env, some (q ++ [(k : Int)]), some (q, (k : Int))⟩) i).sz + 101 < sizeLine := by
      intro i hi
      have h1 := sz_loopU { u with times := aput u.times (q ++ [(k : Int)]) xs.length } (q ++ [(k : Int)]) (fun i => ⟨bs.getD i [], x.env, some (q ++ [(k : Int)]), some (q, (k : Int))⟩) 100 (fun i => by
        show (bs.getD i []).length ≤ 100
        rw [List.getD_eq_getElem?_getD]
        cases e : bs[i]? with
        | none => exact Nat.zero_le _
        | some b => exact few.2 b (List.mem_of_getElem? e)) i
      have h2 : ({ u with times := aput u.times (q ++ [(k : Int)]) xs.length } : US).sz ≤ u.sz + 1 := by
        have := len_aput u.times (q ++ [(k : Int)]) xs.length
        unfold US.sz
        dsimp only
        omega
      have h3 : i * (100 + 1) ≤ 10 * 101 := Nat.mul_le_mul (by omega) (Nat.le_refl _)
      omega
    refine for_range (lo := 0) (n := xs.length) (fun i σ H' => (∃ c6 c7 c8, σ = [some (.ref A.u), some (.ref na), some (.ref sa), some (.int v), some (.ref ta), some (.ref ea), c6, c7, c8]) ∧ Kp A.mut H3 H' ∧
      UT K A H' (loopU { u with times := aput u.times (q ++ [(k : Int)]) xs.length } (q ++ [(k : Int)]) (fun i => ⟨bs.getD i [], x.env, some (q ++ [(k : Int)]), some (q, (k : Int))⟩) i)) ⟨⟨_, _, _, rfl⟩, K4, U4⟩ (fun i σ H5 hi hp => ?_) fun σ H5 hp => ?_
    · obtain ⟨⟨c6, c7, c8, rfl⟩, K5, U5⟩ := hp
      have T5 := tk_of U3.dd K5
      have hsa5 := T5 _ _ hsa
      refine ⟨_, rfl, _, _, _, _, rfl, rfl, SqT.of hsa5, at0, rfl, _, rfl, iteD rfl ⟨_, rfl, ?_⟩⟩
      obtain ⟨b, hb⟩ : ∃ b, bs[i]? = some b := ⟨_, List.getElem?_eq_getElem (by omega)⟩
      obtain ⟨ba, hba, dba⟩ := dbs.at hb
      have e0 : (0 + (i : Nat) : Int) = ((i : Nat) : Int) := by omega
      refine ⟨_, rfl, _, _, _, _, rfl, rfl, SqT.of hsa5, at0, rfl, _, rfl, iteD rfl ⟨_, rfl, _, _, _, _, rfl, rfl, SqT.of hsa5, at1, _, rfl, _, _, _, _, rfl, rfl, SqT.of (T5 _ _ hvb), by rw [e0]; exact atI_nat hba, ?_⟩⟩
      refine ⟨_, rfl, _, _, _, rfl, U5.ins, rfl, _, rfl, _, rfl, le_line (by show 1 ≤ 1000; decide), fun p hp => ?_⟩
      have s6 := same_new hp (.tup [V.int (0 + (i : Nat) : Int)])
      refine ⟨_, [(0 + (i : Nat) : Int)], na, p, rfl, rfl, s6 _ _ (hn3.mono T5), upd_same, by simp, by rw [lnm]; show q.length + 1 + 1 ≤ 1000; omega, fun H7 r7 s7 n7 => ?_⟩
      have s67 := s6.trans s7
      have K7 := K5.trans (Kp.same s67)
      refine ⟨_, rfl, _, rfl, _, rfl, _, rfl, ?_⟩
      have fb : Few b := few.2 b (List.mem_of_getElem? hb)
      have eb : bs.getD i [] = b := by rw [List.getD_eq_getElem?_getD, hb]; rfl
      have z5 := zl i (by omega)
      refine mkb H7 _ (0 + (i : Nat) : Int) r7 ba ea ⟨b, x.env, some (q ++ [(k : Int)]), some (q, (k : Int))⟩ (fun _ H' => (∃ c6 c7 c8, [some (V.ref A.u), some (V.ref na), some (V.ref sa), some (V.int v), some (V.ref ta), some (V.ref ea), some (V.int (0 + (i : Nat) : Int)), some (V.ref ea), some (V.ref ba)] = [some (.ref A.u), some (.ref na), some (.ref sa), some (.int v), some (.ref ta), some (.ref ea), c6, c7, c8]) ∧ Kp A.mut H3 H' ∧ UT K A H' (loopU { u with times := aput u.times (q ++ [(k : Int)]) xs.length } (q ++ [(k : Int)]) (fun i => ⟨bs.getD i [], x.env, some (q ++ [(k : Int)]), some (q, (k : Int))⟩) (i + 1))) K7 (U5.same s67) n7 (dba.mono (T5.trans (Tk.same s67))) ((hea.kp K5 nea).same s67) nea rfl rfl fb (by unfold Few at fb; show _ + b.length + 1 < _; omega) fun H' k' u' => ⟨⟨_, _, _, rfl⟩, k', ?_⟩
      show UT K A H' ((loopU _ _ _ i).unf (q ++ [(k : Int)] ++ [((i : Nat) : Int)]) ⟨bs.getD i [], x.env, some (q ++ [(k : Int)]), some (q, (k : Int))⟩)
      rw [eb, ← e0]
      exact u'
    · obtain ⟨⟨c6, c7, c8, rfl⟩, K5, U5⟩ := hp
      have T5 := tk_of U3.dd K5
      have z5 := zl xs.length (Nat.le_refl _)
      refine ⟨_, rfl, le_line (by show 0 ≤ 1000; decide), fun p0 hp0 => ⟨le_line (by show 3 ≤ 1000; decide), fun p1 hp1 => ?_⟩⟩
      have s6 := same_new hp0 (.tup [])
      have s7 := same_new hp1 (.tup [V.str "join", V.ref na, V.ref p0])
      have s67 := s6.trans s7
      have U7 := U5.same s67
      have hn7 := hn3.mono (T5.trans (Tk.same s67))
      have rk : RK (upd (upd H5 p0 (.tup [])) p1 (.tup [V.str "join", V.ref na, V.ref p0])) ⟨"join", q ++ [(k : Int)], []⟩ (.ref p1) := ⟨p1, na, p0, rfl, upd_same, hn7, s7 _ _ upd_same⟩
      have K7 := K5.trans (Kp.same s67)
      generalize upd (upd H5 p0 (.tup [])) p1 (.tup [V.str "join", V.ref na, V.ref p0]) = H7 at U7 hn7 rk K7
      obtain ⟨kvk, hkk, alk⟩ := U7.kw
      refine ⟨_, rfl, _, _, _, _, _, rfl, U7.ins, T.c_Unfolding, T.n_Unfolding_known, rfl, _, rfl, _, rfl, le_line (by show 1 ≤ 1000; decide), fun p2 hp2 => ?_⟩
      have s8 := same_new hp2 (.tup [V.int (-1)])
      refine ⟨_, [-1], na, p2, rfl, rfl, s8 _ _ hn7, upd_same, by simp, by rw [lnm]; show q.length + 1 + 1 ≤ 1000; omega, fun H9 r9 s9 n9 => ?_⟩
      have s89 := s8.trans s9
      have al9 := alk.mono fun a b z => RK.mono (Tk.same s89) z
      refine ⟨_, _, rfl, dput_t (s89 _ _ hkk) n9 (by rw [alk.len]; unfold US.sz at z5; omega), ?_⟩
      have U9 := (U7.same s89).putW (n := q ++ [(k : Int)] ++ [-1]) (x := ⟨"join", q ++ [(k : Int)], []⟩) kvk (s89 _ _ hkk) al9 (rk.mono (Tk.same s89))
      refine k0 _ (KP.trans ((K7.trans (Kp.same s89)).trans (Kp.upd (by simp [AA.mut])))) ?_
      simp only [goU, ← lbs]
      exact U9
  | each y e b =>
    obtain ⟨sa, ve, vb, xb, rfl, hsa, de, hvb, db⟩ := ds3
    refine ⟨_, rfl, _, _, _, _, rfl, rfl, SqT.of hsa, at0, rfl, _, rfl, iteDF (by decide) ?_⟩
    refine ⟨_, rfl, _, _, _, _, rfl, rfl, SqT.of hsa, at0, rfl, _, rfl, iteDF (by decide) ?_⟩
    have en : v % 7 = (((v % 7).toNat : Nat) : Int) := by omega
    have l7 : (v % 7).toNat < 7 := by omega
    refine ⟨_, rfl, _, _, _, _, rfl, rfl, SqT.of hsa, at0, rfl, _, rfl, iteDF (by decide) ⟨_, rfl, _, _, rfl, rfl, (by show (0 : Int) < 7; decide), ?_⟩⟩
    generalize hm : (v % 7).toNat = m at en l7
    obtain ⟨kvt, htt, alt⟩ := U3.tm
    refine ⟨_, rfl, _, _, _, _, _, rfl, U3.ins, T.c_Unfolding, T.n_Unfolding_times, rfl, _, rfl, _, _, rfl, dput_t (v := .int (v % 7)) htt hn3 (by rw [alt.len]; unfold US.sz at hz; omega), ?_⟩
    rw [en]
    have U4 := U3.putT (n := q ++ [(k : Int)]) (x := m) kvt htt alt
    have K4 : Kp A.mut H3 (upd H3 A.t (.dT (putK kvt (kn (q ++ [(k : Int)])) (.int (m : Int))))) := Kp.upd (by simp [AA.mut])
    have T4 := tk_of U3.dd K4
    generalize upd H3 A.t (.dT (putK kvt (kn (q ++ [(k : Int)])) (.int (m : Int)))) = H4 at U4 K4 T4
    obtain ⟨kvt4, htt4, alt4⟩ := U4.tm
    obtain ⟨vt, hvt, rfl⟩ := alt4.look kn_inj (q ++ [(k : Int)]) (alook_self _ _ _)
    refine ⟨_, rfl, _, _, _, _, _, rfl, U4.ins, T.c_Unfolding, T.n_Unfolding_times, rfl, _, rfl, _, _, rfl, dget_t htt4 (hn3.mono T4) hvt, _, rfl, by omega, by omega, ?_⟩
    have en2 : ((m : Nat) : Int).toNat = m := by omega
    rw [en2]
    have fb : b.length ≤ 100 := few
    have zl : ∀ i, i ≤ m → (loopU { u with times := aput u.times (q ++ [(k : Int)]) m } (q ++ [(k : Int)]) (fun i => ⟨b, aput x.env y (i : Int), some (q ++ [(k : Int)]), some (q, (k : Int))⟩) i).sz + 101 < sizeLine := by
      intro i hi
      have h1 := sz_loopU { u with times := aput u.times (q ++ [(k : Int)]) m } (q ++ [(k : Int)]) (fun i => ⟨b, aput x.env y (i : Int), some (q ++ [(k : Int)]), some (q, (k : Int))⟩) 100 (fun i => fb) i
      have h2 : ({ u with times := aput u.times (q ++ [(k : Int)]) m } : US).sz ≤ u.sz + 1 := by
        have := len_aput u.times (q ++ [(k : Int)]) m
        unfold US.sz
        dsimp only
        omega
      have h3 : i * (100 + 1) ≤ 10 * 101 := Nat.mul_le_mul (by omega) (Nat.le_refl _)
      omega
    refine for_range (lo := 0) (n := m) (fun i σ H' => (∃ c6 c7 c8, σ = [some (.ref A.u), some (.ref na), some (.ref sa), some (.int v), some (.ref ta), some (.ref ea), c6, c7, c8]) ∧ Kp A.mut H3 H' ∧
      UT K A H' (loopU { u with times := aput u.times (q ++ [(k : Int)]) m } (q ++ [(k : Int)]) (fun i => ⟨b, aput x.env y (i : Int), some (q ++ [(k : Int)]), some (q, (k : Int))⟩) i)) ⟨⟨_, _, _, rfl⟩, K4, U4⟩ (fun i σ H5 hi hp => ?_) fun σ H5 hp => ?_
    · obtain ⟨⟨c6, c7, c8, rfl⟩, K5, U5⟩ := hp
      have T5 := tk_of U3.dd K5
      have hsa5 := T5 _ _ hsa
      have e0 : (0 + (i : Nat) : Int) = ((i : Nat) : Int) := by omega
      obtain ⟨kve, hke, ale⟩ := hea.kp K5 nea
      refine ⟨_, rfl, _, _, _, _, rfl, rfl, SqT.of hsa5, at0, rfl, _, rfl, iteDF (by decide) ?_⟩
      intro p7 hp7
      have s4 := same_new hp7 (.dK [])
      refine ⟨_, rfl, ea, kve, rfl, upd_same, .inl (s4 _ _ hke), (ne_of_none hke hp7).symm, lt_line (by rw [ale.len]; exact hex), fun q7 hq7 => ?_⟩
      rw [upd_upd] at hq7 ⊢
      have s5 := same_new hp7 (.dK kve)
      have s6 := same_new hq7 (.dK [])
      have s56 := s5.trans s6
      have ha6 := s56 _ _ hsa5
      refine ⟨_, rfl, _, _, _, _, rfl, rfl, SqT.of ha6, at1, _, rfl, Sum.inr y, rfl, s6 _ _ upd_same, upd_same, ?_⟩
      rw [upd_upd]
      have hpq : q7 ≠ p7 := by
        intro z
        subst z
        rw [upd_same] at hq7
        cases hq7
      have hq3 : H5 q7 = none := by
        rw [upd_ne hpq] at hq7
        exact hq7
      have s7 : Same H5 (upd (upd (upd H5 p7 (.dK kve)) q7 (.dK [(Sum.inr y, V.int (0 + (i : Nat) : Int))])) p7 (.dK (putK kve (Sum.inr y) (.int (0 + (i : Nat) : Int))))) := same_put hp7 (same_put hq3 (same_new hp7 _) _) _
      have np7 : p7 ∉ A.mut := U5.dd.none hp7
      have he7 : ST (upd (upd (upd H5 p7 (.dK kve)) q7 (.dK [(Sum.inr y, V.int (0 + (i : Nat) : Int))])) p7 (.dK (putK kve (Sum.inr y) (.int (0 + (i : Nat) : Int))))) (aput x.env y (0 + (i : Nat) : Int)) p7 := ⟨_, upd_same, ale.put inr_inj rfl⟩
      generalize upd (upd (upd H5 p7 (.dK kve)) q7 (.dK [(Sum.inr y, V.int (0 + (i : Nat) : Int))])) p7 (.dK (putK kve (Sum.inr y) (.int (0 + (i : Nat) : Int)))) = H8 at s7 he7
      have hsa8 := s7 _ _ hsa5
      refine ⟨_, rfl, _, _, _, _, rfl, rfl, SqT.of hsa8, at0, rfl, _, rfl, iteDF (by decide) ⟨_, rfl, _, _, _, _, rfl, rfl, SqT.of hsa8, at3, ?_⟩⟩
      have U8 := U5.same s7
      refine ⟨_, rfl, _, _, _, rfl, U8.ins, rfl, _, rfl, _, rfl, le_line (by show 1 ≤ 1000; decide), fun p hp => ?_⟩
      have s8 := same_new hp (.tup [V.int (0 + (i : Nat) : Int)])
      refine ⟨_, [(0 + (i : Nat) : Int)], na, p, rfl, rfl, s8 _ _ (s7 _ _ (hn3.mono T5)), upd_same, by simp, by rw [lnm]; show q.length + 1 + 1 ≤ 1000; omega, fun H9 r9 s9 n9 => ?_⟩
      have s89 := s8.trans s9
      have s79 := s7.trans s89
      have K9 := K5.trans (Kp.same s79)
      refine ⟨_, rfl, _, rfl, _, rfl, _, rfl, ?_⟩
      have z5 := zl i (by omega)
      refine mkb H9 _ (0 + (i : Nat) : Int) r9 vb p7 ⟨b, aput x.env y (0 + (i : Nat) : Int), some (q ++ [(k : Int)]), some (q, (k : Int))⟩ (fun _ H' => (∃ c6 c7 c8, [some (V.ref A.u), some (V.ref na), some (V.ref sa), some (V.int v), some (V.ref ta), some (V.ref ea), some (V.int (0 + (i : Nat) : Int)), some (V.ref p7), some (V.ref vb)] = [some (.ref A.u), some (.ref na), some (.ref sa), some (.int v), some (.ref ta), some (.ref ea), c6, c7, c8]) ∧ Kp A.mut H3 H' ∧ UT K A H' (loopU { u with times := aput u.times (q ++ [(k : Int)]) m } (q ++ [(k : Int)]) (fun i => ⟨b, aput x.env y (i : Int), some (q ++ [(k : Int)]), some (q, (k : Int))⟩) (i + 1))) K9 (U5.same s79) n9 (DB.mono (T5.trans (Tk.same s79)) ⟨xb, hvb, db⟩) (he7.same s89) np7 rfl rfl few (by show _ + b.length + 1 < _; omega) fun H' k' u' => ⟨⟨_, _, _, rfl⟩, k', ?_⟩
      show UT K A H' ((loopU _ _ _ i).unf (q ++ [(k : Int)] ++ [((i : Nat) : Int)]) ⟨b, aput x.env y ((i : Nat) : Int), some (q ++ [(k : Int)]), some (q, (k : Int))⟩)
      rw [← e0]
      exact u'
    · obtain ⟨⟨c6, c7, c8, rfl⟩, K5, U5⟩ := hp
      have T5 := tk_of U3.dd K5
      have z5 := zl m (Nat.le_refl _)
      refine ⟨_, rfl, le_line (by show 0 ≤ 1000; decide), fun p0 hp0 => ⟨le_line (by show 3 ≤ 1000; decide), fun p1 hp1 => ?_⟩⟩
      have s6 := same_new hp0 (.tup [])
      have s7 := same_new hp1 (.tup [V.str "join", V.ref na, V.ref p0])
      have s67 := s6.trans s7
      have U7 := U5.same s67
      have hn7 := hn3.mono (T5.trans (Tk.same s67))
      have rk : RK (upd (upd H5 p0 (.tup [])) p1 (.tup [V.str "join", V.ref na, V.ref p0])) ⟨"join", q ++ [(k : Int)], []⟩ (.ref p1) := ⟨p1, na, p0, rfl, upd_same, hn7, s7 _ _ upd_same⟩
      have K7 := K5.trans (Kp.same s67)
      generalize upd (upd H5 p0 (.tup [])) p1 (.tup [V.str "join", V.ref na, V.ref p0]) = H7 at U7 hn7 rk K7
      obtain ⟨kvk, hkk, alk⟩ := U7.kw
      refine ⟨_, rfl, _, _, _, _, _, rfl, U7.ins, T.c_Unfolding, T.n_Unfolding_known, rfl, _, rfl, _, rfl, le_line (by show 1 ≤ 1000; decide), fun p2 hp2 => ?_⟩
      have s8 := same_new hp2 (.tup [V.int (-1)])
      refine ⟨_, [-1], na, p2, rfl, rfl, s8 _ _ hn7, upd_same, by simp, by rw [lnm]; show q.length + 1 + 1 ≤ 1000; omega, fun H9 r9 s9 n9 => ?_⟩
      have s89 := s8.trans s9
      have al9 := alk.mono fun a b z => RK.mono (Tk.same s89) z
      refine ⟨_, _, rfl, dput_t (s89 _ _ hkk) n9 (by rw [alk.len]; unfold US.sz at z5; omega), ?_⟩
      have U9 := (U7.same s89).putW (n := q ++ [(k : Int)] ++ [-1]) (x := ⟨"join", q ++ [(k : Int)], []⟩) kvk (s89 _ _ hkk) al9 (rk.mono (Tk.same s89))
      refine k0 _ (KP.trans ((K7.trans (Kp.same s89)).trans (Kp.upd (by simp [AA.mut])))) ?_
      unfold goU
      rw [hm]
      exact U9
end
end K11
set_option Elab.async false
set_option linter.all false
set_option maxRecDepth 100000
set_option maxHeartbeats 4000000
namespace K11
open PySem PySem.Spec PyProof.Rows L2
def kdOf (p : Nm) : Str := if p.length = 1 then "leaf" else "pair"
def partN (nm : Nm) (ps : List Nm) (l : List (Nm × KI)) : Nat → List (Nm × KI)
  | 0 => l
  | n + 1 => match ps[n]? with
    | some p => aput (partN nm ps l n) (nm ++ p) ⟨kdOf p, nm, p⟩
    | none => partN nm ps l n
theorem partN_succ {nm : Nm} {ps : List Nm} {l : List (Nm × KI)} {n : Nat} {p : Nm} (h : ps[n]? = some p) : partN nm ps l (n + 1) = aput (partN nm ps l n) (nm ++ p) ⟨kdOf p, nm, p⟩ := by
  show (match ps[n]? with
    | some p => aput (partN nm ps l n) (nm ++ p) ⟨kdOf p, nm, p⟩
    | none => partN nm ps l n) = _
  rw [h]
theorem len_partN (nm : Nm) (ps : List Nm) (l : List (Nm × KI)) : ∀ n, (partN nm ps l n).length ≤ l.length + n
  | 0 => Nat.le_refl _
  | n + 1 => by
    have h := len_partN nm ps l n
    cases e : ps[n]? with
    | none =>
      show (match ps[n]? with
        | some p => aput (partN nm ps l n) (nm ++ p) ⟨kdOf p, nm, p⟩
        | none => partN nm ps l n).length ≤ _
      rw [e]
      show (partN nm ps l n).length ≤ _
      omega
    | some p =>
      rw [partN_succ e]
      have := len_aput (partN nm ps l n) (nm ++ p) ⟨kdOf p, nm, p⟩
      omega
theorem parts_ne : ∀ (k lo hi : Nat) (p : Nm), p ∈ parts k lo hi → p ≠ [] ∧ p.length ≤ 2
  | 0, _, _, p, h => by cases h
  | k + 1, lo, hi, p, h => by
    unfold parts at h
    split at h
    · obtain ⟨i, _, rfl⟩ := List.mem_map.mp h
      exact ⟨by simp, by simp⟩
    · rcases List.mem_append.mp h with h | h
      · rcases List.mem_append.mp h with h | h
        · exact parts_ne k _ _ p h
        · exact parts_ne k _ _ p h
      · rw [List.mem_singleton.mp h]
        exact ⟨by simp, by simp⟩
def foldU (u : US) (nm : Nm) (v : Int) : US :=
  { u with times := aput u.times nm (v % 7).toNat, known := aput (partN nm (parts 7 0 (v % 7).toNat) u.known (parts 7 0 (v % 7).toNat).length) (nm ++ [-1]) ⟨"keep", nm, []⟩ }
/-- what do(n) makes of u, the deed's result being r -/
structure DoR (u : US) (n : Nm) (r : Int) (u' : US) : Prop where
  ex : ∃ (kd : Str) (f p q : Nm) (k : Nat) (x : BI) (s : Stm) (u1 : US), alook u.known n = some ⟨kd, f, p⟩ ∧ f = q ++ [(k : Int)] ∧ StAt u q k x s ∧ x.env.length ≤ 1000 ∧ s.few ∧ q.length ≤ 39 ∧
    ((inV (.str kd) [V.str "set", V.str "keep"] = true ∧ ∃ y, (∀ H v, DS H s v → ∃ a xs, v = .ref a ∧ H a = some (.tup xs) ∧ atI xs 1 = some (.str y)) ∧ u1 = { u with st := aput u.st y r }) ∨
      (inV (.str kd) [V.str "set", V.str "keep"] = false ∧ kd = "add" ∧ ∃ y o e, s = .add y o e ∧ u1 = { u with st := aput u.st y (opd o ((alook u.st y).getD 0) r) }) ∨
      (inV (.str kd) [V.str "set", V.str "keep"] = false ∧ kd ≠ "add" ∧ u1 = u)) ∧
    ((inV (.str kd) [V.str "if", V.str "fork", V.str "each", V.str "start"] = true ∧ s.goes = true ∧ n = f ∧ u' = goU { u1 with done := aput u1.done n r } n q k x r s) ∨
      (inV (.str kd) [V.str "if", V.str "fork", V.str "each", V.str "start"] = false ∧ kd = "fold" ∧ u' = foldU { u1 with done := aput u1.done n r } n r) ∨
      (inV (.str kd) [V.str "if", V.str "fork", V.str "each", V.str "start"] = false ∧ kd ≠ "fold" ∧ u' = { u1 with done := aput u1.done n r }))
section
variable {P : Program} {w : World} {K : PySem.W.Frag} {mg : Str → Option Value} {base : Heap}
def spGoFold : Sp := fun vs H Q _ => ∃ (A : AA) (u : US) (n : Nm) (na : Addr) (v : Int), vs = [.ref A.u, .ref na, .int v] ∧ UT K A H u ∧ NM H n na ∧ n.length ≤ 40 ∧ u.sz + 2000 < sizeLine ∧ ∀ H', Kp A.mut H H' → UT K A H' (foldU u n v) → Q .non H'
theorem sc_Unfolding_go_on_with_fold : FnScope ["self", "name", "value", "many", "part"] ["self", "name", "value"] (defScope s_Unfolding_go_on_with_fold) := ⟨rfl, rfl, rfl, by decide +kernel, rfl, by decide +kernel, by decide +kernel⟩
theorem ok_go_on_with_fold (T : Txt w K mg) (C_parts_of_fold : C8.Cal P w K mg base 7 "parts_of_fold" (spParts 7) []) : C8.Met P w K mg base 8 (ad K "Unfolding") "go_on_with_fold" (spGoFold (K := K)) [] := by
  refine T.f_Unfolding_go_on_with_fold.met T.c_Unfolding sc_Unfolding_go_on_with_fold (fun vs H Q E h => by obtain ⟨_, _, _, _, _, rfl, _⟩ := h; rfl) fun f0 cdv AR outer s H vs Q E hr h => ?_
  obtain ⟨A, u, n, na, v, rfl, hU, hn, hl, hz, k0⟩ := h
  refine ⟨_, (pss_cons (ps_set (i := 3) sc_Unfolding_go_on_with_fold.nd rfl (Or.inl rfl) (pe_op op_mod (pv 2) (C8.pe_gc rfl T.MOST_TIMES))) 
    (pss_cons (ps_dput (hu_of hr) (kfld K rfl (pv 0) rfl) (pv 1) (pv 3) rfl) 
    (pss_cons (ps_for PassesOwn.never rfl (pi_list (C8.pe_c C_parts_of_fold hr (by omega) rfl (pa_cons pe_int (pa_cons (pv 3) pa_nil)))) (pg_name (i := 4) sc_Unfolding_go_on_with_fold.nd rfl (Or.inl rfl)) (pss_one (ps_dput (hu_of hr) (kfld K rfl (pv 0) rfl) (pe_op op_catN (pv 1) (pv 4)) (pe_tup (pa_cons (pe_ifExp (pt_cmpR op_eq (pe_callB (klen_seq K rfl) (by rfl) T.z_len (by decide +kernel) (pa_cons (pv 4) pa_nil)) pe_int (nomark _)) pe_str pe_str) (pa_cons (pv 1) (pa_cons (pv 4) pa_nil)))) rfl))) 
    (pss_one (ps_dput (hu_of hr) (kfld K rfl (pv 0) rfl) (pe_op op_catN (pv 1) (pe_tup (pa_cons (pe_un un_neg pe_int) pa_nil))) (pe_tup (pa_cons pe_str (pa_cons (pv 1) (pa_cons (pe_tup pa_nil) pa_nil)))) rfl))))), ?_⟩
  have en : v % 7 = (((v % 7).toNat : Nat) : Int) := by omega
  have l7 : (v % 7).toNat < 7 := by omega
  refine ⟨_, rfl, _, _, rfl, rfl, (by show (0 : Int) < 7; decide), ?_⟩
  unfold foldU at k0
  generalize hm : (v % 7).toNat = m at en l7 k0
  obtain ⟨kvt, htt, alt⟩ := hU.tm
  refine ⟨_, rfl, _, rfl, _, _, _, _, _, rfl, hU.ins, T.c_Unfolding, T.n_Unfolding_times, rfl, _, rfl, _, _, rfl, dput_t (v := .int (v % 7)) htt hn (by rw [alt.len]; unfold US.sz at hz; omega), ?_⟩
  have U4 := hU.putT (n := n) (x := m) kvt htt alt
  have K4 : Kp A.mut H (upd H A.t (.dT (putK kvt (kn n) (.int (m : Int))))) := Kp.upd (by simp [AA.mut])
  rw [← en] at U4 K4
  have T4 := tk_of hU.dd K4
  generalize upd H A.t (.dT (putK kvt (kn n) (.int (v % 7)))) = H4 at U4 K4 T4
  refine ⟨_, rfl, 0, m, congrArg (fun z => [V.int 0, V.int z]) en, Nat.zero_le _, by omega, by omega, by omega, fun H5 la s5 _ ⟨vs, hv5, nv⟩ => ?_⟩
  have lv := nv.len
  have lp := len_parts 7 0 m
  have U5 := U4.same s5
  have T5 := T4.trans (Tk.same s5)
  refine ⟨la, rfl, ⟨_, SqL.of hv5⟩, for_list (xs := vs) (fun i σ H' => (∃ c4, σ = [some (.ref A.u), some (.ref na), some (.int v), some (.int (v % 7)), c4]) ∧ Kp A.mut H5 H' ∧ UT K A H' { u with times := aput u.times n m, known := partN n (parts 7 0 m) u.known i }) ⟨⟨_, rfl⟩, Kp.refl _ _, U5⟩
    (fun i σ H' _ h => SqL.of (h.2.1 _ _ hv5 (U5.dd.lst hv5))) (fun i pv σ H6 hx h => ?_) fun σ H6 h => ?_⟩
  · obtain ⟨⟨c4, rfl⟩, K6, U6⟩ := h
    obtain ⟨p, pa, hp, rfl, hpa⟩ := nv.get hx
    have hi : i < vs.length := (List.getElem?_eq_some_iff.mp hx).1
    obtain ⟨pne, pl⟩ := parts_ne 7 0 m p (List.mem_of_getElem? hp)
    have T6 := tk_of U5.dd K6
    have hpa6 := hpa.mono T6
    have hn6 := hn.mono (T5.trans T6)
    have lk := len_partN n (parts 7 0 m) u.known i
    refine ⟨_, rfl, _, _, rfl, .inr (SqT.of hpa6), rfl, _, rfl, ?_⟩
    have e1 : (p.map V.int).length = p.length := List.length_map _
    have rest : ∀ kd : Str, kd = kdOf p → (le : 3 ≤ sizeLine) → ∀ p3, H6 p3 = none → ∀ (Q' : Hp → Prop), (∀ H', Kp A.mut H5 H' → UT K A H' { u with times := aput u.times n m, known := partN n (parts 7 0 m) u.known (i + 1) } → Q' H') →
        UT K A (upd H6 p3 (.tup [.str kd, .ref na, .ref pa])) { u with times := aput u.times n m, known := partN n (parts 7 0 m) u.known i } ∧ rCatN (.ref na) (.ref pa) (upd H6 p3 (.tup [.str kd, .ref na, .ref pa])) fun y H7 => ∃ a H8, (V.ref A.k) = .ref a ∧ DPut H7 a y (.ref p3) H8 ∧ Q' H8 := by
      intro kd ek le p3 hp3 Q' kq
      have s7 := same_new hp3 (.tup [V.str kd, V.ref na, V.ref pa])
      have U7 := U6.same s7
      have rk : RK (upd H6 p3 (.tup [V.str kd, V.ref na, V.ref pa])) ⟨kdOf p, n, p⟩ (.ref p3) := ⟨p3, na, pa, rfl, by rw [upd_same, ek], hn6.mono (Tk.same s7), hpa6.mono (Tk.same s7)⟩
      refine ⟨U7, n, p, na, pa, rfl, rfl, s7 _ _ hn6, s7 _ _ hpa6, pne, by omega, fun H8 r8 s8 n8 => ?_⟩
      obtain ⟨kvk, hkk, alk⟩ := U7.kw
      have al8 := alk.mono fun a b z => RK.mono (Tk.same s8) z
      refine ⟨_, _, rfl, dput_t (s8 _ _ hkk) n8 (by rw [alk.len]; show (partN n (parts 7 0 m) u.known i).length < _; unfold US.sz at hz; omega), kq _ ((K6.trans (Kp.same (s7.trans s8))).trans (Kp.upd (by simp [AA.mut]))) ?_⟩
      have U9 := (U7.same s8).putW (n := n ++ p) (x := ⟨kdOf p, n, p⟩) kvk (s8 _ _ hkk) al8 (rk.mono (Tk.same s8))
      rw [partN_succ hp]
      exact U9
    by_cases c : p.length = 1
    · refine iteD (by rw [e1, c]; rfl) ⟨_, rfl, _, rfl, le_line (by show 3 ≤ 1000; decide), fun p3 hp3 => ?_⟩
      obtain ⟨U7, r7⟩ := rest "leaf" (by unfold kdOf; rw [if_pos c]) (le_line (by show 3 ≤ 1000; decide)) p3 hp3 (fun H' => (∃ c4, [some (V.ref A.u), some (V.ref na), some (V.int v), some (V.int (v % 7)), some (V.ref pa)] = [some (.ref A.u), some (.ref na), some (.int v), some (.int (v % 7)), c4]) ∧ Kp A.mut H5 H' ∧ UT K A H' { u with times := aput u.times n m, known := partN n (parts 7 0 m) u.known (i + 1) }) fun H' k' u' => ⟨⟨_, rfl⟩, k', u'⟩
      exact ⟨_, rfl, _, _, _, _, _, rfl, U7.ins, T.c_Unfolding, T.n_Unfolding_known, rfl, _, rfl, _, rfl, r7⟩
    · refine iteDF (fun z => c (by have := V.int.inj z; omega)) ⟨_, rfl, _, rfl, le_line (by show 3 ≤ 1000; decide), fun p3 hp3 => ?_⟩
      obtain ⟨U7, r7⟩ := rest "pair" (by unfold kdOf; rw [if_neg c]) (le_line (by show 3 ≤ 1000; decide)) p3 hp3 (fun H' => (∃ c4, [some (V.ref A.u), some (V.ref na), some (V.int v), some (V.int (v % 7)), some (V.ref pa)] = [some (.ref A.u), some (.ref na), some (.int v), some (.int (v % 7)), c4]) ∧ Kp A.mut H5 H' ∧ UT K A H' { u with times := aput u.times n m, known := partN n (parts 7 0 m) u.known (i + 1) }) fun H' k' u' => ⟨⟨_, rfl⟩, k', u'⟩
      exact ⟨_, rfl, _, _, _, _, _, rfl, U7.ins, T.c_Unfolding, T.n_Unfolding_known, rfl, _, rfl, _, rfl, r7⟩
  · obtain ⟨⟨c4, rfl⟩, K6, U6⟩ := h
    have T6 := tk_of U5.dd K6
    have hn6 := hn.mono (T5.trans T6)
    have lk := len_partN n (parts 7 0 m) u.known vs.length
    refine ⟨_, rfl, le_line (by show 0 ≤ 1000; decide), fun p0 hp0 => ⟨le_line (by show 3 ≤ 1000; decide), fun p1 hp1 => ?_⟩⟩
    have s6 := same_new hp0 (.tup [])
    have s7 := same_new hp1 (.tup [V.str "keep", V.ref na, V.ref p0])
    have s67 := s6.trans s7
    have U7 := U6.same s67
    have hn7 := hn6.mono (Tk.same s67)
    have rk : RK (upd (upd H6 p0 (.tup [])) p1 (.tup [V.str "keep", V.ref na, V.ref p0])) ⟨"keep", n, []⟩ (.ref p1) := ⟨p1, na, p0, rfl, upd_same, hn7, s7 _ _ upd_same⟩
    have K7 := K6.trans (Kp.same s67)
    generalize upd (upd H6 p0 (.tup [])) p1 (.tup [V.str "keep", V.ref na, V.ref p0]) = H7 at U7 hn7 rk K7
    obtain ⟨kvk, hkk, alk⟩ := U7.kw
    refine ⟨_, rfl, _, _, _, _, _, rfl, U7.ins, T.c_Unfolding, T.n_Unfolding_known, rfl, _, rfl, _, rfl, le_line (by show 1 ≤ 1000; decide), fun p2 hp2 => ?_⟩
    have s8 := same_new hp2 (.tup [V.int (-1)])
    refine ⟨_, [-1], na, p2, rfl, rfl, s8 _ _ hn7, upd_same, by simp, by simp; omega, fun H9 r9 s9 n9 => ?_⟩
    have s89 := s8.trans s9
    have al9 := alk.mono fun a b z => RK.mono (Tk.same s89) z
    refine ⟨_, _, rfl, dput_t (s89 _ _ hkk) n9 (by rw [alk.len]; show (partN n (parts 7 0 m) u.known vs.length).length < _; unfold US.sz at hz; omega), ?_⟩
    have U9 := (U7.same s89).putW (n := n ++ [-1]) (x := ⟨"keep", n, []⟩) kvk (s89 _ _ hkk) al9 (rk.mono (Tk.same s89))
    refine k0 _ (K4.trans ((Kp.same s5).trans ((K7.trans (Kp.same s89)).trans (Kp.upd (by simp [AA.mut]))))) ?_
    rw [lv]
    exact U9
end
end K11
set_option Elab.async false
set_option linter.all false
set_option maxRecDepth 100000
set_option maxHeartbeats 4000000
namespace K11
open PySem PySem.Spec PyProof.Rows L2
/-! ### sorted of texts, however many -/
def srt (xs : List Str) : List Str := xs.mergeSort fun a b => decide (a.cps.toList ≤ b.cps.toList)
theorem strs_each : ∀ {xs : List Str} {vs : List Value}, Vals (xs.map V.str) vs → PySem.W.EachIs (fun (v : Value) (x : Str) => ∃ t, v = Value.str x t) vs xs
  | [], _, .nil => .nil
  | _ :: _, _, .cons r t => .cons r (strs_each t)
theorem each_strs : ∀ {vs : List Value} {xs : List Str}, PySem.W.EachIs (fun (v : Value) (x : Str) => ∃ t, v = Value.str x t) vs xs → Vals (xs.map V.str) vs
  | _, _, .nil => .nil
  | _, _, .cons r t => .cons r (each_strs t)
theorem each_read {h : Heap} : ∀ {vs : List Value} {xs : List Str}, PySem.W.EachIs (fun (v : Value) (x : Str) => ∃ t, v = Value.str x t) vs xs → PySem.W.EachIs (fun v x => ∃ as, Reads h v (.str x) as) vs xs
  | _, _, .nil => .nil
  | _, _, .cons ⟨t, e⟩ r => .cons ⟨[], by rw [e]; exact Reads.str _ t⟩ (each_read r)
section
variable {X : Cx} (K : PySem.W.Frag)
def rSrt : List V → Hp → VK → Prop := fun vs H Q => ∃ (a : Addr) (xs : List Str), vs = [V.ref a] ∧ SqL K H a (xs.map V.str) ∧ ∀ p, H p = none → Q (.ref p) (upd H p (.lst ((srt xs).map V.str)))
theorem kcr_srt (eK : X.K = K) (hu : X.A.units + 64 < cLine) : CallR X (.builtin "sorted") (rSrt K) := by
  subst eK
  intro pins s σ H vs us Q I r h
  obtain ⟨a, xs, rfl, hs, q⟩ := h
  obtain ⟨its, rv, hl, hz⟩ := I.list hs
  rw [Vals.ref1 r]
  have hlen := rv.length
  rw [List.length_map] at hlen hz
  have ea := strs_each rv
  have hal : PySem.W.AllAlike (xs.map PyData.str) := PySem.W.AllAlike.of fun b b' => rfl
  have hk : PySem.W.Sortable (xs.map PyData.str) := PySem.W.Sortable.others fun b => ⟨(fun z => by cases z), fun _ z => by cases z⟩
  refine PySem.W.sorted_data (enc := PyData.str) (R := fun v x => ∃ t, v = Value.str x t) hl.isList ea (each_read ea) hal hk (by omega) (fun b _ => by show X.A.units + 2 + 0 < _; omega) fun out h1 h2 => ?_
  rw [PySem.W.dataLe_str (fun b : Str => b)] at h2
  obtain ⟨ep, he⟩ := sortedAll_at s.heap its out.toArray
  have hn : H (s.heap.objs.size + 1) = none := I.hok.fresh (Nat.le_succ _)
  have len : ((srt xs).map V.str).length ≤ sizeLine := by
    rw [List.length_map]
    show (xs.mergeSort _).length ≤ _
    rw [List.length_mergeSort]
    exact hz
  exact ⟨.ref _, upd H (s.heap.objs.size + 1) (.lst ((srt xs).map V.str)), I.laid (t' := s.toks) (fun _ _ => sortedAll_old) (Nat.le_succ _) ⟨len, out, ep, each_strs h2, he⟩, rfl, q _ hn⟩
end
end K11
set_option Elab.async false
set_option linter.all false
set_option maxRecDepth 100000
set_option maxHeartbeats 4000000
namespace K11
open PySem PySem.Spec PyProof.Rows L2
section
variable {P : Program} {w : World} {K : PySem.W.Frag} {mg : Str → Option Value} {base : Heap}
def spDo : Sp := fun vs H Q _ => ∃ (A : AA) (u u' : US) (n : Nm) (na : Addr) (r : Int), vs = [.ref A.u, .ref na] ∧ UT K A H u ∧ NM H n na ∧ n.length ≤ 40 ∧ BV u.st ∧ ResOf u n r ∧ InP r ∧ DoR u n r u' ∧ u.sz + 2100 < sizeLine ∧ ∀ H', Kp A.mut H H' → UT K A H' u' → Q .non H'
theorem sc_Unfolding_do : FnScope ["self", "name", "kind", "first", "_", "value", "statement"] ["self", "name"] (defScope s_Unfolding_do) := ⟨rfl, rfl, rfl, by decide +kernel, rfl, by decide +kernel, by decide +kernel⟩
theorem ok_do (T : Txt w K mg) (C_result_by : C8.Met P w K mg base 15 (ad K "Unfolding") "result_by" (spResultBy (K := K)) []) (C_statement_of : C8.Met P w K mg base 1 (ad K "Unfolding") "statement_of" (spStatementOf (K := K)) []) (C_operated : C8.Cal P w K mg base 1 "operated" spOperated [])
    (C_go_on : C8.Met P w K mg base 3 (ad K "Unfolding") "go_on" (spGoOn (K := K)) []) (C_go_on_with_fold : C8.Met P w K mg base 8 (ad K "Unfolding") "go_on_with_fold" (spGoFold (K := K)) []) : C8.Met P w K mg base 16 (ad K "Unfolding") "do" (spDo (K := K)) [] := by
  refine T.f_Unfolding_do.met T.c_Unfolding sc_Unfolding_do (fun vs H Q E h => by obtain ⟨_, _, _, _, _, _, rfl, _⟩ := h; rfl) fun f0 cdv AR outer s H vs Q E hr h => ?_
  obtain ⟨A, u, u', n, na, r, rfl, hU, hn, hl, bs, ro, rin, dr, hz, k0⟩ := h
  refine ⟨_, (pss_cons (ps_asg (pe_dget (hu_of hr) (kfld K rfl (pv 0) rfl) (pv 1) (fun _ _ => rfl)) (kpg_tup (n := 3) K rfl rfl (pgs_cons (pg_name (i := 2) sc_Unfolding_do.nd rfl (Or.inl rfl)) (pgs_cons (pg_name (i := 3) sc_Unfolding_do.nd rfl (Or.inl rfl)) (pgs_cons (pg_name (i := 4) sc_Unfolding_do.nd rfl (Or.inl rfl)) pgs_nil))))) 
    (pss_cons (ps_set (i := 5) sc_Unfolding_do.nd rfl (Or.inl rfl) (C8.pe_mt C_result_by hr (by omega) (pv 0) (pa_cons (pv 1) pa_nil))) 
    (pss_cons (ps_set (i := 6) sc_Unfolding_do.nd rfl (Or.inl rfl) (C8.pe_mt C_statement_of hr (by omega) (pv 0) (pa_cons (pv 3) pa_nil))) 
    (C8.pss_cut (ps_if (pt_cmpR (kin_seq K rfl) (pv 2) (pe_tup (pa_cons pe_str (pa_cons pe_str pa_nil))) (by rfl)) (pss_one (ps_dput (hu_of hr) (kfld K rfl (pv 0) rfl) (pe_ix (kix_tup K rfl) (pv 6) pe_int (fun _ _ => rfl)) (pv 5) rfl)) (pss_one (ps_if (pt_cmpR op_eq (pv 2) pe_str (nomark _)) (pss_one (ps_dput (hu_of hr) (kfld K rfl (pv 0) rfl) (pe_ix (kix_tup K rfl) (pv 6) pe_int (fun _ _ => rfl)) (C8.pe_c C_operated hr (by omega) rfl (pa_cons (pe_ix (kix_tup K rfl) (pv 6) pe_int (fun _ _ => rfl)) (pa_cons (pe_dget2 (hu_of hr) (kfld K rfl (pv 0) rfl) (pe_ix (kix_tup K rfl) (pv 6) pe_int (fun _ _ => rfl)) pe_int ⟨rfl, rfl, rfl, rfl⟩) (pa_cons (pv 5) pa_nil)))) rfl)) pss_nil))) 
    (pss_cons (ps_dput (hu_of hr) (kfld K rfl (pv 0) rfl) (pv 1) (pv 5) rfl) 
    (pss_one (ps_if (pt_cmpR (kin_seq K rfl) (pv 2) (pe_tup (pa_cons pe_str (pa_cons pe_str (pa_cons pe_str (pa_cons pe_str pa_nil))))) (by rfl)) (pss_one (ps_expr (C8.pe_mt C_go_on hr (by omega) (pv 0) (pa_cons (pv 1) (pa_cons (pv 6) (pa_cons (pv 5) pa_nil)))))) (pss_one (ps_if (pt_cmpR op_eq (pv 2) pe_str (nomark _)) (pss_one (ps_expr (C8.pe_mt C_go_on_with_fold hr (by omega) (pv 0) (pa_cons (pv 1) (pa_cons (pv 5) pa_nil))))) pss_nil))))))))), ?_⟩
  obtain ⟨kd, f, p, q, k, x, st, u1, hkn, rfl, hst, hex, few, hq39, hc1, hc2⟩ := dr.ex
  obtain ⟨kvk, hk, alk⟩ := hU.kw
  obtain ⟨vk, hvk, t, fa, pa, rfl, ht, hf, _⟩ := alk.look kn_inj _ hkn
  refine ⟨_, rfl, _, _, _, _, _, rfl, hU.ins, T.c_Unfolding, T.n_Unfolding_known, rfl, _, rfl, _, _, rfl, dget_t hk hn hvk, t, _, rfl, SqT.of ht, rfl, _, _, rfl, _, _, rfl, _, _, rfl, rfl, ?_⟩
  have lf : (q ++ [(k : Int)]).length ≤ 40 := by rw [List.length_append]; show q.length + 1 ≤ 40; omega
  refine ⟨_, rfl, _, _, _, rfl, hU.ins, rfl, _, rfl, A, u, n, na, r, rfl, hU, hn, hl, fun y hy => by rw [hkn] at hy; cases hy; exact lf, bs, ro, fun H1 s1 => ?_⟩
  have U1 := hU.same s1
  refine ⟨_, rfl, _, _, _, rfl, U1.ins, rfl, _, rfl, A, u, q, k, fa, x, st, rfl, U1, hf.mono (Tk.same s1), hst, fun H2 sv s2 dv => ?_⟩
  have s12 := s1.trans s2
  have U2 := hU.same s12
  have hn2 := hn.mono (Tk.same s12)
  have hU2dd := U2.dd
  refine ⟨fun σ H' => σ = [some (.ref A.u), some (.ref na), some (.str kd), some (.ref fa), some (.ref pa), some (.int r), some sv] ∧ Kp A.mut H2 H' ∧ UT K A H' u1, ?_, ?_⟩
  · refine ⟨_, rfl, le_line (by show 2 ≤ 1000; decide), fun p0 hp0 => ?_⟩
    have s3 := same_new hp0 (.tup [V.str "set", V.str "keep"])
    refine ⟨p0, _, rfl, .inr (SqT.of upd_same), rfl, rfl, _, rfl, ?_⟩
    show if inV (.str kd) [V.str "set", V.str "keep"] = true then _ else _
    have U3 := U2.same s3
    have dv3 := dv.mono (Tk.same s3)
    have K3 : Kp A.mut H2 _ := Kp.same s3
    generalize upd H2 p0 (.tup [V.str "set", V.str "keep"]) = H3 at s3 U3 dv3 K3
    obtain ⟨kvs, hs, als⟩ := U3.st
    have zs : kvs.length < sizeLine := by rw [als.len]; unfold US.sz at hz; omega
    rcases hc1 with ⟨e1, y, hy, rfl⟩ | ⟨e1, rfl, y, o, e, rfl, rfl⟩ | ⟨e1, e2, rfl⟩
    · rw [e1]
      obtain ⟨sa, xs, rfl, hsa, hat⟩ := hy _ _ dv3
      refine iteT ⟨_, rfl, _, rfl, _, _, _, _, _, rfl, U3.ins, T.c_Unfolding, T.n_Unfolding_store, rfl, _, rfl, _, _, _, _, rfl, rfl, SqT.of hsa, hat, _, _, rfl, dput_k hs zs, rfl, K3.trans (Kp.upd (by simp [AA.mut])), U3.putS kvs hs als⟩
    · rw [e1]
      obtain ⟨sa, ve, rfl, hsa, de⟩ := dv3
      refine iteF ⟨_, rfl, rfl, _, rfl, iteD rfl ?_⟩
      refine ⟨_, rfl, _, _, _, _, rfl, rfl, SqT.of hsa, at2, _, rfl, _, _, _, _, _, rfl, U3.ins, T.c_Unfolding, T.n_Unfolding_store, rfl, A.s, rfl, .inl ⟨kvs, .inl hs⟩, _, rfl, _, _, _, _, rfl, rfl, SqT.of hsa, at1, _, dgetN_k hs rfl, _, rfl, ?_⟩
      have eg : (valV kvs (Sum.inr y)).getD (.int 0) = .int ((alook u.st y).getD 0) := by
        cases z : alook u.st y with
        | none => rw [als.none inr_inj y z]; rfl
        | some v =>
          obtain ⟨uu, h1, h2⟩ := als.look inr_inj y z
          rw [h1, h2]; rfl
      have gin : InP ((alook u.st y).getD 0) := by
        cases z : alook u.st y with
        | none => exact ⟨by decide, by decide⟩
        | some v => exact bs.look z
      rw [eg]
      exact ⟨o, _, r, rfl, gin, rin, _, rfl, _, _, _, _, _, rfl, U3.ins, T.c_Unfolding, T.n_Unfolding_store, rfl, _, rfl, _, _, _, _, rfl, rfl, SqT.of hsa, at1, _, _, rfl, dput_k hs zs, rfl, K3.trans (Kp.upd (by simp [AA.mut])), U3.putS kvs hs als⟩
    · rw [e1]
      exact iteF ⟨_, rfl, rfl, _, rfl, iteDF (fun z => e2 (V.str.inj z)) ⟨rfl, K3, U3⟩⟩
  · rintro σ H3 ⟨rfl, K3, U3⟩
    have T3 := tk_of hU2dd K3
    have hn3 := hn2.mono T3
    have dv3 := dv.mono T3
    have hz1 : u1.sz ≤ u.sz + 1 := by
      rcases hc1 with ⟨_, y, _, rfl⟩ | ⟨_, _, y, o, e, _, rfl⟩ | ⟨_, _, rfl⟩
      · have := len_aput u.st y r
        unfold US.sz
        dsimp only
        omega
      · have := len_aput u.st y (opd o ((alook u.st y).getD 0) r)
        unfold US.sz
        dsimp only
        omega
      · omega
    obtain ⟨kvd, hd, ald⟩ := U3.dn
    refine ⟨_, rfl, _, rfl, _, _, _, _, _, rfl, U3.ins, T.c_Unfolding, T.n_Unfolding_done, rfl, _, rfl, _, _, rfl, dput_t hd hn3 (by rw [ald.len]; unfold US.sz at hz hz1; omega), ?_⟩
    have U4 := U3.putD (n := n) (v := r) kvd hd ald
    have K4 : Kp A.mut H3 (upd H3 A.d (.dT (putK kvd (kn n) (.int r)))) := Kp.upd (by simp [AA.mut])
    have T4 := tk_of U3.dd K4
    have K14 : Kp A.mut H (upd H3 A.d (.dT (putK kvd (kn n) (.int r)))) := (Kp.same s12).trans (K3.trans K4)
    have hz2 : ({ u1 with done := aput u1.done n r } : US).sz ≤ u.sz + 2 := by
      have := len_aput u1.done n r
      unfold US.sz at hz1 ⊢
      dsimp only
      omega
    have bl4 : alook ({ u1 with done := aput u1.done n r } : US).blocks q = some x := by
      rcases hc1 with ⟨_, y, _, rfl⟩ | ⟨_, _, y, o, e, _, rfl⟩ | ⟨_, _, rfl⟩
      · exact hst.bl
      · exact hst.bl
      · exact hst.bl
    generalize upd H3 A.d (.dT (putK kvd (kn n) (.int r))) = H4 at U4 T4 K14
    refine ⟨_, rfl, le_line (by show 4 ≤ 1000; decide), fun p1 hp1 => ?_⟩
    have s5 := same_new hp1 (.tup [V.str "if", V.str "fork", V.str "each", V.str "start"])
    refine ⟨p1, _, rfl, .inr (SqT.of upd_same), rfl, rfl, _, rfl, ?_⟩
    show if inV (.str kd) [V.str "if", V.str "fork", V.str "each", V.str "start"] = true then _ else _
    have U5 := U4.same s5
    have hn5 := hn3.mono (T4.trans (Tk.same s5))
    have dv5 := dv3.mono (T4.trans (Tk.same s5))
    have K5 := K14.trans (Kp.same s5)
    rcases hc2 with ⟨e1, hgo, rfl, rfl⟩ | ⟨e1, rfl, rfl⟩ | ⟨e1, e2, rfl⟩
    · rw [e1]
      refine iteT ⟨_, rfl, _, _, _, rfl, U5.ins, rfl, _, rfl, _, rfl, _, rfl, A, _, q, k, na, x, st, sv, r, rfl, U5, hn5, by omega, bl4, hex, dv5, hgo, few, by omega, fun H6 k6 u6 => k0 _ (K5.trans k6) u6⟩
    · rw [e1]
      refine iteF ⟨_, rfl, rfl, _, rfl, iteD rfl ⟨_, rfl, _, _, _, rfl, U5.ins, rfl, _, rfl, _, rfl, A, _, n, na, r, rfl, U5, hn5, hl, by omega, fun H6 k6 u6 => k0 _ (K5.trans k6) u6⟩⟩
    · rw [e1]
      exact iteF ⟨_, rfl, rfl, _, rfl, iteDF (fun z => e2 (V.str.inj z)) (k0 _ K5 U5)⟩
end
end K11
set_option Elab.async false
set_option linter.all false
set_option maxRecDepth 100000
set_option maxHeartbeats 4000000
namespace K11
open PySem PySem.Spec PyProof.Rows L2
/-! ### the words of a store -/
def pos1 (st : Sto) (x : Str) : Option (Str × Int) := match alook st x with
  | some v => if v > 0 then some (x, v) else none
  | none => none
def wordsOf (st : Sto) : List (Str × Int) := (srt (st.map (·.1))).filterMap (pos1 st)
theorem AL.keys {kvs : List (Key × V)} {l : Sto} (h : AL Sum.inr RI kvs l) : kvs.map (fun kv => kV kv.1) = (l.map (·.1)).map V.str := by
  unfold AL at h
  induction h with
  | nil => rfl
  | cons r _ ih =>
    rw [List.map_cons, List.map_cons, List.map_cons, ih, r.1]
    rfl
theorem mem_srt {xs : List Str} {x : Str} : x ∈ srt xs ↔ x ∈ xs := (List.mergeSort_perm _ _).mem_iff
theorem len_srt (xs : List Str) : (srt xs).length = xs.length := List.length_mergeSort _
theorem alook_of_mem {β : Type} {l : List (Str × β)} {x : Str} (h : x ∈ l.map (·.1)) : ∃ v, alook l x = some v := by
  induction l with
  | nil => cases h
  | cons p l ih =>
    rw [alook_cons]
    by_cases e : p.1 = x
    · exact ⟨p.2, by rw [if_pos e]⟩
    · rw [if_neg e]
      rw [List.map_cons] at h
      rcases List.mem_cons.mp h with z | z
      · exact absurd z.symm e
      · exact ih z
theorem DPs.app {H : Hp} : ∀ {a b : List (Str × Int)} {x y : List V}, DPs H a x → DPs H b y → DPs H (a ++ b) (x ++ y)
  | [], _, _, _, h1, h2 => by rw [show _ = _ from h1]; exact h2
  | _ :: _, _, _, _, ⟨v, r, e, h, d⟩, h2 => by subst e; exact ⟨v, _, rfl, h, DPs.app d h2⟩
def inS (ws : List (Str × Int)) : Sto := ws.foldl (fun st p => aput st p.1 p.2) []
def initU (prog : List Stm) (ws : List (Str × Int)) : US := (⟨inS ws, [], [], [], []⟩ : US).unf [] ⟨prog, [], none, none⟩
theorem len_inS (ws : List (Str × Int)) : (inS ws).length ≤ ws.length := by
  have g : ∀ (ws : List (Str × Int)) (st : Sto), (ws.foldl (fun st p => aput st p.1 p.2) st).length ≤ st.length + ws.length := by
    intro ws
    induction ws with
    | nil => intro st; exact Nat.le_refl _
    | cons p ws ih =>
      intro st
      have h := ih (aput st p.1 p.2)
      have h2 := len_aput st p.1 p.2
      rw [List.foldl_cons, List.length_cons]
      omega
  have h := g ws []
  rw [List.length_nil, Nat.zero_add] at h
  exact h
section
variable {P : Program} {w : World} {K : PySem.W.Frag} {mg : Str → Option Value} {base : Heap}
def spUWords : Sp := fun vs H Q _ => ∃ (A : AA) (u : US), vs = [.ref A.u] ∧ UT K A H u ∧ u.st.length + 100 < sizeLine ∧ ∀ H' a, Same H H' → DW H' (wordsOf u.st) a → Q (.ref a) H'
theorem sc_Unfolding_words : FnScope ["self", "name"] ["self"] (defScope s_Unfolding_words) := ⟨rfl, rfl, rfl, by decide +kernel, rfl, by decide +kernel, by decide +kernel⟩
theorem ok_uwords (T : Txt w K mg) : C8.Met P w K mg base 1 (ad K "Unfolding") "words" (spUWords (K := K)) [] := by
  refine T.f_Unfolding_words.met T.c_Unfolding sc_Unfolding_words (fun vs H Q E h => by obtain ⟨_, _, rfl, _⟩ := h; rfl) fun f0 cdv AR outer s H vs Q E hr h => ?_
  obtain ⟨A, u, rfl, hU, hz, k0⟩ := h
  refine ⟨_, (pss_one (ps_ret (pe_callTy (ktuple_of K rfl) (by rfl) T.z_tuple (by decide +kernel) (pa_cons (pe_lc (own := [("name", 1)]) rfl sc_Unfolding_words.nd (pi_list (pe_callB (kcr_srt K rfl hr.units) (by rfl) T.z_sorted (by decide +kernel) (pa_cons (pe_callTy (call_listD rfl) (by rfl) T.z_list (by decide +kernel) (pa_cons (kfld K rfl (pv 0) rfl) pa_nil)) pa_nil))) (blkOk_by (N := ["self", "name"]) (sc := defScope s_Unfolding_words) (by decide +kernel)) (fun _ _ _ _ _ => (pg_name (i := 1) sc_Unfolding_words.nd rfl (Or.inl rfl))) (fun _ _ _ _ _ => pts_one (pt_cmpR op_gt (pe_dget (hu_of hr) (kfld K rfl (pv 0) rfl) (pv 1) (fun _ _ => rfl)) pe_int (nomark _))) (fun _ _ _ _ _ => (pe_tup (pa_cons (pv 1) (pa_cons (pe_dget (hu_of hr) (kfld K rfl (pv 0) rfl) (pv 1) (fun _ _ => rfl)) pa_nil))))) pa_nil)))), ?_⟩
  obtain ⟨kvs, hs, al⟩ := hU.st
  refine ⟨_, rfl, _, _, _, _, _, rfl, hU.ins, T.c_Unfolding, T.n_Unfolding_store, rfl, A.s, kvs, rfl, .inl hs, fun p1 hp1 => ?_⟩
  rw [al.keys]
  have s1 := same_new hp1 (.lst ((u.st.map (·.1)).map V.str))
  refine ⟨p1, _, rfl, SqL.of upd_same, fun p2 hp2 => ?_⟩
  have s2 := same_new hp2 (.lst ((srt (u.st.map (·.1))).map V.str))
  have s12 := s1.trans s2
  have hp22 : upd (upd H p1 (.lst ((u.st.map (·.1)).map V.str))) p2 (.lst ((srt (u.st.map (·.1))).map V.str)) p2 = some (.lst ((srt (u.st.map (·.1))).map V.str)) := upd_same
  have U2 := hU.same s12
  generalize upd (upd H p1 (.lst ((u.st.map (·.1)).map V.str))) p2 (.lst ((srt (u.st.map (·.1))).map V.str)) = H2 at hp22 U2 s12
  have ls := len_srt (u.st.map (·.1))
  rw [List.length_map] at ls
  refine ⟨p2, rfl, ⟨_, SqL.of hp22⟩, fun D hD => lc_list (xs := (srt (u.st.map (·.1))).map V.str) (fun i H' => Same H2 H' ∧ ∃ acc, H' D = some (.lst acc) ∧ DPs H' (((srt (u.st.map (·.1))).take i).filterMap (pos1 u.st)) acc ∧ acc.length ≤ i) ⟨same_new hD _, [], upd_same, rfl, Nat.le_refl _⟩ (fun i H' _ h => SqL.of (h.1 _ _ hp22)) (fun i x H' hx h => ?_) fun H' h => ?_⟩
  · obtain ⟨s3, acc, hacc, dps, hl⟩ := h
    rw [List.getElem?_map] at hx
    cases ex : (srt (u.st.map (·.1)))[i]? with
    | none => rw [ex] at hx; cases hx
    | some y =>
      rw [ex] at hx
      cases hx
      have U3 := U2.same s3
      obtain ⟨kv3, hs3, al3⟩ := U3.st
      obtain ⟨v, hv⟩ := alook_of_mem (mem_srt.mp (List.mem_of_getElem? ex))
      obtain ⟨vv, hvv, rfl⟩ := al3.look inr_inj y hv
      have hi : i < (srt (u.st.map (·.1))).length := (List.getElem?_eq_some_iff.mp ex).1
      have et : (srt (u.st.map (·.1))).take (i + 1) = (srt (u.st.map (·.1))).take i ++ [y] := by rw [List.take_succ, ex]; rfl
      refine ⟨rfl, _, rfl, _, _, _, _, _, rfl, U3.ins, T.c_Unfolding, T.n_Unfolding_store, rfl, _, rfl, _, _, rfl, dget_k hs3 hvv, _, _, rfl, rfl, _, rfl, ?_⟩
      by_cases c : v > 0
      · refine iteD c ⟨_, rfl, _, rfl, _, _, _, _, _, rfl, U3.ins, T.c_Unfolding, T.n_Unfolding_store, rfl, _, rfl, _, _, rfl, dget_k hs3 hvv, le_line (by show 2 ≤ 1000; decide), fun p3 hp3 => ?_⟩
        have s4 := same_new hp3 (.tup [V.str y, V.int v])
        have hacc4 := s4 _ _ hacc
        have k4 : Tk (upd H' p3 (.tup [V.str y, V.int v])) (upd (upd H' p3 (.tup [V.str y, V.int v])) D (.lst (acc ++ [V.ref p3]))) := tk_upd fun vs e => by rw [hacc4] at e; cases e
        refine ⟨acc, hacc4, by omega, same_put hD (s3.trans s4) _, _, upd_same, ?_, by rw [List.length_append]; show acc.length + 1 ≤ i + 1; omega⟩
        rw [et, List.filterMap_append]
        refine DPs.app (dps.mono ((Tk.same s4).trans k4)) ?_
        have ep : pos1 u.st y = some (y, v) := by unfold pos1; rw [hv]; exact if_pos c
        rw [show List.filterMap (pos1 u.st) [y] = [(y, v)] by simp [ep]]
        exact ⟨_, [], rfl, ⟨p3, rfl, k4 _ _ upd_same⟩, rfl⟩
      · refine iteDF c ⟨s3, acc, hacc, ?_, by omega⟩
        have ep : pos1 u.st y = none := by unfold pos1; rw [hv]; exact if_neg c
        rw [et, List.filterMap_append, show List.filterMap (pos1 u.st) [y] = [] by simp [ep], List.append_nil]
        exact dps
  · obtain ⟨s3, acc, hacc, dps, hl⟩ := h
    rw [List.length_map, List.take_length] at dps
    refine ⟨D, acc, rfl, .inl ⟨SqL.of hacc, fun l hl2 => ?_⟩⟩
    have s4 := same_new hl2 (.tup acc)
    exact k0 _ l (s12.trans (s3.trans s4)) ⟨acc, upd_same, dps.mono (Tk.same s4)⟩
def spUInit : Sp := fun vs H Q _ => ∃ (p dx pa wa : Addr) (prog : List Stm) (ws : List (Str × Int)), vs = [.ref p, .ref pa, .ref wa] ∧ H p = some (.ins (ad K "Unfolding") dx []) ∧ DB H prog pa ∧ prog.length ≤ 100 ∧ DW H ws wa ∧ ws.length ≤ 100 ∧
  ∀ H' A, Kp [p] H H' → A.u = p → (∀ b ∈ A.mut, H b = none) → UT K A H' (initU prog ws) → Q .non H'
theorem sc_Unfolding___init__ : FnScope ["self", "program", "words", "name", "value"] ["self", "program", "words"] (defScope s_Unfolding_init) := ⟨rfl, rfl, rfl, by decide +kernel, rfl, by decide +kernel, by decide +kernel⟩
theorem ok_uinit (T : Txt w K mg) (C_unfold : C8.Met P w K mg base 1 (ad K "Unfolding") "unfold" (spUnfold (K := K)) []) (C_Block : C8.Mak P w K mg base 1 "Block" (ad K "Block") (spBlockInit (K := K)) []) : C8.Mak P w K mg base 3 "Unfolding" (ad K "Unfolding") (spUInit (K := K)) [] := by
  refine T.f_Unfolding_init.mak T.g_Unfolding sc_Unfolding___init__ (fun vs H Q E h => by obtain ⟨_, _, _, _, _, _, rfl, _⟩ := h; rfl) fun f cdv AR outer s H vs Q E hr h => ?_
  obtain ⟨p, dx, pa, wa, prog, ws, rfl, hp, hprog, lp, ⟨wv, hw, dw⟩, lw, k0⟩ := h
  refine ⟨_, (pss_cons (ps_fld (pv 0) (pe_dc (own := [("name", 3), ("value", 4)]) rfl sc_Unfolding___init__.nd (pi_tup (pv 2)) (blkOk_by (N := ["self", "program", "words", "name", "value"]) (sc := defScope s_Unfolding_init) (by decide +kernel)) (fun _ _ _ _ _ => (kpg_tup (n := 2) K rfl rfl (pgs_cons (pg_name (i := 3) sc_Unfolding___init__.nd rfl (Or.inl rfl)) (pgs_cons (pg_name (i := 4) sc_Unfolding___init__.nd rfl (Or.inl rfl)) pgs_nil)))) (fun _ _ _ _ _ => pts_nil) (fun _ _ _ _ _ => (pv 3)) (fun _ _ _ _ _ => (pv 4))) rfl) 
    (pss_cons (ps_fld (pv 0) pe_dnewT rfl) 
    (pss_cons (ps_fld (pv 0) pe_dnewT rfl) 
    (pss_cons (ps_fld (pv 0) pe_dnewT rfl) 
    (pss_cons (ps_fld (pv 0) pe_dnewT rfl) 
    (pss_one (ps_expr (C8.pe_mt C_unfold hr (by omega) (pv 0) (pa_cons (pe_tup pa_nil) (pa_cons (C8.pe_mk C_Block hr (by omega) rfl (pa_cons (pv 1) (pa_cons pe_dnewK (pa_cons pe_non (pa_cons pe_non pa_nil))))) pa_nil)))))))))), ?_⟩
  have lwv := dw.length
  refine ⟨_, rfl, wa, rfl, ⟨_, SqT.of hw⟩, fun D hD => dc_tup (xs := wv) (fun i H' => Same H H' ∧ ∃ kvs, H' D = some (.dK kvs) ∧ AL Sum.inr RI kvs (inS (ws.take i)) ∧ (inS (ws.take i)).length ≤ i) ⟨same_new hD _, [], upd_same, by rw [List.take_zero]; exact .nil, by simp [inS]⟩ (fun i H' _ h => SqT.of (h.1 _ _ hw)) (fun i x H' hx h => ?_) fun H1 h => ?_⟩
  · obtain ⟨s1, kvs, hk, al, ll⟩ := h
    obtain ⟨pr, hpr, a, rfl, ha⟩ := (dw.mono (Tk.same s1)).get hx
    have hi : i < ws.length := by have := (List.getElem?_eq_some_iff.mp hpr).1; exact this
    have et : ws.take (i + 1) = ws.take i ++ [pr] := by rw [List.take_succ, hpr]; rfl
    have ei : inS (ws.take (i + 1)) = aput (inS (ws.take i)) pr.1 pr.2 := by unfold inS; rw [et, List.foldl_append]; rfl
    refine ⟨a, _, rfl, SqT.of ha, rfl, _, _, rfl, _, _, rfl, rfl, rfl, _, rfl, _, rfl, kvs, Sum.inr pr.1, rfl, hk, lt_line (by rw [al.len]; omega), same_put hD s1 _, _, upd_same, ?_, ?_⟩
    · rw [ei]; exact al.put inr_inj rfl
    · rw [ei]
      have := len_aput (inS (ws.take i)) pr.1 pr.2
      omega
  obtain ⟨s1, kvs, hk, al, ll⟩ := h
  rw [lwv, List.take_length] at al
  have hp1 := s1 _ _ hp
  have hD1 : H1 D = some (.dK kvs) := hk
  have ne : ∀ {a b : Addr} {G : Hp} {o : HO}, G a = some o → G b = none → a ≠ b := fun h1 h2 => ne_of_none h1 h2
  refine ⟨_, rfl, p, _, dx, _, rfl, hp1, T.c_Unfolding, T.n_Unfolding_store, (by show 0 < 1000; decide), ?_⟩
  -- the five dicts, one behind the other
  have pD : D ≠ p := fun z => by rw [z] at hD; rw [hp] at hD; cases hD
  generalize e2 : upd H1 p (.ins (ad K "Unfolding") dx (putF "store" (.ref D) [])) = H2
  have hp2 : H2 p = some (.ins (ad K "Unfolding") dx [("store", .ref D)]) := by rw [← e2]; exact upd_same
  have k2 : Kp [p] H H2 := by rw [← e2]; exact (Kp.same s1).trans (Kp.upd (by simp))
  have hD2 : H2 D = some (.dK kvs) := by rw [← e2, upd_ne pD]; exact hD1
  intro d1 hd1
  have nd1 : d1 ≠ p := (ne hp2 hd1).symm
  refine ⟨_, rfl, p, _, dx, _, rfl, by rw [upd_ne nd1.symm]; exact hp2, T.c_Unfolding, T.n_Unfolding_done, (by show 1 < 1000; decide), ?_⟩
  generalize e3 : upd (upd H2 d1 (.dT [])) p (.ins (ad K "Unfolding") dx (putF "done" (.ref d1) [("store", .ref D)])) = H3
  have hp3 : H3 p = some (.ins (ad K "Unfolding") dx [("store", .ref D), ("done", .ref d1)]) := by rw [← e3]; exact upd_same
  have k3 : Kp [p] H2 H3 := by rw [← e3]; exact (Kp.same (same_new hd1 _)).trans (Kp.upd (by simp))
  have h31 : H3 d1 = some (.dT []) := by rw [← e3, upd_ne nd1]; exact upd_same
  intro d2 hd2
  have nd2 : d2 ≠ p := (ne hp3 hd2).symm
  refine ⟨_, rfl, p, _, dx, _, rfl, by rw [upd_ne nd2.symm]; exact hp3, T.c_Unfolding, T.n_Unfolding_blocks, (by show 2 < 1000; decide), ?_⟩
  generalize e4 : upd (upd H3 d2 (.dT [])) p (.ins (ad K "Unfolding") dx (putF "blocks" (.ref d2) [("store", .ref D), ("done", .ref d1)])) = H4
  have hp4 : H4 p = some (.ins (ad K "Unfolding") dx [("store", .ref D), ("done", .ref d1), ("blocks", .ref d2)]) := by rw [← e4]; exact upd_same
  have k4 : Kp [p] H3 H4 := by rw [← e4]; exact (Kp.same (same_new hd2 _)).trans (Kp.upd (by simp))
  have h42 : H4 d2 = some (.dT []) := by rw [← e4, upd_ne nd2]; exact upd_same
  intro d3 hd3
  have nd3 : d3 ≠ p := (ne hp4 hd3).symm
  refine ⟨_, rfl, p, _, dx, _, rfl, by rw [upd_ne nd3.symm]; exact hp4, T.c_Unfolding, T.n_Unfolding_known, (by show 3 < 1000; decide), ?_⟩
  generalize e5 : upd (upd H4 d3 (.dT [])) p (.ins (ad K "Unfolding") dx (putF "known" (.ref d3) [("store", .ref D), ("done", .ref d1), ("blocks", .ref d2)])) = H5
  have hp5 : H5 p = some (.ins (ad K "Unfolding") dx [("store", .ref D), ("done", .ref d1), ("blocks", .ref d2), ("known", .ref d3)]) := by rw [← e5]; exact upd_same
  have k5 : Kp [p] H4 H5 := by rw [← e5]; exact (Kp.same (same_new hd3 _)).trans (Kp.upd (by simp))
  have h53 : H5 d3 = some (.dT []) := by rw [← e5, upd_ne nd3]; exact upd_same
  intro d4 hd4
  have nd4 : d4 ≠ p := (ne hp5 hd4).symm
  refine ⟨_, rfl, p, _, dx, _, rfl, by rw [upd_ne nd4.symm]; exact hp5, T.c_Unfolding, T.n_Unfolding_times, (by show 4 < 1000; decide), ?_⟩
  generalize e6 : upd (upd H5 d4 (.dT [])) p (.ins (ad K "Unfolding") dx (putF "times" (.ref d4) [("store", .ref D), ("done", .ref d1), ("blocks", .ref d2), ("known", .ref d3)])) = H6
  have hp6 : H6 p = some (.ins (ad K "Unfolding") dx [("store", .ref D), ("done", .ref d1), ("blocks", .ref d2), ("known", .ref d3), ("times", .ref d4)]) := by rw [← e6]; exact upd_same
  have k6 : Kp [p] H5 H6 := by rw [← e6]; exact (Kp.same (same_new hd4 _)).trans (Kp.upd (by simp))
  have h64 : H6 d4 = some (.dT []) := by rw [← e6, upd_ne nd4]; exact upd_same
  -- where each stands in the end, and that they were free
  have q1 : ∀ {a : Addr}, a ≠ p → a ∉ [p] := fun h z => h (List.mem_singleton.mp z)
  have fD : H6 D = some (.dK kvs) := k6 _ _ (k5 _ _ (k4 _ _ (k3 _ _ hD2 (q1 pD)) (q1 pD)) (q1 pD)) (q1 pD)
  have f1 : H6 d1 = some (.dT []) := k6 _ _ (k5 _ _ (k4 _ _ h31 (q1 nd1)) (q1 nd1)) (q1 nd1)
  have f2 : H6 d2 = some (.dT []) := k6 _ _ (k5 _ _ h42 (q1 nd2)) (q1 nd2)
  have f3 : H6 d3 = some (.dT []) := k6 _ _ h53 (q1 nd3)
  have free : ∀ {G : Hp} {a : Addr}, Kp [p] H G → G a = none → a ≠ p → H a = none := fun {G a} k h n => by
    cases e : H a with
    | none => rfl
    | some o => rw [k a o e (q1 n)] at h; cases h
  have k02 := k2
  have k03 := k02.trans k3
  have k04 := k03.trans k4
  have k05 := k04.trans k5
  have k06 := k05.trans k6
  have g1 : H d1 = none := free k02 hd1 nd1
  have g2 : H d2 = none := free k03 hd2 nd2
  have g3 : H d3 = none := free k04 hd3 nd3
  have g4 : H d4 = none := free k05 hd4 nd4
  have n1D : D ≠ d1 := ne hD2 hd1
  have n2D : D ≠ d2 := ne (k3 _ _ hD2 (q1 pD)) hd2
  have n3D : D ≠ d3 := ne (k4 _ _ (k3 _ _ hD2 (q1 pD)) (q1 pD)) hd3
  have n4D : D ≠ d4 := ne (k5 _ _ (k4 _ _ (k3 _ _ hD2 (q1 pD)) (q1 pD)) (q1 pD)) hd4
  have n12 : d1 ≠ d2 := ne h31 hd2
  have n13 : d1 ≠ d3 := ne (k4 _ _ h31 (q1 nd1)) hd3
  have n14 : d1 ≠ d4 := ne (k5 _ _ (k4 _ _ h31 (q1 nd1)) (q1 nd1)) hd4
  have n23 : d2 ≠ d3 := ne h42 hd3
  have n24 : d2 ≠ d4 := ne (k5 _ _ h42 (q1 nd2)) hd4
  have n34 : d3 ≠ d4 := ne h53 hd4
  let A : AA := ⟨p, dx, D, d1, d2, d3, d4⟩
  have UA : UT K A H6 ⟨inS ws, [], [], [], []⟩ := ⟨hp6, ⟨kvs, fD, al⟩, ⟨[], f1, .nil⟩, ⟨[], f2, .nil⟩, ⟨[], f3, .nil⟩, ⟨[], h64, .nil⟩, by
    simp only [AA.mut, List.nodup_cons, List.mem_cons, List.not_mem_nil, or_false, not_or, not_false_eq_true, List.nodup_nil, and_true]
    exact ⟨⟨n1D, n2D, n3D, n4D⟩, ⟨n12, n13, n14⟩, ⟨n23, n24⟩, n34⟩⟩
  have fresh : ∀ b ∈ A.mut, H b = none := fun b hb => by
    simp only [AA.mut, List.mem_cons, List.not_mem_nil, or_false] at hb
    rcases hb with rfl | rfl | rfl | rfl | rfl
    · exact hD
    · exact g1
    · exact g2
    · exact g3
    · exact g4
  have tk6 : Tk H H6 := fun a vs h => k06 _ _ h (q1 fun z => by rw [z, hp] at h; cases h)
  have hprog6 := hprog.mono tk6
  have hAu : A.u = p := rfl
  clear_value A
  clear e2 e3 e4 e5 e6
  refine ⟨_, rfl, p, dx, _, rfl, hp6, rfl, le_line (by show 0 ≤ 1000; decide), fun p0 hp0 => ⟨_, rfl, ?_⟩⟩
  have s7 := same_new hp0 (.tup [])
  intro e he
  have s8 := same_new he (.dK [])
  intro b bx hb hbx hne
  refine ⟨b, bx, _, _, _, _, _, rfl, rfl, upd_same, fun H9 k9 h9 => ⟨rfl, ?_⟩⟩
  have s9 := made_same hb hbx k9
  have s79 := s7.trans (s8.trans s9)
  have U9 := UA.same s79
  refine ⟨A, _, [], p0, ⟨prog, [], none, none⟩, .ref b, by rw [hAu]; rfl, U9, (s8.trans s9) _ _ upd_same, Nat.zero_le _, ⟨b, bx, pa, e, _, _, rfl, h9, hprog6.mono (Tk.same s79), fun z => (UA.same s7).dd.none he z, ⟨[], s9 _ _ upd_same, .nil⟩, rfl, rfl⟩, lp, ?_, fun H10 k10 u10 => k0 H10 A ?_ hAu fresh u10⟩
  · have := len_inS ws
    unfold US.sz
    show (inS ws).length + 0 + 0 + 0 + 0 + prog.length + 1 < sizeLine
    exact lt_line (by omega)
  · exact fun x o h n => k10 x o ((k06.trans (Kp.same s79)) x o h n) fun z => by rw [fresh x z] at h; cases h
end
end K11
set_option Elab.async false
set_option linter.all false
set_option maxRecDepth 100000
set_option maxHeartbeats 4000000
namespace K11
open PySem PySem.Spec PyProof.Rows L2
/-! ### keys below a name: what a run under n leaves alone -/
def Loc (n : Nm) (u u' : US) : Prop := ∀ k, ¬ n <+: k → alook u'.blocks k = alook u.blocks k ∧ alook u'.known k = alook u.known k ∧ alook u'.done k = alook u.done k ∧ alook u'.times k = alook u.times k
theorem Loc.refl (n : Nm) (u : US) : Loc n u u := fun _ _ => ⟨rfl, rfl, rfl, rfl⟩
theorem Loc.trans {n : Nm} {a b c : US} (h1 : Loc n a b) (h2 : Loc n b c) : Loc n a c := fun k hk => by
  obtain ⟨a1, a2, a3, a4⟩ := h1 k hk
  obtain ⟨b1, b2, b3, b4⟩ := h2 k hk
  exact ⟨b1.trans a1, b2.trans a2, b3.trans a3, b4.trans a4⟩
theorem Loc.up {n m : Nm} {a b : US} (h : Loc m a b) (p : n <+: m) : Loc n a b := fun k hk => h k fun z => hk (p.trans z)
theorem loc_st (n : Nm) (u : US) (st : Sto) : Loc n u { u with st := st } := fun _ _ => ⟨rfl, rfl, rfl, rfl⟩
theorem ne_pre {n m k : Nm} (h : n <+: m) (hk : ¬ n <+: k) : m ≠ k := fun z => hk (z ▸ h)
theorem loc_dn {n m : Nm} (h : n <+: m) (u : US) (r : Int) : Loc n u { u with done := aput u.done m r } := fun k hk => ⟨rfl, rfl, alook_ne (ne_pre h hk), rfl⟩
theorem loc_tm {n m : Nm} (h : n <+: m) (u : US) (r : Nat) : Loc n u { u with times := aput u.times m r } := fun k hk => ⟨rfl, rfl, rfl, alook_ne (ne_pre h hk)⟩
theorem loc_kw {n m : Nm} (h : n <+: m) (u : US) (r : KI) : Loc n u { u with known := aput u.known m r } := fun k hk => ⟨rfl, alook_ne (ne_pre h hk), rfl, rfl⟩
theorem look_knowN_ne (q : Nm) (ss : List Stm) (l : List (Nm × KI)) (k : Nm) (h : ∀ j : Nat, q ++ [(j : Int)] ≠ k) : ∀ n, alook (knowN q ss l n) k = alook l k
  | 0 => rfl
  | n + 1 => by
    cases e : ss[n]? with
    | none =>
      have e2 : knowN q ss l (n + 1) = knowN q ss l n := by
        show (match ss[n]? with
          | some s => aput (knowN q ss l n) (q ++ [(n : Int)]) ⟨s.kd, q ++ [(n : Int)], []⟩
          | none => knowN q ss l n) = _
        rw [e]
      rw [e2]
      exact look_knowN_ne q ss l k h n
    | some s => rw [knowN_succ e, alook_ne (h n), look_knowN_ne q ss l k h n]
theorem snoc_inj {q : Nm} {a b : Int} (h : q ++ [a] = q ++ [b]) : a = b := by
  have := List.append_cancel_left h
  injection this
theorem look_knowN (q : Nm) (ss : List Stm) (l : List (Nm × KI)) (j : Nat) (s : Stm) (hs : ss[j]? = some s) : ∀ n, j < n → n ≤ ss.length → alook (knowN q ss l n) (q ++ [(j : Int)]) = some ⟨s.kd, q ++ [(j : Int)], []⟩
  | 0, h, _ => absurd h (Nat.not_lt_zero _)
  | n + 1, h, hl => by
    obtain ⟨t, ht⟩ : ∃ t, ss[n]? = some t := ⟨_, List.getElem?_eq_getElem (by omega)⟩
    rw [knowN_succ ht]
    by_cases e : j = n
    · subst e
      rw [hs] at ht
      cases ht
      exact alook_self _ _ _
    · rw [alook_ne (fun z => e (by have := snoc_inj z; omega))]
      exact look_knowN q ss l j s hs n (by omega) (by omega)
theorem loc_unf {n q : Nm} (h : n <+: q) (u : US) (x : BI) : Loc n u (u.unf q x) := fun k hk => by
  refine ⟨alook_ne (ne_pre h hk), look_knowN_ne q x.stms u.known k (fun j => ne_pre (h.trans (List.prefix_append q _)) hk) _, rfl, rfl⟩
theorem unf_bl (u : US) (q : Nm) (x : BI) : alook (u.unf q x).blocks q = some x := alook_self _ _ _
theorem unf_kw (u : US) (q : Nm) (x : BI) {j : Nat} {s : Stm} (h : x.stms[j]? = some s) : alook (u.unf q x).known (q ++ [(j : Int)]) = some ⟨s.kd, q ++ [(j : Int)], []⟩ := look_knowN q x.stms u.known j s h _ (List.getElem?_eq_some_iff.mp h).1 (Nat.le_refl _)
theorem loc_loopU (nm : Nm) (u : US) (f : Nat → BI) : ∀ n, Loc nm u (loopU u nm f n)
  | 0 => Loc.refl _ _
  | n + 1 => (loc_loopU nm u f n).trans (loc_unf (List.prefix_append nm _) _ _)
theorem ext_snoc {nm k : Nm} {a b : Int} (h : nm ++ [a] <+: nm ++ [b] ++ k) : a = b := by
  rw [List.append_assoc] at h
  have h2 := (List.prefix_append_right_inj nm).mp h
  have := List.cons_prefix_cons.mp (show a :: [] <+: b :: k from h2)
  exact this.1
theorem not_ext {nm : Nm} {a b : Int} (h : a ≠ b) (k : Nm) : ¬ nm ++ [a] <+: nm ++ [b] ++ k := fun z => h (ext_snoc z)
theorem loopU_at (nm : Nm) (u : US) (f : Nat → BI) {i : Nat} : ∀ n, i < n → alook (loopU u nm f n).blocks (nm ++ [(i : Int)]) = some (f i) ∧ ∀ (j : Nat) (s : Stm), (f i).stms[j]? = some s → alook (loopU u nm f n).known (nm ++ [(i : Int)] ++ [(j : Int)]) = some ⟨s.kd, nm ++ [(i : Int)] ++ [(j : Int)], []⟩
  | 0, h => absurd h (Nat.not_lt_zero _)
  | n + 1, h => by
    by_cases e : i = n
    · subst e
      exact ⟨unf_bl _ _ _, fun j s hs => unf_kw _ _ _ hs⟩
    · obtain ⟨h1, h2⟩ := loopU_at (i := i) nm u f n (by omega)
      have ne : (n : Int) ≠ (i : Int) := by omega
      have l := loc_unf (List.prefix_refl (nm ++ [(n : Int)])) (loopU u nm f n) (f n)
      refine ⟨?_, fun j s hs => ?_⟩
      · have z := (l (nm ++ [(i : Int)]) (by have := not_ext (nm := nm) ne []; rwa [List.append_nil] at this)).1
        exact z.trans h1
      · exact ((l _ (not_ext ne _)).2.1).trans (h2 j s hs)
theorem loc_goU (u : US) (nm q : Nm) (k : Int) (x : BI) (v : Int) : ∀ s : Stm, Loc nm u (goU u nm q k x v s)
  | .cond _ _ _ => loc_unf (List.prefix_append nm _) _ _
  | .start _ _ => loc_unf (List.prefix_append nm _) _ _
  | .fork _ => ((loc_tm (List.prefix_refl nm) u _).trans (loc_loopU nm _ _ _)).trans (loc_kw (List.prefix_append nm _) _ _)
  | .each _ _ _ => ((loc_tm (List.prefix_refl nm) u _).trans (loc_loopU nm _ _ _)).trans (loc_kw (List.prefix_append nm _) _ _)
  | .set _ _ => Loc.refl _ _
  | .add _ _ _ => Loc.refl _ _
  | .fold _ _ _ _ _ => Loc.refl _ _
  | .wait _ => Loc.refl _ _
theorem look_partN_ne (nm : Nm) (ps : List Nm) (l : List (Nm × KI)) (k : Nm) (h : ∀ p, p ∈ ps → nm ++ p ≠ k) : ∀ n, alook (partN nm ps l n) k = alook l k
  | 0 => rfl
  | n + 1 => by
    cases e : ps[n]? with
    | none =>
      have e2 : partN nm ps l (n + 1) = partN nm ps l n := by
        show (match ps[n]? with
          | some p => aput (partN nm ps l n) (nm ++ p) ⟨kdOf p, nm, p⟩
          | none => partN nm ps l n) = _
        rw [e]
      rw [e2]
      exact look_partN_ne nm ps l k h n
    | some p => rw [partN_succ e, alook_ne (h p (List.mem_of_getElem? e)), look_partN_ne nm ps l k h n]
theorem look_partN (nm : Nm) (ps : List Nm) (l : List (Nm × KI)) (p : Nm) : ∀ n, n ≤ ps.length → p ∈ ps.take n → alook (partN nm ps l n) (nm ++ p) = some ⟨kdOf p, nm, p⟩
  | 0, _, h => by simp at h
  | n + 1, hl, h => by
    obtain ⟨t, ht⟩ : ∃ t, ps[n]? = some t := ⟨_, List.getElem?_eq_getElem (by omega)⟩
    rw [partN_succ ht]
    by_cases e : t = p
    · subst e
      exact alook_self _ _ _
    · rw [alook_ne (fun z => e (List.append_cancel_left z))]
      rw [List.take_succ, ht] at h
      rcases List.mem_append.mp h with h | h
      · exact look_partN nm ps l p n (by omega) h
      · simp at h
        exact absurd h.symm e
theorem loc_foldU (u : US) (nm : Nm) (v : Int) : Loc nm u (foldU u nm v) := fun k hk => by
  refine ⟨rfl, ?_, rfl, alook_ne (ne_pre (List.prefix_refl nm) hk)⟩
  show alook (aput _ (nm ++ [-1]) _) k = _
  rw [alook_ne (ne_pre (List.prefix_append nm _) hk), look_partN_ne nm _ _ k (fun p _ => ne_pre (List.prefix_append nm _) hk)]
/-! ### the run, plainly -/
structure Cf where
  u : US
  ord : List Nm
def Cf.mu (c : Cf) : Nat := c.u.sz + c.ord.length
/-- a deed that only leaves its result -/
def Cf.dn (c : Cf) (n : Nm) (r : Int) : Cf := ⟨{ c.u with done := aput c.u.done n r }, c.ord ++ [n]⟩
def u1S (u : US) (r : Int) : Stm → US
  | .set y _ => { u with st := aput u.st y r }
  | .add y o _ => { u with st := aput u.st y (opd o ((alook u.st y).getD 0) r) }
  | _ => u
def stepU (u : US) (q : Nm) (k : Nat) (x : BI) (r : Int) (s : Stm) : US :=
  let u2 : US := { u1S u r s with done := aput (u1S u r s).done (q ++ [(k : Int)]) r }
  match s with
  | .fold _ _ _ _ _ => foldU u2 (q ++ [(k : Int)]) r
  | s => goU u2 (q ++ [(k : Int)]) q k x r s
def resS (u : US) (x : BI) (s : Stm) : Int := match s.ex with
  | some e => evE u.st x.env e.1
  | none => 0
def stepC (q : Nm) (k : Nat) (x : BI) (c : Cf) (s : Stm) : Cf := ⟨stepU c.u q k x (resS c.u x s) s, c.ord ++ [q ++ [(k : Int)]]⟩
/-- a fold's result from lo to hi -/
def fv (st env : Sto) (o i : Str) (l : Exp) : Nat → Nat → Nat → Int
  | 0, _, _ => 0
  | k + 1, lo, hi => if hi < lo + 2 then evE st (aput env i (lo : Int)) l else opd o (fv st env o i l k lo ((lo + hi) / 2)) (fv st env o i l k ((lo + hi) / 2) hi)
def partR (st env : Sto) (o i : Str) (l : Exp) : Nm → Int
  | [a] => fv st env o i l 7 a.toNat (a.toNat + 1)
  | [a, b] => fv st env o i l 7 a.toNat b.toNat
  | _ => 0
def partsC (nm : Nm) (R : Nm → Int) (c : Cf) (ps : List Nm) : Cf := ps.foldl (fun c p => c.dn (nm ++ p) (R p)) c
def eachC (f : Nat → Cf → Cf) : Nat → Cf → Cf
  | 0, c => c
  | n + 1, c => f n (eachC f n c)
def keepC (c : Cf) (nm : Nm) (y : Str) (r : Int) : Cf := ⟨{ c.u with st := aput c.u.st y r, done := aput c.u.done (nm ++ [-1]) r }, c.ord ++ [nm ++ [-1]]⟩
mutual
def pS (q : Nm) (k : Nat) (x : BI) (c : Cf) : Stm → Cf
  | .set y e => stepC q k x c (.set y e)
  | .add y o e => stepC q k x c (.add y o e)
  | .wait t => stepC q k x c (.wait t)
  | .cond e a b => if evE c.u.st x.env e ≠ 0 then pB (q ++ [(k : Int)] ++ [0]) 0 ⟨a, x.env, some (q ++ [(k : Int)]), some (q, k)⟩ (stepC q k x c (.cond e a b)) a
    else pB (q ++ [(k : Int)] ++ [1]) 0 ⟨b, x.env, some (q ++ [(k : Int)]), some (q, k)⟩ (stepC q k x c (.cond e a b)) b
  | .start t b => pB (q ++ [(k : Int)] ++ [0]) 0 ⟨b, x.env, some (q ++ [(k : Int)]), some (q, k)⟩ (stepC q k x c (.start t b)) b
  | .fork bs => (pBs (q ++ [(k : Int)]) q k x.env 0 (stepC q k x c (.fork bs)) bs).dn (q ++ [(k : Int)] ++ [-1]) 0
  | .each y e b => (eachC (fun i c => pB (q ++ [(k : Int)] ++ [(i : Int)]) 0 ⟨b, aput x.env y (i : Int), some (q ++ [(k : Int)]), some (q, k)⟩ c b) (evE c.u.st x.env e % 7).toNat (stepC q k x c (.each y e b))).dn (q ++ [(k : Int)] ++ [-1]) 0
  | .fold y o i e l => keepC (partsC (q ++ [(k : Int)]) (partR c.u.st x.env o i l) (stepC q k x c (.fold y o i e l)) (parts 7 0 (evE c.u.st x.env e % 7).toNat)) (q ++ [(k : Int)]) y
    (if (evE c.u.st x.env e % 7).toNat = 0 then 0 else fv c.u.st x.env o i l 7 0 (evE c.u.st x.env e % 7).toNat)
def pB (q : Nm) (k : Nat) (x : BI) (c : Cf) : List Stm → Cf
  | [] => c
  | s :: ss => pB q (k + 1) x (pS q k x c s) ss
def pBs (nm q : Nm) (k : Nat) (env : Sto) (i : Nat) (c : Cf) : List (List Stm) → Cf
  | [] => c
  | b :: bs => pBs nm q k env (i + 1) (pB (nm ++ [(i : Int)]) 0 ⟨b, env, some nm, some (q, k)⟩ c b) bs
end
theorem loc_u1S (n : Nm) (u : US) (r : Int) : ∀ s : Stm, Loc n u (u1S u r s)
  | .set _ _ => loc_st _ _ _
  | .add _ _ _ => loc_st _ _ _
  | .cond _ _ _ => Loc.refl _ _
  | .start _ _ => Loc.refl _ _
  | .fork _ => Loc.refl _ _
  | .each _ _ _ => Loc.refl _ _
  | .fold _ _ _ _ _ => Loc.refl _ _
  | .wait _ => Loc.refl _ _
theorem loc_stepU (u : US) (q : Nm) (k : Nat) (x : BI) (r : Int) (s : Stm) : Loc (q ++ [(k : Int)]) u (stepU u q k x r s) := by
  have h := (loc_u1S (q ++ [(k : Int)]) u r s).trans (loc_dn (List.prefix_refl (q ++ [(k : Int)])) (u1S u r s) r)
  cases s <;> exact h.trans (by first | exact loc_goU _ _ _ _ _ _ _ | exact loc_foldU _ _ _)
theorem loc_partsC (nm : Nm) (R : Nm → Int) : ∀ (ps : List Nm) (c : Cf), Loc nm c.u (partsC nm R c ps).u
  | [], c => Loc.refl _ _
  | p :: ps, c => (loc_dn (List.prefix_append nm p) c.u (R p)).trans (loc_partsC nm R ps (c.dn (nm ++ p) (R p)))
theorem loc_eachC {n : Nm} {f : Nat → Cf → Cf} (h : ∀ i c, Loc n c.u (f i c).u) : ∀ m c, Loc n c.u (eachC f m c).u
  | 0, c => Loc.refl _ _
  | m + 1, c => (loc_eachC h m c).trans (h m _)
mutual
theorem loc_pS (q : Nm) (k : Nat) (x : BI) (c : Cf) : ∀ s : Stm, Loc (q ++ [(k : Int)]) c.u (pS q k x c s).u
  | .set y e => loc_stepU _ _ _ _ _ _
  | .add y o e => loc_stepU _ _ _ _ _ _
  | .wait t => loc_stepU _ _ _ _ _ _
  | .cond e a b => by
    unfold pS
    split
    · exact (loc_stepU _ _ _ _ _ _).trans ((loc_pB _ 0 _ _ a).up (List.prefix_append _ _))
    · exact (loc_stepU _ _ _ _ _ _).trans ((loc_pB _ 0 _ _ b).up (List.prefix_append _ _))
  | .start t b => by
    unfold pS
    exact (loc_stepU _ _ _ _ _ _).trans ((loc_pB _ 0 _ _ b).up (List.prefix_append _ _))
  | .fork bs => by
    unfold pS
    exact ((loc_stepU _ _ _ _ _ _).trans (loc_pBs _ _ _ _ _ _ bs)).trans (loc_dn (List.prefix_append _ _) _ _)
  | .each y e b => by
    unfold pS
    exact ((loc_stepU _ _ _ _ _ _).trans (loc_eachC (fun i c => (loc_pB _ 0 _ _ b).up (List.prefix_append _ _)) _ _)).trans (loc_dn (List.prefix_append _ _) _ _)
  | .fold y o i e l => by
    unfold pS
    exact ((loc_stepU _ _ _ _ _ _).trans (loc_partsC _ _ _ _)).trans ((loc_dn (List.prefix_append _ _) _ _).trans (loc_st _ _ _))
theorem loc_pB (q : Nm) (k : Nat) (x : BI) (c : Cf) : ∀ ss : List Stm, Loc q c.u (pB q k x c ss).u
  | [] => Loc.refl _ _
  | s :: ss => by
    unfold pB
    exact ((loc_pS q k x c s).up (List.prefix_append _ _)).trans (loc_pB q (k + 1) x _ ss)
theorem loc_pBs (nm q : Nm) (k : Nat) (env : Sto) (i : Nat) (c : Cf) : ∀ bs : List (List Stm), Loc nm c.u (pBs nm q k env i c bs).u
  | [] => Loc.refl _ _
  | b :: bs => by
    unfold pBs
    exact ((loc_pB _ 0 _ _ b).up (List.prefix_append _ _)).trans (loc_pBs nm q k env (i + 1) _ bs)
end
end K11
set_option Elab.async false
set_option linter.all false
set_option maxRecDepth 100000
set_option maxHeartbeats 4000000
namespace K11
open PySem PySem.Spec PyProof.Rows L2
/-! ### values stay within the prime -/
theorem WFS.exOk {d : Nat} {L T : List Str} : ∀ {s : Stm} {e : Exp × Nat}, WFS d L T s → s.ex = some e → EOk L e.1
  | .set _ _, _, h, z => by cases z; exact h.2
  | .add _ _ _, _, h, z => by cases z; exact h.2.2
  | .cond _ _ _, _, h, z => by cases z; exact h.1
  | .each _ _ _, _, h, z => by cases z; exact h.2.1
  | .fold _ _ _ _ _, _, h, z => by cases z; exact h.2.2.2.1
  | .fork _, _, _, z => by cases z
  | .start _ _, _, _, z => by cases z
  | .wait _, _, _, z => by cases z
theorem resS_in {u : US} {x : BI} {d : Nat} {L T : List Str} {s : Stm} (h : WFS d L T s) (hs : BV u.st) (he : BV x.env) : InP (resS u x s) := by
  unfold resS
  split
  · next e q => exact evE_in hs he (h.exOk q).1
  · exact ⟨by decide, by decide⟩
theorem getD_in {st : Sto} (h : BV st) (y : Str) : InP ((alook st y).getD 0) := by
  cases z : alook st y with
  | none => exact ⟨by decide, by decide⟩
  | some v => exact h.look z
theorem st_loopU (u : US) (nm : Nm) (f : Nat → BI) : ∀ n, (loopU u nm f n).st = u.st
  | 0 => rfl
  | n + 1 => st_loopU u nm f n
theorem st_goU (u : US) (nm q : Nm) (k : Int) (x : BI) (v : Int) : ∀ s : Stm, (goU u nm q k x v s).st = u.st
  | .cond _ _ _ => rfl
  | .start _ _ => rfl
  | .fork bs => st_loopU _ nm _ _
  | .each _ _ _ => st_loopU _ nm _ _
  | .set _ _ => rfl
  | .add _ _ _ => rfl
  | .fold _ _ _ _ _ => rfl
  | .wait _ => rfl
theorem st_stepU (u : US) (q : Nm) (k : Nat) (x : BI) (r : Int) (s : Stm) : (stepU u q k x r s).st = (u1S u r s).st := by
  cases s <;> first | rfl | exact st_goU _ _ _ _ _ _ _
theorem bv_u1S {u : US} {r : Int} (hs : BV u.st) (hr : InP r) : ∀ s : Stm, BV (u1S u r s).st
  | .set _ _ => hs.put hr
  | .add y o _ => hs.put (opd_in (getD_in hs y) hr)
  | .cond _ _ _ => hs
  | .start _ _ => hs
  | .fork _ => hs
  | .each _ _ _ => hs
  | .fold _ _ _ _ _ => hs
  | .wait _ => hs
theorem bv_stepC {q : Nm} {k : Nat} {x : BI} {c : Cf} {d : Nat} {L T : List Str} {s : Stm} (h : WFS d L T s) (hs : BV c.u.st) (he : BV x.env) : BV (stepC q k x c s).u.st := by
  show BV (stepU _ _ _ _ _ _).st
  rw [st_stepU]
  exact bv_u1S hs (resS_in h hs he) s
theorem bv_put {env : Sto} (h : BV env) (y : Str) {i : Nat} (hi : i < 7) : BV (aput env y (i : Int)) := h.put ⟨by omega, by omega⟩
theorem fv_in {st env : Sto} {o i : Str} {l : Exp} {L : List Str} (hs : BV st) (he : BV env) (hl : WFE (L ++ [i]) l) : ∀ (k lo hi : Nat), lo < 7 → hi ≤ 7 → InP (fv st env o i l k lo hi)
  | 0, _, _, _, _ => ⟨by show (0 : Int) ≤ 0; decide, by show (0 : Int) < 1000003; decide⟩
  | k + 1, lo, hi, h1, h2 => by
    unfold fv
    split
    · exact evE_in hs (bv_put he i h1) hl
    · exact opd_in (fv_in hs he hl k _ _ h1 (by omega)) (fv_in hs he hl k _ _ (by omega) h2)
theorem st_partsC (nm : Nm) (R : Nm → Int) : ∀ (ps : List Nm) (c : Cf), (partsC nm R c ps).u.st = c.u.st
  | [], c => rfl
  | p :: ps, c => st_partsC nm R ps (c.dn (nm ++ p) (R p))
theorem mod7 (v : Int) : (v % 7).toNat < 7 := by omega
theorem bv_eachC {f : Nat → Cf → Cf} (m : Nat) (h : ∀ i c, i < m → BV c.u.st → BV (f i c).u.st) : ∀ n c, n ≤ m → BV c.u.st → BV (eachC f n c).u.st
  | 0, c, _, hc => hc
  | n + 1, c, hn, hc => h n _ (by omega) (bv_eachC m h n c (by omega) hc)
mutual
theorem bv_pS : ∀ (s : Stm) {d : Nat} {L T : List Str} {q : Nm} {k : Nat} {x : BI} {c : Cf}, WFS d L T s → BV c.u.st → BV x.env → EnvOk x.env L → BV (pS q k x c s).u.st
  | .set _ _, _, _, _, _, _, _, _, h, hs, he, _ => bv_stepC h hs he
  | .add _ _ _, _, _, _, _, _, _, _, h, hs, he, _ => bv_stepC h hs he
  | .wait _, _, _, _, _, _, _, _, h, hs, he, _ => bv_stepC h hs he
  | .cond e a b, _, _, _, _, _, _, _, h, hs, he, eo => by
    unfold pS
    split
    · exact bv_pB a h.2.2.2.1 (bv_stepC h hs he) he eo
    · exact bv_pB b h.2.2.2.2.2 (bv_stepC h hs he) he eo
  | .start t b, _, _, _, _, _, _, _, h, hs, he, eo => by
    unfold pS
    exact bv_pB b h.2.2.2 (bv_stepC h hs he) he eo
  | .fork bs, _, _, _, _, _, _, _, h, hs, he, eo => by
    unfold pS
    exact bv_pBs bs h.2.2.2 (bv_stepC h hs he) he eo
  | .each y e b, _, _, _, _, _, _, _, h, hs, he, eo => by
    unfold pS
    exact bv_eachC _ (fun i c hi hc => bv_pB b h.2.2.2.2 hc (bv_put he y (Nat.lt_trans hi (mod7 _))) (eo.put y _)) _ _ (Nat.le_refl _) (bv_stepC h hs he)
  | .fold y o i e l, _, _, _, _, _, _, c, h, hs, he, eo => by
    unfold pS
    show BV (aput _ _ _)
    rw [st_partsC]
    have h1 := bv_stepC (q := by assumption) (k := by assumption) h hs he
    refine AllV.put h1 ?_
    split
    · exact ⟨by decide, by decide⟩
    · exact fv_in hs he h.2.2.2.2.1 7 0 _ (by decide) (Nat.le_of_lt (mod7 _))
theorem bv_pB : ∀ (ss : List Stm) {d : Nat} {L T : List Str} {q : Nm} {k : Nat} {x : BI} {c : Cf}, WFB d L T ss → BV c.u.st → BV x.env → EnvOk x.env L → BV (pB q k x c ss).u.st
  | [], _, _, _, _, _, _, _, _, hs, _, _ => hs
  | s :: ss, _, _, _, _, _, _, _, h, hs, he, eo => by
    unfold pB
    exact bv_pB ss h.2 (bv_pS s h.1 hs he eo) he eo
theorem bv_pBs : ∀ (bs : List (List Stm)) {d : Nat} {L T : List Str} {nm q : Nm} {k : Nat} {env : Sto} {i : Nat} {c : Cf}, WFBs d L T bs → BV c.u.st → BV env → EnvOk env L → BV (pBs nm q k env i c bs).u.st
  | [], _, _, _, _, _, _, _, _, _, _, hs, _, _ => hs
  | b :: bs, _, _, _, _, _, _, _, _, _, h, hs, he, eo => by
    unfold pBs
    exact bv_pBs bs h.2.2 (bv_pB b h.2.1 hs he eo) he eo
end
/-! ### how large it grows -/
def KS : Nat → Nat
  | 0 => 46
  | d + 1 => 36 * KS d + 60
theorem KS_46 : ∀ d, 46 ≤ KS d
  | 0 => Nat.le_refl _
  | d + 1 => by show 46 ≤ 36 * KS d + 60; omega
theorem KS_60 {d : Nat} (h : 0 < d) : 36 * KS (d - 1) + 60 = KS d := by
  cases d with
  | zero => omega
  | succ d => rfl
theorem mu_dn (c : Cf) (n : Nm) (r : Int) : (c.dn n r).mu ≤ c.mu + 2 := by
  have := len_aput c.u.done n r
  unfold Cf.mu Cf.dn US.sz
  rw [List.length_append, List.length_singleton]
  dsimp only
  omega
theorem sz_u1S (u : US) (r : Int) : ∀ s : Stm, (u1S u r s).sz ≤ u.sz + 1
  | .set y _ => by
    have := len_aput u.st y r
    unfold US.sz u1S
    dsimp only
    omega
  | .add y o _ => by
    have := len_aput u.st y (opd o ((alook u.st y).getD 0) r)
    unfold US.sz u1S
    dsimp only
    omega
  | .cond _ _ _ => Nat.le_succ _
  | .start _ _ => Nat.le_succ _
  | .fork _ => Nat.le_succ _
  | .each _ _ _ => Nat.le_succ _
  | .fold _ _ _ _ _ => Nat.le_succ _
  | .wait _ => Nat.le_succ _
theorem sz_done (u : US) (n : Nm) (r : Int) : ({ u with done := aput u.done n r } : US).sz ≤ u.sz + 1 := by
  have := len_aput u.done n r
  unfold US.sz
  dsimp only
  omega
theorem sz_times (u : US) (n : Nm) (r : Nat) : ({ u with times := aput u.times n r } : US).sz ≤ u.sz + 1 := by
  have := len_aput u.times n r
  unfold US.sz
  dsimp only
  omega
theorem sz_known (u : US) (n : Nm) (r : KI) : ({ u with known := aput u.known n r } : US).sz ≤ u.sz + 1 := by
  have := len_aput u.known n r
  unfold US.sz
  dsimp only
  omega
theorem WFBs.len6 {d : Nat} {L T : List Str} {bs : List (List Stm)} (h : WFBs d L T bs) {b : List Stm} (hb : b ∈ bs) : b.length ≤ 6 := by
  obtain ⟨i, hi⟩ := List.mem_iff_getElem?.mp hb
  exact (h.at hi).1
theorem sz_goU {d : Nat} {L T : List Str} (u : US) (nm q : Nm) (k : Int) (x : BI) (v : Int) : ∀ {s : Stm}, WFS d L T s → (goU u nm q k x v s).sz ≤ u.sz + 44
  | .cond _ a b, h => by
    have h1 := sz_unf u (nm ++ [if v ≠ 0 then 0 else 1]) ⟨if v ≠ 0 then a else b, x.env, some nm, some (q, k)⟩
    have h2 := h.2.2.1
    have h3 := h.2.2.2.2.1
    have h4 : (if v ≠ 0 then a else b).length ≤ 6 := by split <;> assumption
    show (u.unf _ _).sz ≤ _
    dsimp only at h1
    omega
  | .start _ b, h => by
    have h1 := sz_unf u (nm ++ [0]) ⟨b, x.env, some nm, some (q, k)⟩
    have h2 := h.2.2.1
    show (u.unf _ _).sz ≤ _
    dsimp only at h1
    omega
  | .fork bs, h => by
    have h1 := sz_times u nm bs.length
    have h2 := sz_loopU { u with times := aput u.times nm bs.length } nm (fun i => ⟨bs.getD i [], x.env, some nm, some (q, k)⟩) 6 (fun i => by
      show (bs.getD i []).length ≤ 6
      rw [List.getD_eq_getElem?_getD]
      cases e : bs[i]? with
      | none => exact Nat.zero_le _
      | some b => exact h.2.2.2.len6 (List.mem_of_getElem? e)) bs.length
    have h3 := sz_known (loopU { u with times := aput u.times nm bs.length } nm (fun i => ⟨bs.getD i [], x.env, some nm, some (q, k)⟩) bs.length) (nm ++ [-1]) ⟨"join", nm, []⟩
    have h4 := h.2.2.1
    have h5 : bs.length * (6 + 1) ≤ 4 * 7 := Nat.mul_le_mul h4 (Nat.le_refl _)
    exact Nat.le_trans h3 (Nat.le_trans (Nat.add_le_add_right h2 1) (by omega))
  | .each y _ b, h => by
    have h1 := sz_times u nm (v % 7).toNat
    have h2 := sz_loopU { u with times := aput u.times nm (v % 7).toNat } nm (fun i => ⟨b, aput x.env y (i : Int), some nm, some (q, k)⟩) 6 (fun i => h.2.2.2.1) (v % 7).toNat
    have h3 := sz_known (loopU { u with times := aput u.times nm (v % 7).toNat } nm (fun i => ⟨b, aput x.env y (i : Int), some nm, some (q, k)⟩) (v % 7).toNat) (nm ++ [-1]) ⟨"join", nm, []⟩
    have h4 := mod7 v
    have h5 : (v % 7).toNat * (6 + 1) ≤ 6 * 7 := Nat.mul_le_mul (by omega) (Nat.le_refl _)
    exact Nat.le_trans h3 (Nat.le_trans (Nat.add_le_add_right h2 1) (by omega))
  | .set _ _, _ => Nat.le_add_right _ _
  | .add _ _ _, _ => Nat.le_add_right _ _
  | .fold _ _ _ _ _, _ => Nat.le_add_right _ _
  | .wait _, _ => Nat.le_add_right _ _
theorem sz_foldU (u : US) (nm : Nm) (v : Int) : (foldU u nm v).sz ≤ u.sz + 14 := by
  have h1 := len_aput u.times nm (v % 7).toNat
  have h2 := len_aput (partN nm (parts 7 0 (v % 7).toNat) u.known (parts 7 0 (v % 7).toNat).length) (nm ++ [-1]) ⟨"keep", nm, []⟩
  have h3 := len_partN nm (parts 7 0 (v % 7).toNat) u.known (parts 7 0 (v % 7).toNat).length
  have h4 := len_parts 7 0 (v % 7).toNat
  have h5 := mod7 v
  unfold US.sz foldU
  dsimp only
  omega
theorem mu_stepC {d : Nat} {L T : List Str} (q : Nm) (k : Nat) (x : BI) (c : Cf) {s : Stm} (h : WFS d L T s) : (stepC q k x c s).mu ≤ c.mu + 47 ∧ ((∀ y o i e l, s ≠ .fold y o i e l) ∨ (stepC q k x c s).mu ≤ c.mu + 17) ∧ (s.goes = true ∨ (stepC q k x c s).mu ≤ c.mu + 17) := by
  have h1 := sz_u1S c.u (resS c.u x s) s
  have h2 := sz_done (u1S c.u (resS c.u x s) s) (q ++ [(k : Int)]) (resS c.u x s)
  have e : (stepC q k x c s).mu = (stepU c.u q k x (resS c.u x s) s).sz + (c.ord.length + 1) := by
    unfold Cf.mu stepC
    rw [List.length_append, List.length_singleton]
  rw [e]
  unfold Cf.mu
  by_cases hf : ∃ y o i e l, s = .fold y o i e l
  · obtain ⟨y, o, i, e2, l, rfl⟩ := hf
    have h3 := sz_foldU { u1S c.u (resS c.u x (.fold y o i e2 l)) (.fold y o i e2 l) with done := aput (u1S c.u (resS c.u x (.fold y o i e2 l)) (.fold y o i e2 l)).done (q ++ [(k : Int)]) (resS c.u x (.fold y o i e2 l)) } (q ++ [(k : Int)]) (resS c.u x (.fold y o i e2 l))
    have h4 : (stepU c.u q k x (resS c.u x (.fold y o i e2 l)) (.fold y o i e2 l)).sz ≤ c.u.sz + 16 := by
      exact Nat.le_trans h3 (Nat.le_trans (Nat.add_le_add_right h2 14) (by omega))
    exact ⟨by omega, .inr (by omega), .inr (by omega)⟩
  · have h3 := sz_goU { u1S c.u (resS c.u x s) s with done := aput (u1S c.u (resS c.u x s) s).done (q ++ [(k : Int)]) (resS c.u x s) } (q ++ [(k : Int)]) q k x (resS c.u x s) h
    have h4 : (stepU c.u q k x (resS c.u x s) s).sz ≤ c.u.sz + 46 := by
      have e3 : stepU c.u q k x (resS c.u x s) s = goU { u1S c.u (resS c.u x s) s with done := aput (u1S c.u (resS c.u x s) s).done (q ++ [(k : Int)]) (resS c.u x s) } (q ++ [(k : Int)]) q k x (resS c.u x s) s := by
        cases s <;> first | rfl | exact absurd ⟨_, _, _, _, _, rfl⟩ hf
      rw [e3]
      exact Nat.le_trans h3 (Nat.le_trans (Nat.add_le_add_right h2 44) (by omega))
    refine ⟨by omega, .inl (fun y o i e l z => hf ⟨y, o, i, e, l, z⟩), ?_⟩
    by_cases hg : s.goes = true
    · exact .inl hg
    · refine .inr ?_
      have e4 : (stepU c.u q k x (resS c.u x s) s).sz ≤ c.u.sz + 2 := by
        cases s <;> first | exact absurd rfl hg | exact absurd ⟨_, _, _, _, _, rfl⟩ hf | exact Nat.le_trans h2 (by omega)
      omega
theorem mu_partsC (nm : Nm) (R : Nm → Int) : ∀ (ps : List Nm) (c : Cf), (partsC nm R c ps).mu ≤ c.mu + 2 * ps.length
  | [], c => Nat.le_refl _
  | p :: ps, c => by
    have h1 := mu_partsC nm R ps (c.dn (nm ++ p) (R p))
    have h2 := mu_dn c (nm ++ p) (R p)
    show (partsC nm R (c.dn (nm ++ p) (R p)) ps).mu ≤ _
    rw [List.length_cons]
    omega
theorem mu_eachC {f : Nat → Cf → Cf} {K : Nat} (h : ∀ i c, (f i c).mu ≤ c.mu + K) : ∀ n c, (eachC f n c).mu ≤ c.mu + n * K
  | 0, c => by rw [Nat.zero_mul]; exact Nat.le_refl _
  | n + 1, c => by
    have h1 := mu_eachC h n c
    have h2 := h n (eachC f n c)
    have e : (n + 1) * K = n * K + K := Nat.succ_mul ..
    show (f n (eachC f n c)).mu ≤ _
    omega
theorem mu_keepC (c : Cf) (nm : Nm) (y : Str) (r : Int) : (keepC c nm y r).mu ≤ c.mu + 3 := by
  have h1 := len_aput c.u.st y r
  have h2 := len_aput c.u.done (nm ++ [-1]) r
  unfold Cf.mu keepC US.sz
  rw [List.length_append, List.length_singleton]
  dsimp only
  omega
mutual
theorem mu_pS : ∀ (s : Stm) {d : Nat} {L T : List Str} {q : Nm} {k : Nat} {x : BI} {c : Cf}, WFS d L T s → (pS q k x c s).mu ≤ c.mu + KS d
  | .set y e, d, _, _, q, k, x, c, h => by
    have h1 := mu_stepC q k x c h
    have h2 := KS_46 d
    rcases h1.2.2 with z | z
    · cases z
    · show (stepC q k x c (.set y e)).mu ≤ _; omega
  | .add y o e, d, _, _, q, k, x, c, h => by
    have h1 := mu_stepC q k x c h
    have h2 := KS_46 d
    rcases h1.2.2 with z | z
    · cases z
    · show (stepC q k x c (.add y o e)).mu ≤ _; omega
  | .wait t, d, _, _, q, k, x, c, h => by
    have h1 := mu_stepC q k x c h
    have h2 := KS_46 d
    rcases h1.2.2 with z | z
    · cases z
    · show (stepC q k x c (.wait t)).mu ≤ _; omega
  | .cond e a b, d, L, T, q, k, x, c, h => by
    have h1 := (mu_stepC q k x c h).1
    have hk := KS_60 h.2.1
    unfold pS
    split
    · have h2 := mu_pB a (q := q ++ [(k : Int)] ++ [0]) (k := 0) (x := ⟨a, x.env, some (q ++ [(k : Int)]), some (q, k)⟩) (c := stepC q k x c (.cond e a b)) h.2.2.2.1
      have h3 : a.length * KS (d - 1) ≤ 6 * KS (d - 1) := Nat.mul_le_mul h.2.2.1 (Nat.le_refl _)
      omega
    · have h2 := mu_pB b (q := q ++ [(k : Int)] ++ [1]) (k := 0) (x := ⟨b, x.env, some (q ++ [(k : Int)]), some (q, k)⟩) (c := stepC q k x c (.cond e a b)) h.2.2.2.2.2
      have h3 : b.length * KS (d - 1) ≤ 6 * KS (d - 1) := Nat.mul_le_mul h.2.2.2.2.1 (Nat.le_refl _)
      omega
  | .start t b, d, L, T, q, k, x, c, h => by
    have h1 := (mu_stepC q k x c h).1
    have hk := KS_60 h.2.1
    unfold pS
    have h2 := mu_pB b (q := q ++ [(k : Int)] ++ [0]) (k := 0) (x := ⟨b, x.env, some (q ++ [(k : Int)]), some (q, k)⟩) (c := stepC q k x c (.start t b)) h.2.2.2
    have h3 : b.length * KS (d - 1) ≤ 6 * KS (d - 1) := Nat.mul_le_mul h.2.2.1 (Nat.le_refl _)
    omega
  | .fork bs, d, L, T, q, k, x, c, h => by
    have h1 := (mu_stepC q k x c h).1
    have hk := KS_60 h.1
    unfold pS
    have h2 := mu_pBs bs (nm := q ++ [(k : Int)]) (q := q) (k := k) (env := x.env) (i := 0) (c := stepC q k x c (.fork bs)) h.2.2.2
    have h3 : bs.length * (6 * KS (d - 1)) ≤ 4 * (6 * KS (d - 1)) := Nat.mul_le_mul h.2.2.1 (Nat.le_refl _)
    have h4 := mu_dn (pBs (q ++ [(k : Int)]) q k x.env 0 (stepC q k x c (.fork bs)) bs) (q ++ [(k : Int)] ++ [-1]) 0
    omega
  | .each y e b, d, L, T, q, k, x, c, h => by
    have h1 := (mu_stepC q k x c h).1
    have hk := KS_60 h.2.2.1
    unfold pS
    have h2 := mu_eachC (f := fun i c => pB (q ++ [(k : Int)] ++ [(i : Int)]) 0 ⟨b, aput x.env y (i : Int), some (q ++ [(k : Int)]), some (q, k)⟩ c b) (K := 6 * KS (d - 1)) (fun i c => Nat.le_trans (mu_pB b h.2.2.2.2) (by
      have : b.length * KS (d - 1) ≤ 6 * KS (d - 1) := Nat.mul_le_mul h.2.2.2.1 (Nat.le_refl _)
      omega)) (evE c.u.st x.env e % 7).toNat (stepC q k x c (.each y e b))
    have h3 : (evE c.u.st x.env e % 7).toNat * (6 * KS (d - 1)) ≤ 6 * (6 * KS (d - 1)) := Nat.mul_le_mul (by have := mod7 (evE c.u.st x.env e); omega) (Nat.le_refl _)
    have h4 := mu_dn (eachC (fun i c => pB (q ++ [(k : Int)] ++ [(i : Int)]) 0 ⟨b, aput x.env y (i : Int), some (q ++ [(k : Int)]), some (q, k)⟩ c b) (evE c.u.st x.env e % 7).toNat (stepC q k x c (.each y e b))) (q ++ [(k : Int)] ++ [-1]) 0
    omega
  | .fold y o i e l, d, L, T, q, k, x, c, h => by
    have h1 := (mu_stepC q k x c h).2.1
    have h46 := KS_46 d
    unfold pS
    have h2 := mu_partsC (q ++ [(k : Int)]) (partR c.u.st x.env o i l) (parts 7 0 (evE c.u.st x.env e % 7).toNat) (stepC q k x c (.fold y o i e l))
    have h3 := len_parts 7 0 (evE c.u.st x.env e % 7).toNat
    have h4 := mod7 (evE c.u.st x.env e)
    have h5 := mu_keepC (partsC (q ++ [(k : Int)]) (partR c.u.st x.env o i l) (stepC q k x c (.fold y o i e l)) (parts 7 0 (evE c.u.st x.env e % 7).toNat)) (q ++ [(k : Int)]) y (if (evE c.u.st x.env e % 7).toNat = 0 then 0 else fv c.u.st x.env o i l 7 0 (evE c.u.st x.env e % 7).toNat)
    rcases h1 with z | z
    · exact absurd rfl (z y o i e l)
    · omega
theorem mu_pB : ∀ (ss : List Stm) {d : Nat} {L T : List Str} {q : Nm} {k : Nat} {x : BI} {c : Cf}, WFB d L T ss → (pB q k x c ss).mu ≤ c.mu + ss.length * KS d
  | [], _, _, _, _, _, _, c, _ => by rw [List.length_nil, Nat.zero_mul]; exact Nat.le_refl _
  | s :: ss, d, _, _, q, k, x, c, h => by
    have h1 := mu_pS s (q := q) (k := k) (x := x) (c := c) h.1
    have h2 := mu_pB ss (q := q) (k := k + 1) (x := x) (c := pS q k x c s) h.2
    have e : (ss.length + 1) * KS d = ss.length * KS d + KS d := Nat.succ_mul ..
    unfold pB
    rw [List.length_cons]
    omega
theorem mu_pBs : ∀ (bs : List (List Stm)) {d : Nat} {L T : List Str} {nm q : Nm} {k : Nat} {env : Sto} {i : Nat} {c : Cf}, WFBs d L T bs → (pBs nm q k env i c bs).mu ≤ c.mu + bs.length * (6 * KS d)
  | [], _, _, _, _, _, _, _, _, c, _ => by rw [List.length_nil, Nat.zero_mul]; exact Nat.le_refl _
  | b :: bs, d, _, _, nm, q, k, env, i, c, h => by
    have h1 := mu_pB b (q := nm ++ [(i : Int)]) (k := 0) (x := ⟨b, env, some nm, some (q, k)⟩) (c := c) h.2.1
    have h0 : b.length * KS d ≤ 6 * KS d := Nat.mul_le_mul h.1 (Nat.le_refl _)
    have h2 := mu_pBs bs (nm := nm) (q := q) (k := k) (env := env) (i := i + 1) (c := pB (nm ++ [(i : Int)]) 0 ⟨b, env, some nm, some (q, k)⟩ c b) h.2.2
    have e : (bs.length + 1) * (6 * KS d) = bs.length * (6 * KS d) + 6 * KS d := Nat.succ_mul ..
    unfold pBs
    rw [List.length_cons]
    omega
end
theorem KB3 : 6 * KS 3 + 100000 < sizeLine := by rw [sizeLine_eq]; decide
end K11
set_option Elab.async false
set_option linter.all false
set_option maxRecDepth 100000
set_option maxHeartbeats 4000000
namespace K11
open PySem PySem.Spec PyProof.Rows L2
/-! ### a block that stands, with its statements known from the k-th on -/
structure BAt (u : US) (q : Nm) (k : Nat) (x : BI) : Prop where
  bl : alook u.blocks q = some x
  kw : ∀ (j : Nat) (s : Stm), k ≤ j → x.stms[j]? = some s → alook u.known (q ++ [(j : Int)]) = some ⟨s.kd, q ++ [(j : Int)], []⟩
theorem BAt.unf (u : US) (q : Nm) (x : BI) : BAt (u.unf q x) q 0 x := ⟨unf_bl u q x, fun j s _ h => unf_kw u q x h⟩
/-- what runs elsewhere leaves it -/
theorem BAt.loc {u u' : US} {q m : Nm} {k : Nat} {x : BI} (b : BAt u q k x) (l : Loc m u u') (h : ∀ r, ¬ m <+: q ++ r) : BAt u' q k x :=
  ⟨(l q (by have := h []; rwa [List.append_nil] at this)).1.trans b.bl, fun j s hj hs => (l _ (h _)).2.1.trans (b.kw j s hj hs)⟩
theorem not_long {q : Nm} {a : Int} : ¬ q ++ [a] <+: q := fun z => by
  have := z.length_le
  rw [List.length_append, List.length_singleton] at this
  omega
theorem snoc_ne {q : Nm} {a b : Int} (h : a ≠ b) : ¬ q ++ [a] <+: q ++ [b] := fun z => by
  have := not_ext (nm := q) h []
  rw [List.append_nil] at this
  exact this z
theorem BAt.next {u u' : US} {q : Nm} {k : Nat} {x : BI} (b : BAt u q k x) (l : Loc (q ++ [(k : Int)]) u u') : BAt u' q (k + 1) x :=
  ⟨(l q not_long).1.trans b.bl, fun j s hj hs => (l _ (snoc_ne (by omega))).2.1.trans (b.kw j s (by omega) hs)⟩
/-- the values and names about a block in a run -/
structure XOk (x : BI) (d : Nat) (L T : List Str) (q : Nm) : Prop where
  eo : EnvOk x.env L
  bv : BV x.env
  el : x.env.length + d ≤ 200
  wf : WFB d L T x.stms
  few : x.stms.length ≤ 6
  lq : q.length + 2 * d ≤ 30
theorem few_of {d : Nat} {L T : List Str} : ∀ {s : Stm}, WFS d L T s → s.few
  | .cond _ a b, h => ⟨Nat.le_trans h.2.2.1 (by decide), Nat.le_trans h.2.2.2.2.1 (by decide)⟩
  | .fork bs, h => ⟨Nat.le_trans h.2.2.1 (by decide), fun b hb => Nat.le_trans (h.2.2.2.len6 hb) (by decide)⟩
  | .each _ _ b, h => Nat.le_trans h.2.2.2.1 (by decide)
  | .start _ b, h => Nat.le_trans h.2.2.1 (by decide)
  | .set _ _, _ => trivial
  | .add _ _ _, _ => trivial
  | .fold _ _ _ _ _, _ => trivial
  | .wait _, _ => trivial
theorem set_one {y : Str} {e : Exp} : ∀ H v, DS H (.set y e) v → ∃ a xs, v = .ref a ∧ H a = some (.tup xs) ∧ atI xs 1 = some (.str y) := fun H v ⟨a, ve, e, h, _⟩ => ⟨a, _, e, h, at1⟩
theorem fold_one {y o i : Str} {e l : Exp} : ∀ H v, DS H (.fold y o i e l) v → ∃ a xs, v = .ref a ∧ H a = some (.tup xs) ∧ atI xs 1 = some (.str y) := fun H v ⟨a, ve, _, e, h, _⟩ => ⟨a, _, e, h, at1⟩
/-- the deed of a statement -/
theorem doR_step {u : US} {q : Nm} {k : Nat} {x : BI} {d : Nat} {L T Tk0 : List Str} {s : Stm} {r : Int} (b : BAt u q k x) (eo : XOk x d L T q) (hs : x.stms[k]? = some s) (wf : WFS d L Tk0 s) : DoR u (q ++ [(k : Int)]) r (stepU u q k x r s) := by
  have kw := b.kw k s (Nat.le_refl _) hs
  have el := eo.el
  have lq := eo.lq
  refine ⟨s.kd, q ++ [(k : Int)], [], q, k, x, s, u1S u r s, kw, rfl, ⟨b.bl, hs⟩, by omega, few_of wf, by omega, ?_, ?_⟩
  · cases s with
    | set y e => exact .inl ⟨rfl, y, set_one, rfl⟩
    | add y o e => exact .inr (.inl ⟨rfl, rfl, y, o, e, rfl, rfl⟩)
    | cond _ _ _ => exact .inr (.inr ⟨rfl, by show ("if" : Str) ≠ "add"; decide, rfl⟩)
    | fork _ => exact .inr (.inr ⟨rfl, by show ("fork" : Str) ≠ "add"; decide, rfl⟩)
    | each _ _ _ => exact .inr (.inr ⟨rfl, by show ("each" : Str) ≠ "add"; decide, rfl⟩)
    | fold _ _ _ _ _ => exact .inr (.inr ⟨rfl, by show ("fold" : Str) ≠ "add"; decide, rfl⟩)
    | start _ _ => exact .inr (.inr ⟨rfl, by show ("start" : Str) ≠ "add"; decide, rfl⟩)
    | wait _ => exact .inr (.inr ⟨rfl, by show ("await" : Str) ≠ "add"; decide, rfl⟩)
  · cases s with
    | set y e => exact .inr (.inr ⟨rfl, by show ("set" : Str) ≠ "fold"; decide, rfl⟩)
    | add y o e => exact .inr (.inr ⟨rfl, by show ("add" : Str) ≠ "fold"; decide, rfl⟩)
    | cond _ _ _ => exact .inl ⟨rfl, rfl, rfl, rfl⟩
    | fork _ => exact .inl ⟨rfl, rfl, rfl, rfl⟩
    | each _ _ _ => exact .inl ⟨rfl, rfl, rfl, rfl⟩
    | fold _ _ _ _ _ => exact .inr (.inl ⟨rfl, rfl, rfl⟩)
    | start _ _ => exact .inl ⟨rfl, rfl, rfl, rfl⟩
    | wait _ => exact .inr (.inr ⟨rfl, by show ("await" : Str) ≠ "fold"; decide, rfl⟩)
theorem res_step {u : US} {q : Nm} {k : Nat} {x : BI} {d : Nat} {L T Tk0 : List Str} {s : Stm} (b : BAt u q k x) (eo : XOk x d L T q) (hs : x.stms[k]? = some s) (wf : WFS d L Tk0 s) : ResOf u (q ++ [(k : Int)]) (resS u x s) := by
  have kw := b.kw k s (Nat.le_refl _) hs
  unfold resS
  cases he : s.ex with
  | none => exact .no (.no kw ⟨b.bl, hs⟩ he)
  | some e =>
    have ok := wf.exOk he
    exact .ex (.stm kw ⟨b.bl, hs⟩ he) eo.bv eo.eo ok.1 (by have := ok.2; omega)
/-- a deed that leaves its result alone: leaf, pair, join -/
theorem doR_dn {u : US} {n q : Nm} {k : Nat} {x : BI} {s : Stm} {kd : Str} {p : Nm} {r : Int} (hk : alook u.known n = some ⟨kd, q ++ [(k : Int)], p⟩) (hs : StAt u q k x s) (hkd : kd = "leaf" ∨ kd = "pair" ∨ kd = "join") (el : x.env.length ≤ 1000) (few : s.few) (lq : q.length ≤ 39) :
    DoR u n r { u with done := aput u.done n r } := by
  refine ⟨kd, _, p, q, k, x, s, u, hk, rfl, hs, el, few, lq, ?_, ?_⟩
  · rcases hkd with rfl | rfl | rfl
    · exact .inr (.inr ⟨rfl, by decide, rfl⟩)
    · exact .inr (.inr ⟨rfl, by decide, rfl⟩)
    · exact .inr (.inr ⟨rfl, by decide, rfl⟩)
  · rcases hkd with rfl | rfl | rfl
    · exact .inr (.inr ⟨rfl, by decide, rfl⟩)
    · exact .inr (.inr ⟨rfl, by decide, rfl⟩)
    · exact .inr (.inr ⟨rfl, by decide, rfl⟩)
theorem doR_keep {u : US} {n q : Nm} {k : Nat} {x : BI} {y o i : Str} {e l : Exp} {r : Int} (hk : alook u.known n = some ⟨"keep", q ++ [(k : Int)], []⟩) (hs : StAt u q k x (.fold y o i e l)) (el : x.env.length ≤ 1000) (lq : q.length ≤ 39) :
    DoR u n r { u with st := aput u.st y r, done := aput u.done n r } :=
  ⟨"keep", _, [], q, k, x, _, { u with st := aput u.st y r }, hk, rfl, hs, el, trivial, lq, .inl ⟨rfl, y, fold_one, rfl⟩, .inr (.inr ⟨rfl, by decide, rfl⟩)⟩
/-! ### the parts of a fold, in their turn -/
/-- each part has what it needs when its turn comes -/
def SeqOk (nm : Nm) (R : Nm → Int) : Cf → List Nm → Prop
  | _, [] => True
  | c, p :: ps => (ResOf c.u (nm ++ p) (R p) ∧ InP (R p)) ∧ SeqOk nm R (c.dn (nm ++ p) (R p)) ps
theorem SeqOk.app {nm : Nm} {R : Nm → Int} : ∀ {a b : List Nm} {c : Cf}, SeqOk nm R c a → SeqOk nm R (partsC nm R c a) b → SeqOk nm R c (a ++ b)
  | [], _, _, _, h => h
  | _ :: _, _, _, ⟨h1, h2⟩, h => ⟨h1, SeqOk.app h2 h⟩
theorem partsC_app (nm : Nm) (R : Nm → Int) (c : Cf) (a b : List Nm) : partsC nm R c (a ++ b) = partsC nm R (partsC nm R c a) b := List.foldl_append
theorem partsC_u (nm : Nm) (R : Nm → Int) : ∀ (ps : List Nm) (c : Cf), (partsC nm R c ps).u.known = c.u.known ∧ (partsC nm R c ps).u.blocks = c.u.blocks ∧ (partsC nm R c ps).u.times = c.u.times ∧ (partsC nm R c ps).u.st = c.u.st
  | [], c => ⟨rfl, rfl, rfl, rfl⟩
  | p :: ps, c => partsC_u nm R ps (c.dn (nm ++ p) (R p))
theorem partsC_done (nm : Nm) (R : Nm → Int) : ∀ (ps : List Nm) (c : Cf) (p : Nm), (p ∈ ps → alook (partsC nm R c ps).u.done (nm ++ p) = some (R p)) ∧ (p ∉ ps → alook (partsC nm R c ps).u.done (nm ++ p) = alook c.u.done (nm ++ p))
  | [], c, p => ⟨(fun h => by cases h), fun _ => rfl⟩
  | t :: ps, c, p => by
    obtain ⟨h1, h2⟩ := partsC_done nm R ps (c.dn (nm ++ t) (R t)) p
    have d : alook (c.dn (nm ++ t) (R t)).u.done (nm ++ p) = if t = p then some (R t) else alook c.u.done (nm ++ p) := by
      show alook (aput c.u.done (nm ++ t) (R t)) (nm ++ p) = _
      by_cases e : t = p
      · subst e
        rw [if_pos rfl, alook_self]
      · rw [if_neg e, alook_ne fun z => e (List.append_cancel_left z)]
    refine ⟨fun h => ?_, fun h => ?_⟩
    · by_cases c2 : p ∈ ps
      · exact h1 c2
      · rcases List.mem_cons.mp h with rfl | h
        · exact (h2 c2).trans (by rw [d, if_pos rfl])
        · exact absurd h c2
    · have n1 : ¬ t = p := fun z => h (by rw [z]; exact List.mem_cons_self)
      exact (h2 fun z => h (List.mem_cons_of_mem _ z)).trans (by rw [d, if_neg n1])
def pr (lo hi : Nat) : Nm := if hi = lo + 1 then [(lo : Int)] else [(lo : Int), (hi : Int)]
theorem pfn_pr (n : Nm) (lo hi : Nat) : pfn n lo hi = n ++ pr lo hi := by
  unfold pfn pr
  split <;> rfl
theorem pr_mem : ∀ (k lo hi : Nat), lo < hi → hi < lo + k → pr lo hi ∈ parts k lo hi
  | 0, _, _, h1, h2 => by omega
  | k + 1, lo, hi, h1, h2 => by
    unfold parts pr
    split
    · have e : hi = lo + 1 := by omega
      subst e
      rw [if_pos rfl]
      refine List.mem_map.mpr ⟨0, by rw [List.mem_range]; omega, by simp⟩
    · rw [if_neg (by omega)]
      exact List.mem_append_right _ (List.mem_singleton.mpr rfl)
theorem fv_fuel (st env : Sto) (o i : Str) (l : Exp) : ∀ (k k' lo hi : Nat), hi < lo + k → hi < lo + k' → lo < hi → fv st env o i l k lo hi = fv st env o i l k' lo hi
  | 0, _, _, _, h, _, h3 => by omega
  | _, 0, _, _, _, h, h3 => by omega
  | k + 1, k' + 1, lo, hi, h1, h2, h3 => by
    unfold fv
    split
    · rfl
    · rw [fv_fuel st env o i l k k' lo _ (by omega) (by omega) (by omega), fv_fuel st env o i l k k' _ hi (by omega) (by omega) (by omega)]
theorem partR_pr (st env : Sto) (o i : Str) (l : Exp) (lo hi : Nat) (h : lo < hi) (h7 : hi < lo + 7) : partR st env o i l (pr lo hi) = fv st env o i l 7 lo hi := by
  unfold pr
  split
  · next e =>
    subst e
    show fv st env o i l 7 (lo : Int).toNat ((lo : Int).toNat + 1) = _
    rw [Int.toNat_natCast]
  · show fv st env o i l 7 (lo : Int).toNat (hi : Int).toNat = _
    rw [Int.toNat_natCast, Int.toNat_natCast]
/-- a fold's parts, from lo to hi: each has what it needs -/
theorem seq_parts {nm q : Nm} {kk : Nat} {x : BI} {y o i : Str} {e l : Exp} {st env : Sto} {L : List Str} (en : nm = q ++ [(kk : Int)]) (hx : x.env = env) (el : env.length ≤ 1000) (hs : BV st) (he : BV env) (eo : EnvOk env L) (hl : WFE (L ++ [i]) l) (hd : l.dep ≤ 2) :
    ∀ (k lo hi : Nat) (c : Cf), lo < hi → hi < lo + k → hi < 7 → k ≤ 7 → c.u.st = st → StAt c.u q kk x (.fold y o i e l) → (∀ p, p ∈ parts k lo hi → alook c.u.known (nm ++ p) = some ⟨kdOf p, nm, p⟩) → SeqOk nm (partR st env o i l) c (parts k lo hi)
  | 0, lo, hi, c, h1, h2, _, _, _, _, _ => by omega
  | k + 1, lo, hi, c, h1, h2, h3, h7, hst, hat, hkn => by
    have hpr : pr lo hi ∈ parts (k + 1) lo hi := pr_mem (k + 1) lo hi h1 h2
    have rin : InP (partR st env o i l (pr lo hi)) := by
      rw [partR_pr st env o i l lo hi h1 (by omega)]
      exact fv_in hs he hl 7 lo hi (by omega) (by omega)
    have kpr := hkn _ hpr
    by_cases c2 : hi < lo + 2
    · have e1 : hi = lo + 1 := by omega
      subst e1
      have ep : parts (k + 1) lo (lo + 1) = [[(lo : Int)]] := by
        unfold parts
        rw [if_pos c2, show lo + 1 - lo = 1 by omega]
        simp
      have epr : pr lo (lo + 1) = [(lo : Int)] := by unfold pr; rw [if_pos rfl]
      rw [ep]
      rw [epr] at rin kpr
      refine ⟨⟨?_, rin⟩, trivial⟩
      have ev : partR st env o i l [(lo : Int)] = evE c.u.st (aput env i (lo : Int)) l := by
        show fv st env o i l 7 (lo : Int).toNat ((lo : Int).toNat + 1) = _
        rw [Int.toNat_natCast, hst]
        show (if lo + 1 < lo + 2 then _ else _) = _
        rw [if_pos (by omega)]
      rw [ev]
      subst hx
      rw [en] at kpr ⊢
      exact .ex (.leaf kpr hat el) (bv_put he i (by omega)) (eo.put i _) hl (by omega)
    · have ep : parts (k + 1) lo hi = parts k lo ((lo + hi) / 2) ++ parts k ((lo + hi) / 2) hi ++ [[(lo : Int), (hi : Int)]] := by
        show (if hi < lo + 2 then _ else _) = _
        rw [if_neg c2]
      have epr : pr lo hi = [(lo : Int), (hi : Int)] := by unfold pr; rw [if_neg (by omega)]
      rw [ep] at hkn ⊢
      have u1 := partsC_u nm (partR st env o i l) (parts k lo ((lo + hi) / 2)) c
      have s1 := seq_parts en hx el hs he eo hl hd k lo ((lo + hi) / 2) c (by omega) (by omega) (by omega) (by omega) hst hat (fun p hp => hkn p (List.mem_append_left _ (List.mem_append_left _ hp)))
      have s2 := seq_parts en hx el hs he eo hl hd k ((lo + hi) / 2) hi (partsC nm (partR st env o i l) c (parts k lo ((lo + hi) / 2))) (by omega) (by omega) h3 (by omega) (u1.2.2.2.trans hst) ⟨by rw [u1.2.1]; exact hat.bl, hat.st⟩
        (fun p hp => by rw [u1.1]; exact hkn p (List.mem_append_left _ (List.mem_append_right _ hp)))
      refine SeqOk.app (SeqOk.app s1 s2) ⟨⟨?_, by rw [← epr]; exact rin⟩, trivial⟩
      have u2 := partsC_u nm (partR st env o i l) (parts k lo ((lo + hi) / 2) ++ parts k ((lo + hi) / 2) hi) c
      have m1 := pr_mem k lo ((lo + hi) / 2) (by omega) (by omega)
      have m2 := pr_mem k ((lo + hi) / 2) hi (by omega) (by omega)
      have d1 := (partsC_done nm (partR st env o i l) (parts k lo ((lo + hi) / 2) ++ parts k ((lo + hi) / 2) hi) c (pr lo ((lo + hi) / 2))).1 (List.mem_append_left _ m1)
      have d2 := (partsC_done nm (partR st env o i l) (parts k lo ((lo + hi) / 2) ++ parts k ((lo + hi) / 2) hi) c (pr ((lo + hi) / 2) hi)).1 (List.mem_append_right _ m2)
      rw [partR_pr st env o i l _ _ (by omega) (by omega)] at d1 d2
      have ev : partR st env o i l [(lo : Int), (hi : Int)] = opd o (fv st env o i l 7 lo ((lo + hi) / 2)) (fv st env o i l 7 ((lo + hi) / 2) hi) := by
        rw [← epr, partR_pr st env o i l lo hi h1 (by omega)]
        show (if hi < lo + 2 then _ else _) = _
        rw [if_neg c2, fv_fuel st env o i l 6 7 lo _ (by omega) (by omega) (by omega), fv_fuel st env o i l 6 7 _ hi (by omega) (by omega) (by omega)]
      rw [ev]
      rw [epr] at kpr
      have ek : kdOf [(lo : Int), (hi : Int)] = "pair" := rfl
      rw [ek] at kpr
      rw [← pfn_pr] at d1 d2
      subst en
      exact .pair (by rw [u2.1]; exact kpr) (by omega) (by omega) ⟨by rw [u2.2.1]; exact hat.bl, hat.st⟩ d1 d2 (fv_in hs he hl 7 _ _ (by omega) (by omega)) (fv_in hs he hl 7 _ _ (by omega) (by omega))
end K11
set_option Elab.async false
set_option linter.all false
set_option maxRecDepth 100000
set_option maxHeartbeats 4000000
namespace K11
open PySem PySem.Spec PyProof.Rows L2
theorem pB_app (q : Nm) (x : BI) : ∀ (a b : List Stm) (k : Nat) (c : Cf), pB q k x c (a ++ b) = pB q (k + a.length) x (pB q k x c a) b
  | [], b, k, c => rfl
  | s :: a, b, k, c => by
    show pB q (k + 1) x (pS q k x c s) (a ++ b) = pB q (k + (a.length + 1)) x (pB q (k + 1) x (pS q k x c s) a) b
    rw [pB_app q x a b (k + 1), show k + 1 + a.length = k + (a.length + 1) by omega]
theorem pBs_app (nm q : Nm) (kk : Nat) (env : Sto) : ∀ (a b : List (List Stm)) (k : Nat) (c : Cf), pBs nm q kk env k c (a ++ b) = pBs nm q kk env (k + a.length) (pBs nm q kk env k c a) b
  | [], b, k, c => rfl
  | s :: a, b, k, c => by
    show pBs nm q kk env (k + 1) _ (a ++ b) = pBs nm q kk env (k + (a.length + 1)) (pBs nm q kk env (k + 1) _ a) b
    rw [pBs_app nm q kk env a b (k + 1), show k + 1 + a.length = k + (a.length + 1) by omega]
theorem pB_take {q : Nm} {x : BI} {c : Cf} {i : Nat} {s : Stm} {ss : List Stm} (h : ss[i]? = some s) : pB q 0 x c (ss.take (i + 1)) = pS q i x (pB q 0 x c (ss.take i)) s := by
  have hi : i < ss.length := (List.getElem?_eq_some_iff.mp h).1
  rw [List.take_succ, h, pB_app, Nat.zero_add, List.length_take, Nat.min_eq_left (Nat.le_of_lt hi)]
  rfl
theorem pBs_take {nm q : Nm} {kk : Nat} {env : Sto} {c : Cf} {i : Nat} {b : List Stm} {bs : List (List Stm)} (h : bs[i]? = some b) : pBs nm q kk env 0 c (bs.take (i + 1)) = pB (nm ++ [(i : Int)]) 0 ⟨b, env, some nm, some (q, kk)⟩ (pBs nm q kk env 0 c (bs.take i)) b := by
  have hi : i < bs.length := (List.getElem?_eq_some_iff.mp h).1
  rw [List.take_succ, h, pBs_app, Nat.zero_add, List.length_take, Nat.min_eq_left (Nat.le_of_lt hi)]
  rfl
theorem done_loopU (u : US) (nm : Nm) (f : Nat → BI) : ∀ n, (loopU u nm f n).done = u.done
  | 0 => rfl
  | n + 1 => done_loopU u nm f n
theorem times_loopU (u : US) (nm : Nm) (f : Nat → BI) : ∀ n, (loopU u nm f n).times = u.times
  | 0 => rfl
  | n + 1 => times_loopU u nm f n
theorem done_goU (u : US) (nm q : Nm) (k : Int) (x : BI) (v : Int) : ∀ s : Stm, (goU u nm q k x v s).done = u.done
  | .cond _ _ _ => rfl
  | .start _ _ => rfl
  | .fork bs => done_loopU _ nm _ _
  | .each _ _ _ => done_loopU _ nm _ _
  | .set _ _ => rfl
  | .add _ _ _ => rfl
  | .fold _ _ _ _ _ => rfl
  | .wait _ => rfl
theorem done_stepU (u : US) (q : Nm) (k : Nat) (x : BI) (r : Int) (s : Stm) : alook (stepU u q k x r s).done (q ++ [(k : Int)]) = some r := by
  have e : (stepU u q k x r s).done = aput (u1S u r s).done (q ++ [(k : Int)]) r := by
    cases s <;> first | rfl | exact done_goU _ _ _ _ _ _ _
  rw [e]
  exact alook_self _ _ _
/-- a block that an opened statement runs -/
structure Opened (u : US) (nm q : Nm) (k : Nat) (n : Nat) (f : Nat → BI) : Prop where
  tm : alook u.times nm = some n
  at_ : ∀ i, i < n → BAt u (nm ++ [(i : Int)]) 0 (f i)
  jn : alook u.known (nm ++ [-1]) = some ⟨"join", nm, []⟩
theorem opened_loop (u : US) (nm q : Nm) (k : Nat) (n : Nat) (f : Nat → BI) : Opened { loopU { u with times := aput u.times nm n } nm f n with known := aput (loopU { u with times := aput u.times nm n } nm f n).known (nm ++ [-1]) ⟨"join", nm, []⟩ } nm q k n f := by
  refine ⟨?_, fun i hi => ?_, alook_self _ _ _⟩
  · show alook (loopU _ nm f n).times nm = _
    rw [times_loopU]
    exact alook_self _ _ _
  · obtain ⟨h1, h2⟩ := loopU_at nm { u with times := aput u.times nm n } f n hi
    refine ⟨h1, fun j s _ hs => ?_⟩
    show alook (aput _ _ _) _ = _
    rw [alook_ne, h2 j s hs]
    intro z
    have := congrArg List.length z
    simp at this
theorem opened_fork (u : US) (q : Nm) (k : Nat) (x : BI) (r : Int) (bs : List (List Stm)) : Opened (stepU u q k x r (.fork bs)) (q ++ [(k : Int)]) q k bs.length (fun i => ⟨bs.getD i [], x.env, some (q ++ [(k : Int)]), some (q, (k : Int))⟩) := opened_loop _ _ _ _ _ _
theorem opened_each (u : US) (q : Nm) (k : Nat) (x : BI) (r : Int) (y : Str) (e : Exp) (b : List Stm) : Opened (stepU u q k x r (.each y e b)) (q ++ [(k : Int)]) q k (r % 7).toNat (fun i => ⟨b, aput x.env y (i : Int), some (q ++ [(k : Int)]), some (q, (k : Int))⟩) := opened_loop _ _ _ _ _ _
/-- the deeds of fork and each run their blocks, one behind another -/
structure Walk (nm : Nm) (n : Nat) (f : Nat → BI) (cs : Nat → Cf) : Prop where
  step : ∀ i, i < n → cs (i + 1) = pB (nm ++ [(i : Int)]) 0 (f i) (cs i) (f i).stms
theorem walk_fork (nm q : Nm) (k : Nat) (env : Sto) (c : Cf) (bs : List (List Stm)) : Walk nm bs.length (fun i => ⟨bs.getD i [], env, some nm, some (q, (k : Int))⟩) (fun i => pBs nm q k env 0 c (bs.take i)) := ⟨fun i hi => by
  have h : bs[i]? = some bs[i] := List.getElem?_eq_getElem hi
  have e : bs.getD i [] = bs[i] := by rw [List.getD_eq_getElem?_getD, h]; rfl
  show pBs nm q k env 0 c (bs.take (i + 1)) = _
  rw [pBs_take h]
  dsimp only
  rw [e]⟩
theorem walk_each (nm q : Nm) (k : Nat) (g : Nat → Sto) (c : Cf) (b : List Stm) (n : Nat) : Walk nm n (fun i => ⟨b, g i, some nm, some (q, (k : Int))⟩) (fun i => eachC (fun i c => pB (nm ++ [(i : Int)]) 0 ⟨b, g i, some nm, some (q, (k : Int))⟩ c b) i c) := ⟨fun i hi => rfl⟩
theorem BAt.st {u : US} {q : Nm} {k : Nat} {x : BI} (b : BAt u q k x) {s : Stm} (h : x.stms[k]? = some s) : StAt u q k x s := ⟨b.bl, h⟩
theorem StAt.loc {u u' : US} {q : Nm} {k : Nat} {x : BI} {s : Stm} {a : Int} (h : StAt u q k x s) (l : Loc (q ++ [a]) u u') : StAt u' q k x s := ⟨(l q not_long).1.trans h.bl, h.st⟩
theorem parts_known {u : US} {nm : Nm} {v : Int} {p : Nm} (h : p ∈ parts 7 0 (v % 7).toNat) (hne : p ≠ [-1]) : alook (foldU u nm v).known (nm ++ p) = some ⟨kdOf p, nm, p⟩ := by
  show alook (aput _ _ _) _ = _
  rw [alook_ne fun z => hne (List.append_cancel_left z).symm]
  exact look_partN nm _ _ p _ (Nat.le_refl _) (by rw [List.take_length]; exact h)
theorem parts_nat : ∀ (k lo hi : Nat) (p : Nm), p ∈ parts k lo hi → ∃ (a : Nat) (r : Nm), p = (a : Int) :: r
  | 0, _, _, p, h => by cases h
  | k + 1, lo, hi, p, h => by
    unfold parts at h
    split at h
    · obtain ⟨i, _, rfl⟩ := List.mem_map.mp h
      exact ⟨lo + i, [], rfl⟩
    · rcases List.mem_append.mp h with h | h
      · rcases List.mem_append.mp h with h | h
        · exact parts_nat k _ _ p h
        · exact parts_nat k _ _ p h
      · rw [List.mem_singleton.mp h]
        exact ⟨lo, _, rfl⟩
theorem parts_m1 {k lo hi : Nat} {p : Nm} (h : p ∈ parts k lo hi) : p ≠ [-1] := by
  obtain ⟨a, r, rfl⟩ := parts_nat k lo hi p h
  intro z
  injection z with z _
  omega
theorem kdOf_lp (p : Nm) : kdOf p = "leaf" ∨ kdOf p = "pair" := by
  unfold kdOf
  split
  · exact .inl rfl
  · exact .inr rfl
end K11
set_option Elab.async false
set_option linter.all false
set_option maxRecDepth 100000
set_option maxHeartbeats 4000000
namespace K11
open PySem PySem.Spec PyProof.Rows L2
structure SA where
  p : Addr
  dx : Addr
  o : Addr
/-- a serial run at work -/
structure RAt (K : PySem.W.Frag) (A : AA) (S : SA) (H : Hp) (c : Cf) : Prop where
  ins : H S.p = some (.ins (ad K "SerialRun") S.dx [("run", .ref A.u), ("order", .ref S.o)])
  u : UT K A H c.u
  ord : LN H c.ord S.o
theorem LN.mono {H H' : Hp} (k : Tk H H') {ns : List Nm} {a : Addr} (h : LN H ns a) (e : ∀ o, H a = some o → H' a = some o) : LN H' ns a := h.elim fun vs q => ⟨vs, e _ q.1, q.2.mono k⟩
section
variable {K : PySem.W.Frag} {A : AA} {S : SA} {H H' : Hp} {c : Cf}
theorem RAt.same (h : RAt K A S H c) (s : Same H H') : RAt K A S H' c := ⟨s _ _ h.ins, h.u.same s, h.ord.mono (Tk.same s) (s _)⟩
def SA.mut (S : SA) (A : AA) : List Addr := S.o :: A.mut
theorem kp_tk (h : RAt K A S H c) (k : Kp (S.mut A) H H') : Tk H H' := fun a vs e => k a _ e fun z => by
  rcases List.mem_cons.mp z with rfl | z
  · obtain ⟨_, q, _⟩ := h.ord
    rw [e] at q; cases q
  · exact h.u.dd.tup e z
end
section
variable {P : Program} {w : World} {K : PySem.W.Frag} {mg : Str → Option Value} {base : Heap}
def spSDo : Sp := fun vs H Q _ => ∃ (A : AA) (S : SA) (c : Cf) (u' : US) (n : Nm) (na : Addr) (r : Int), vs = [.ref S.p, .ref na] ∧ RAt K A S H c ∧ NM H n na ∧ n.length ≤ 40 ∧ BV c.u.st ∧ ResOf c.u n r ∧ InP r ∧ DoR c.u n r u' ∧ c.mu + 3000 < sizeLine ∧
  ∀ H', Kp (S.mut A) H H' → RAt K A S H' ⟨u', c.ord ++ [n]⟩ → Q .non H'
theorem sc_SerialRun_do : FnScope ["self", "name"] ["self", "name"] (defScope s_SerialRun_do) := ⟨rfl, rfl, rfl, by decide +kernel, rfl, by decide +kernel, by decide +kernel⟩
theorem ok_sdo (T : Txt w K mg) (C_Udo : C8.Met P w K mg base 16 (ad K "Unfolding") "do" (spDo (K := K)) []) : C8.Met P w K mg base 17 (ad K "SerialRun") "do" (spSDo (K := K)) [] := by
  refine T.f_SerialRun_do.met T.c_SerialRun sc_SerialRun_do (fun vs H Q E h => by obtain ⟨_, _, _, _, _, _, _, rfl, _⟩ := h; rfl) fun f0 cdv AR outer s H vs Q E hr h => ?_
  obtain ⟨A, S, c, u', n, na, r, rfl, hR, hn, hl, bs, ro, rin, dr, hz, k0⟩ := h
  refine ⟨_, (pss_cons (ps_expr (C8.pe_mt C_Udo hr (by omega) (kfld K rfl (pv 0) rfl) (pa_cons (pv 1) pa_nil))) 
    (pss_one (ps_expr (pe_bm PySem.F.plainAttrs_list PySem.F.slot_list_append PySem.F.type_list_append mt_append (kfld K rfl (pv 0) rfl) (pa_cons (pv 1) pa_nil))))), ?_⟩
  have hz' : c.u.sz + c.ord.length + 3000 < sizeLine := hz
  refine ⟨_, rfl, _, _, _, _, _, rfl, hR.ins, T.c_SerialRun, T.n_SerialRun_run, rfl, A.u, _, _, rfl, hR.u.ins, rfl, _, rfl, A, c.u, u', n, na, r, rfl, hR.u, hn, hl, bs, ro, rin, dr, by omega, fun H1 k1 U1 => ?_⟩
  have nS : S.p ∉ A.mut := hR.u.dd.ins hR.ins
  obtain ⟨vs, ho, nv⟩ := hR.ord
  have nO : S.o ∉ A.mut := hR.u.dd.lst ho
  have hi1 := k1 _ _ hR.ins nS
  have ho1 := k1 _ _ ho nO
  have T1 := tk_of hR.u.dd k1
  have hn1 := hn.mono T1
  refine ⟨_, rfl, _, _, _, _, _, rfl, hi1, T.c_SerialRun, T.n_SerialRun_order, rfl, .inl ⟨rfl, _, .inl (.inl ho1)⟩, _, rfl, S.o, vs, _, rfl, rfl, ho1, by have := nv.len; omega, ?_⟩
  have k2 : Kp [S.o] H1 (upd H1 S.o (.lst (vs ++ [V.ref na]))) := Kp.upd (by simp)
  have T2 : Tk H1 (upd H1 S.o (.lst (vs ++ [V.ref na]))) := tk_upd fun ws e => by rw [ho1] at e; cases e
  have U2 : UT K A (upd H1 S.o (.lst (vs ++ [V.ref na]))) u' := by
    have e : ∀ b o, H1 b = some o → (∀ ws, o ≠ .lst ws) → upd H1 S.o (.lst (vs ++ [V.ref na])) b = some o := fun b o h nl => by
      rw [upd_ne]
      · exact h
      · intro z
        subst z
        rw [ho1] at h
        cases h
        exact nl _ rfl
    have e2 : ∀ b kv, H1 b = some (.dK kv) → upd H1 S.o (.lst (vs ++ [V.ref na])) b = some (.dK kv) := fun b kv h => e b _ h fun ws z => by cases z
    have e3 : ∀ b kv, H1 b = some (.dT kv) → upd H1 S.o (.lst (vs ++ [V.ref na])) b = some (.dT kv) := fun b kv h => e b _ h fun ws z => by cases z
    have rb : ∀ x v, RB (ad K "Block") A.mut H1 x v → RB (ad K "Block") A.mut (upd H1 S.o (.lst (vs ++ [V.ref na]))) x v := fun x v ⟨b, bx, sa, ee, vh, va, h0, h1, h2, h3, ⟨kk, h4, h4'⟩, h5, h6⟩ =>
      ⟨b, bx, sa, ee, vh, va, h0, e _ _ h1 (fun ws z => by cases z), h2.mono T2, h3, ⟨kk, e2 _ _ h4, h4'⟩, h5.mono T2, h6.mono T2⟩
    exact ⟨e _ _ U1.ins fun ws z => (by cases z), U1.st.elim fun kk q => ⟨kk, e2 _ _ q.1, q.2⟩, U1.dn.elim fun kk q => ⟨kk, e3 _ _ q.1, q.2⟩, U1.bl.elim fun kk q => ⟨kk, e3 _ _ q.1, q.2.mono rb⟩, U1.kw.elim fun kk q => ⟨kk, e3 _ _ q.1, q.2.mono fun _ _ z => z.mono T2⟩, U1.tm.elim fun kk q => ⟨kk, e3 _ _ q.1, q.2⟩, U1.nd⟩
  refine k0 _ ((k1.sub fun b hb => List.mem_cons_of_mem _ hb).trans (k2.sub fun b hb => by rw [List.mem_singleton.mp hb]; exact List.mem_cons_self)) ⟨?_, U2, _, upd_same, paired_app (nv.mono (T1.trans T2)) (.cons ⟨na, rfl, hn1.mono T2⟩ .nil)⟩
  rw [upd_ne]
  · exact hi1
  · intro z
    rw [z] at hi1
    rw [ho1] at hi1
    cases hi1
end
end K11
set_option Elab.async false
set_option linter.all false
set_option maxRecDepth 100000
set_option maxHeartbeats 4000000
namespace K11
open PySem PySem.Spec PyProof.Rows L2
theorem WFB.take : ∀ {d : Nat} {L T : List Str} {ss : List Stm} (i : Nat), WFB d L T ss → WFB d L T (ss.take i)
  | _, _, _, [], i, _ => by rw [List.take_nil]; trivial
  | _, _, _, _ :: _, 0, _ => trivial
  | _, _, _, s :: ss, i + 1, h => ⟨h.1, WFB.take i h.2⟩
/-- a block below -/
theorem XOk.below {x : BI} {d : Nat} {L T : List Str} {q : Nm} (h : XOk x d L T q) {T' : List Str} {b : List Stm} {i : Nat} {m : Int} {hg : Option Nm} {ar : Option (Nm × Int)} (hd : 0 < d) (hb : b.length ≤ 6) (wf : WFB (d - 1) L T' b) : XOk ⟨b, x.env, hg, ar⟩ (d - 1) L T' (q ++ [(i : Int)] ++ [m]) := by
  have h1 := h.el
  have h2 := h.lq
  exact ⟨h.eo, h.bv, by show x.env.length + (d - 1) ≤ 200; omega, wf, hb, by rw [List.length_append, List.length_append]; show q.length + 1 + 1 + 2 * (d - 1) ≤ 30; omega⟩
theorem XOk.loop {x : BI} {d : Nat} {L T : List Str} {q : Nm} (h : XOk x d L T q) {T' : List Str} {b : List Stm} {y : Str} {i j : Nat} {m : Int} {hg : Option Nm} {ar : Option (Nm × Int)} (hd : 0 < d) (hj : j < 7) (hb : b.length ≤ 6) (wf : WFB (d - 1) (L ++ [y]) T' b) : XOk ⟨b, aput x.env y (j : Int), hg, ar⟩ (d - 1) (L ++ [y]) T' (q ++ [(i : Int)] ++ [m]) := by
  have h1 := h.el
  have h2 := h.lq
  have h3 := len_aput x.env y (j : Int)
  exact ⟨h.eo.put y _, bv_put h.bv y hj, by show (aput x.env y (j : Int)).length + (d - 1) ≤ 200; omega, wf, hb, by rw [List.length_append, List.length_append]; show q.length + 1 + 1 + 2 * (d - 1) ≤ 30; omega⟩
theorem fe_walk {x : BI} {d : Nat} {L T T0 : List Str} {q : Nm} {i : Nat} {c : Cf} {s : Stm} (h : XOk x d L T q) (wf : WFS d L T0 s) (hs : inV (.str s.kd) [V.str "fork", V.str "each"] = true) :
    ∃ (n : Nat) (f : Nat → BI) (cs : Nat → Cf), Walk (q ++ [(i : Int)]) n f cs ∧ cs 0 = stepC q i x c s ∧ pS q i x c s = (cs n).dn (q ++ [(i : Int)] ++ [-1]) 0 ∧ Opened (stepC q i x c s).u (q ++ [(i : Int)]) q i n f ∧ n ≤ 6 ∧ 0 < d ∧
      ∀ j, j < n → ∃ Lj Tj, XOk (f j) (d - 1) Lj Tj (q ++ [(i : Int)] ++ [(j : Int)]) := by
  cases s with
  | fork bs =>
    refine ⟨bs.length, _, _, walk_fork (q ++ [(i : Int)]) q i x.env (stepC q i x c (.fork bs)) bs, ?_, ?_, opened_fork _ _ _ _ _ _, Nat.le_trans wf.2.2.1 (by decide), wf.1, fun j hj => ?_⟩
    · show pBs _ _ _ _ 0 _ (bs.take 0) = _
      rw [List.take_zero]
      rfl
    · show pS q i x c (.fork bs) = (pBs _ _ _ _ 0 _ (bs.take bs.length)).dn _ 0
      rw [List.take_length]
      unfold pS
      rfl
    · have hb : bs[j]? = some bs[j] := List.getElem?_eq_getElem hj
      have e : bs.getD j [] = bs[j] := by rw [List.getD_eq_getElem?_getD, hb]; rfl
      obtain ⟨w1, w2⟩ := wf.2.2.2.at hb
      refine ⟨L, T0, ?_⟩
      rw [e]
      exact h.below wf.1 w1 w2
  | each y e b =>
    refine ⟨(resS c.u x (.each y e b) % 7).toNat, _, _, walk_each (q ++ [(i : Int)]) q i (fun j => aput x.env y (j : Int)) (stepC q i x c (.each y e b)) b _, rfl, ?_, opened_each _ _ _ _ _ _ _ _, by have := mod7 (resS c.u x (.each y e b)); omega, wf.2.2.1, fun j hj => ?_⟩
    · unfold pS
      rfl
    · exact ⟨L ++ [y], T0, h.loop wf.2.2.1 (Nat.lt_trans hj (mod7 _)) wf.2.2.2.1 wf.2.2.2.2⟩
  | _ => cases hs
theorem walk_mu {nm : Nm} {n : Nat} {f : Nat → BI} {cs : Nat → Cf} {d : Nat} (w : Walk nm n f cs) (hx : ∀ j, j < n → ∃ Lj Tj, XOk (f j) d Lj Tj (nm ++ [(j : Int)])) : ∀ j, j ≤ n → (cs j).mu ≤ (cs 0).mu + j * (6 * KS d)
  | 0, _ => by rw [Nat.zero_mul]; exact Nat.le_refl _
  | j + 1, hj => by
    obtain ⟨Lj, Tj, xo⟩ := hx j (by omega)
    have h1 := walk_mu w hx j (by omega)
    have h2 := mu_pB (f j).stms (q := nm ++ [(j : Int)]) (k := 0) (x := f j) (c := cs j) xo.wf
    have h3 : (f j).stms.length * KS d ≤ 6 * KS d := Nat.mul_le_mul xo.few (Nat.le_refl _)
    have e : (j + 1) * (6 * KS d) = j * (6 * KS d) + 6 * KS d := Nat.succ_mul ..
    rw [w.step j (by omega)]
    omega
section
variable {P : Program} {w : World} {K : PySem.W.Frag} {mg : Str → Option Value} {base : Heap}
def spSBlk (n : Nat) : Sp := fun vs H Q _ => ∃ (A : AA) (S : SA) (c : Cf) (q : Nm) (qa : Addr) (x : BI) (d : Nat) (L T0 : List Str), vs = [.ref S.p, .ref qa] ∧ RAt K A S H c ∧ NM H q qa ∧ BAt c.u q 0 x ∧ XOk x d L T0 q ∧ BV c.u.st ∧ d < n ∧ c.mu + x.stms.length * KS d + 5000 < sizeLine ∧
  ∀ H', Kp (S.mut A) H H' → RAt K A S H' (pB q 0 x c x.stms) → Q .non H'
theorem sc_SerialRun_do_block : FnScope ["self", "q", "k", "statement", "name", "kind", "b", "part"] ["self", "q"] (defScope s_SerialRun_do_block) := ⟨rfl, rfl, rfl, by decide +kernel, rfl, by decide +kernel, by decide +kernel⟩
theorem do_block_1 {kl n : Nat} (T : Txt w K mg) (hkl : 17 ≤ kl) (C_do : C8.Met P w K mg base 17 (ad K "SerialRun") "do" (spSDo (K := K)) []) (C_parts_of_fold : C8.Cal P w K mg base 7 "parts_of_fold" (spParts 7) [])
    (C_do_block : C8.Met P w K mg base kl (ad K "SerialRun") "do_block" (spSBlk (K := K) n) []) : C8.Met P w K mg base (kl + 1) (ad K "SerialRun") "do_block" (spSBlk (K := K) (n + 1)) [] := by
  refine T.f_SerialRun_do_block.met T.c_SerialRun sc_SerialRun_do_block (fun vs H Q E h => by obtain ⟨_, _, _, _, _, _, _, _, _, rfl, _⟩ := h; rfl) fun f0 cdv AR outer s H vs Q E hr h => ?_
  obtain ⟨A, S, c, q, qa, x, d, L, T0, rfl, hR, hq, hB, hX, hbv, hd, hz, k0⟩ := h
  refine ⟨_, (pss_one (ps_for PassesOwn.never rfl (pi_enumT (by rfl) T.z_enumerate (pa_cons (kfld K rfl (pe_dget (hu_of hr) (kfld K rfl (kfld K rfl (pv 0) rfl) rfl) (pv 1) (fun _ _ => rfl)) rfl) pa_nil)) (kpg_tup (n := 2) K rfl rfl (pgs_cons (pg_name (i := 2) sc_SerialRun_do_block.nd rfl (Or.inl rfl)) (pgs_cons (pg_name (i := 3) sc_SerialRun_do_block.nd rfl (Or.inl rfl)) pgs_nil))) 
      (pss_cons (ps_set (i := 4) sc_SerialRun_do_block.nd rfl (Or.inl rfl) (pe_op op_catN (pv 1) (pe_tup (pa_cons (pv 2) pa_nil)))) 
      (pss_cons (ps_expr (C8.pe_mt C_do hr (by omega) (pv 0) (pa_cons (pv 4) pa_nil))) 
      (pss_cons (ps_set (i := 5) sc_SerialRun_do_block.nd rfl (Or.inl rfl) (pe_ix (kix_tup K rfl) (pv 3) pe_int (fun _ _ => rfl))) 
      (pss_one (ps_if (pt_cmpR op_eq (pv 5) pe_str (nomark _)) (pss_one (ps_expr (C8.pe_mt C_do_block hr (by omega) (pv 0) (pa_cons (pe_op op_catN (pv 4) (pe_tup (pa_cons (pe_ifExp (pt_cmpR op_ne (pe_dget (hu_of hr) (kfld K rfl (kfld K rfl (pv 0) rfl) rfl) (pv 4) (fun _ _ => rfl)) pe_int (nomark _)) pe_int pe_int) pa_nil))) pa_nil)))) (pss_one (ps_if (pt_cmpR op_eq (pv 5) pe_str (nomark _)) (pss_one (ps_expr (C8.pe_mt C_do_block hr (by omega) (pv 0) (pa_cons (pe_op op_catN (pv 4) (pe_tup (pa_cons pe_int pa_nil))) pa_nil)))) (pss_one (ps_if (pt_cmpR (kin_seq K rfl) (pv 5) (pe_tup (pa_cons pe_str (pa_cons pe_str pa_nil))) (by rfl)) 
            (pss_cons (ps_for PassesOwn.never rfl (pi_range1 rfl T.z_range (pa_cons (pe_dget (hu_of hr) (kfld K rfl (kfld K rfl (pv 0) rfl) rfl) (pv 4) (fun _ _ => rfl)) pa_nil)) (pg_name (i := 6) sc_SerialRun_do_block.nd rfl (Or.inl rfl)) (pss_one (ps_expr (C8.pe_mt C_do_block hr (by omega) (pv 0) (pa_cons (pe_op op_catN (pv 4) (pe_tup (pa_cons (pv 6) pa_nil))) pa_nil))))) 
            (pss_one (ps_expr (C8.pe_mt C_do hr (by omega) (pv 0) (pa_cons (pe_op op_catN (pv 4) (pe_tup (pa_cons (pe_un un_neg pe_int) pa_nil))) pa_nil))))) (pss_one (ps_if (pt_cmpR op_eq (pv 5) pe_str (nomark _)) 
              (pss_cons (ps_for PassesOwn.never rfl (pi_list (C8.pe_c C_parts_of_fold hr (by omega) rfl (pa_cons pe_int (pa_cons (pe_dget (hu_of hr) (kfld K rfl (kfld K rfl (pv 0) rfl) rfl) (pv 4) (fun _ _ => rfl)) pa_nil)))) (pg_name (i := 7) sc_SerialRun_do_block.nd rfl (Or.inl rfl)) (pss_one (ps_expr (C8.pe_mt C_do hr (by omega) (pv 0) (pa_cons (pe_op op_catN (pv 4) (pv 7)) pa_nil))))) 
              (pss_one (ps_expr (C8.pe_mt C_do hr (by omega) (pv 0) (pa_cons (pe_op op_catN (pv 4) (pe_tup (pa_cons (pe_un un_neg pe_int) pa_nil))) pa_nil))))) pss_nil))))))))))))), ?_⟩
  obtain ⟨kvs, hb, al⟩ := hR.u.bl
  obtain ⟨v, hv, rb⟩ := al.look kn_inj q hB.bl
  obtain ⟨b, bx, sa, e, vh, va, rfl, hb1, ⟨ws, hs1, ds1⟩, _⟩ := rb
  have lw := ds1.length
  have lq := hX.lq
  refine ⟨_, rfl, _, _, _, _, _, rfl, hR.ins, T.c_SerialRun, T.n_SerialRun_run, rfl, _, _, _, _, _, rfl, hR.u.ins, T.c_Unfolding, T.n_Unfolding_blocks, rfl, _, rfl, _, _, rfl, dget_t hb hq hv, _, _, _, _, _, rfl, hb1, T.c_Block, T.n_Block_statements, rfl, sa, ws, rfl, hs1, for_enumT (xs := ws) (fun i σ H' => (∃ c2 c3 c4 c5 c6 c7, σ = [some (.ref S.p), some (.ref qa), c2, c3, c4, c5, c6, c7]) ∧ Kp (S.mut A) H H' ∧ RAt K A S H' (pB q 0 x c (x.stms.take i)) ∧
    BAt (pB q 0 x c (x.stms.take i)).u q i x ∧ BV (pB q 0 x c (x.stms.take i)).u.st) ⟨⟨_, _, _, _, _, _, rfl⟩, Kp.refl _ _, by rw [List.take_zero]; exact hR, by rw [List.take_zero]; exact hB, by rw [List.take_zero]; exact hbv⟩
    (fun i σ H' _ h => kp_tk hR h.2.1 _ _ hs1) (fun i sv t σ H1 hx h ht => ?_) fun σ H' h => ?_⟩
  · obtain ⟨⟨c2, c3, c4, c5, c6, c7, rfl⟩, K1, R1, B1, bv1⟩ := h
    obtain ⟨st, hst, dst⟩ := ds1.get hx
    have hi : i < x.stms.length := (List.getElem?_eq_some_iff.mp hst).1
    have wf := hX.wf.at hst
    have mu1 := mu_pB (x.stms.take i) (q := q) (k := 0) (x := x) (c := c) (hX.wf.take i)
    rw [List.length_take, Nat.min_eq_left (Nat.le_of_lt hi)] at mu1
    have mu2 : (pB q 0 x c (x.stms.take i)).mu + KS d + 5000 < sizeLine := by
      have : (i + 1) * KS d ≤ x.stms.length * KS d := Nat.mul_le_mul hi (Nat.le_refl _)
      have e : (i + 1) * KS d = i * KS d + KS d := Nat.succ_mul ..
      omega
    -- the end of the turn
    have fin : ∀ (H' : Hp) (c2 c3 c4 c5 c6 c7 : Option V), Kp (S.mut A) H H' → RAt K A S H' (pS q i x (pB q 0 x c (x.stms.take i)) st) → (∃ d2 d3 d4 d5 d6 d7, [some (V.ref S.p), some (V.ref qa), c2, c3, c4, c5, c6, c7] = [some (.ref S.p), some (.ref qa), d2, d3, d4, d5, d6, d7]) ∧ Kp (S.mut A) H H' ∧ RAt K A S H' (pB q 0 x c (x.stms.take (i + 1))) ∧
        BAt (pB q 0 x c (x.stms.take (i + 1))).u q (i + 1) x ∧ BV (pB q 0 x c (x.stms.take (i + 1))).u.st := by
      intro H' c2 c3 c4 c5 c6 c7 k' r'
      rw [pB_take hst]
      exact ⟨⟨_, _, _, _, _, _, rfl⟩, k', r', B1.next (loc_pS q i x _ st), bv_pS st wf bv1 hX.bv hX.eo⟩
    generalize pB q 0 x c (x.stms.take i) = ci at R1 B1 bv1 mu2 fin
    clear mu1
    refine ⟨t, _, rfl, SqT.of upd_same, rfl, _, _, rfl, _, _, rfl, rfl, ?_⟩
    have s2 := same_new ht (.tup [V.int (i : Nat), sv])
    have R2 := R1.same s2
    have K2 : Kp (S.mut A) H _ := K1.trans (Kp.same s2)
    have T2 := kp_tk hR K2
    generalize upd H1 t (.tup [V.int (i : Nat), sv]) = H2 at s2 R2 K2 T2
    refine ⟨_, rfl, _, rfl, le_line (by show 1 ≤ 1000; decide), fun p hp => ?_⟩
    have s3 := same_new hp (.tup [V.int (i : Nat)])
    refine ⟨q, [(i : Int)], qa, p, rfl, rfl, s3 _ _ (hq.mono T2), upd_same, by simp, by simp; omega, fun H3 na s4 hn => ?_⟩
    have s34 := s3.trans s4
    have R3 := R2.same s34
    have K3 := K2.trans (Kp.same s34)
    have T3 := kp_tk hR K3
    refine ⟨_, rfl, S.p, _, _, rfl, R3.ins, rfl, _, rfl, A, S, ci, stepU ci.u q i x (resS ci.u x st) st, q ++ [(i : Int)], na, resS ci.u x st, rfl, R3, hn, by rw [List.length_append]; show q.length + 1 ≤ 40; omega, bv1, res_step B1 hX hst wf, resS_in wf bv1 hX.bv, doR_step B1 hX hst wf, by omega, fun H4 k4 R4 => ?_⟩
    have R4' : RAt K A S H4 (stepC q i x ci st) := R4
    have K4 := K3.trans k4
    have T4 := kp_tk hR K4
    have hn4 := hn.mono (kp_tk R3 k4)
    have bvs := bv_stepC (q := q) (k := i) (c := ci) wf bv1 hX.bv
    have muS := (mu_stepC q i x ci wf).1
    obtain ⟨sa2, r2, rfl, hsa2, _⟩ := (dst.mono T4).hd
    refine ⟨_, rfl, _, _, _, _, rfl, rfl, SqT.of hsa2, at0, ?_⟩
    have lnm : (q ++ [(i : Int)]).length = q.length + 1 := by rw [List.length_append]; rfl
    -- a block below, by its name's last part
    have sub : ∀ (H5 : Hp) (m : Int) (xb : BI) (c5 : Cf) (d5 : Nat) (Lb Tb : List Str) (Q' : VK), RAt K A S H5 c5 → NM H5 (q ++ [(i : Int)]) na → BAt c5.u (q ++ [(i : Int)] ++ [m]) 0 xb → XOk xb d5 Lb Tb (q ++ [(i : Int)] ++ [m]) → BV c5.u.st → d5 < n → c5.mu + xb.stms.length * KS d5 + 5000 < sizeLine →
        (∀ H', Kp (S.mut A) H5 H' → RAt K A S H' (pB (q ++ [(i : Int)] ++ [m]) 0 xb c5 xb.stms) → Q' .non H') → ∀ p, H5 p = none → rCatN (.ref na) (.ref p) (upd H5 p (.tup [V.int m])) fun y H6 => (spSBlk (K := K) n) [.ref S.p, y] H6 Q' C8.E0 := by
      intro H5 m xb c5 d5 Lb Tb Q' r5 hn5 b5 x5 v5 hd5 hz5 kq p hp
      have s6 := same_new hp (.tup [V.int m])
      refine ⟨_, [m], na, p, rfl, rfl, s6 _ _ hn5, upd_same, by simp, by rw [lnm]; show q.length + 1 + 1 ≤ 1000; omega, fun H7 r7 s7 n7 => ?_⟩
      have s67 := s6.trans s7
      exact ⟨A, S, c5, _, r7, xb, d5, Lb, Tb, rfl, r5.same s67, n7, b5, x5, v5, hd5, hz5, fun H8 k8 r8 => kq H8 ((Kp.same s67).trans k8) r8⟩
    -- the deed that ends a statement
    have last : ∀ (H5 : Hp) (c5 : Cf) (u6 : US) (r5 : Int) (Q' : VK), Kp (S.mut A) H H5 → RAt K A S H5 c5 → NM H5 (q ++ [(i : Int)]) na → BV c5.u.st → ResOf c5.u (q ++ [(i : Int)] ++ [-1]) r5 → InP r5 → DoR c5.u (q ++ [(i : Int)] ++ [-1]) r5 u6 → c5.mu + 3000 < sizeLine →
        (∀ H', Kp (S.mut A) H H' → RAt K A S H' ⟨u6, c5.ord ++ [q ++ [(i : Int)] ++ [-1]]⟩ → Q' .non H') → ∀ p, H5 p = none → rCatN (.ref na) (.ref p) (upd H5 p (.tup [V.int (-1)])) fun y H6 => (spSDo (K := K)) [.ref S.p, y] H6 Q' C8.E0 := by
      intro H5 c5 u6 r5 Q' k5 r5' hn5 v5 ro ri dr hz5 kq p hp
      have s6 := same_new hp (.tup [V.int (-1)])
      refine ⟨_, [-1], na, p, rfl, rfl, s6 _ _ hn5, upd_same, by simp, by rw [lnm]; show q.length + 1 + 1 ≤ 1000; omega, fun H7 r7 s7 n7 => ?_⟩
      have s67 := s6.trans s7
      exact ⟨A, S, c5, u6, _, r7, r5, rfl, r5'.same s67, n7, by rw [List.length_append, lnm]; show q.length + 1 + 1 ≤ 40; omega, v5, ro, ri, dr, hz5, fun H8 k8 r8 => kq H8 (k5.trans ((Kp.same s67).trans k8)) r8⟩
    have stAt : StAt (stepC q i x ci st).u q i x st := (B1.st hst).loc (loc_stepU ci.u q i x _ st)
    cases st with
    | set y e =>
      refine ⟨_, rfl, rfl, _, rfl, iteDF (by show ¬ V.str "set" = V.str "if"; decide) ⟨_, rfl, rfl, _, rfl, iteDF (by show ¬ V.str "set" = V.str "start"; decide) ⟨_, rfl, le_line (by show 2 ≤ 1000; decide), fun p5 hp5 => ⟨p5, _, rfl, .inr (SqT.of upd_same), rfl, rfl, _, rfl, iteF ⟨_, rfl, rfl, _, rfl, iteDF (by show ¬ V.str "set" = V.str "fold"; decide) ?_⟩⟩⟩⟩⟩
      exact fin _ _ _ _ _ _ _ (K4.trans (Kp.same (same_new hp5 _))) (R4'.same (same_new hp5 _))
    | add y o e =>
      refine ⟨_, rfl, rfl, _, rfl, iteDF (by show ¬ V.str "add" = V.str "if"; decide) ⟨_, rfl, rfl, _, rfl, iteDF (by show ¬ V.str "add" = V.str "start"; decide) ⟨_, rfl, le_line (by show 2 ≤ 1000; decide), fun p5 hp5 => ⟨p5, _, rfl, .inr (SqT.of upd_same), rfl, rfl, _, rfl, iteF ⟨_, rfl, rfl, _, rfl, iteDF (by show ¬ V.str "add" = V.str "fold"; decide) ?_⟩⟩⟩⟩⟩
      exact fin _ _ _ _ _ _ _ (K4.trans (Kp.same (same_new hp5 _))) (R4'.same (same_new hp5 _))
    | wait y =>
      refine ⟨_, rfl, rfl, _, rfl, iteDF (by show ¬ V.str "await" = V.str "if"; decide) ⟨_, rfl, rfl, _, rfl, iteDF (by show ¬ V.str "await" = V.str "start"; decide) ⟨_, rfl, le_line (by show 2 ≤ 1000; decide), fun p5 hp5 => ⟨p5, _, rfl, .inr (SqT.of upd_same), rfl, rfl, _, rfl, iteF ⟨_, rfl, rfl, _, rfl, iteDF (by show ¬ V.str "await" = V.str "fold"; decide) ?_⟩⟩⟩⟩⟩
      exact fin _ _ _ _ _ _ _ (K4.trans (Kp.same (same_new hp5 _))) (R4'.same (same_new hp5 _))
    | cond e a b =>
      obtain ⟨we, hd0, la, wa, lb, wb⟩ := wf
      have kk := KS_60 hd0
      obtain ⟨kvd, hdn, ald⟩ := R4'.u.dn
      obtain ⟨vd, hvd, rfl⟩ := ald.look kn_inj _ (done_stepU ci.u q i x (resS ci.u x (.cond e a b)) (.cond e a b))
      refine ⟨_, rfl, rfl, _, rfl, iteD rfl ?_⟩
      refine ⟨_, rfl, S.p, _, _, rfl, R4.ins, rfl, _, rfl, _, rfl, _, _, _, _, _, rfl, R4.ins, T.c_SerialRun, T.n_SerialRun_run, rfl, _, _, _, _, _, rfl, R4.u.ins, T.c_Unfolding, T.n_Unfolding_done, rfl, _, rfl, _, _, rfl, dget_t hdn hn4 hvd, rfl, _, rfl, ?_⟩
      have er : resS ci.u x (.cond e a b) = evE ci.u.st x.env e := rfl
      have ep : pS q i x ci (.cond e a b) = if evE ci.u.st x.env e ≠ 0 then pB (q ++ [(i : Int)] ++ [0]) 0 ⟨a, x.env, some (q ++ [(i : Int)]), some (q, i)⟩ (stepC q i x ci (.cond e a b)) a else pB (q ++ [(i : Int)] ++ [1]) 0 ⟨b, x.env, some (q ++ [(i : Int)]), some (q, i)⟩ (stepC q i x ci (.cond e a b)) b := by unfold pS; rfl
      by_cases cz : resS ci.u x (.cond e a b) = 0
      · refine iteN (by rw [cz]) ⟨le_line (by show 1 ≤ 1000; decide), fun p hp => ?_⟩
        have hB4 : BAt (stepC q i x ci (.cond e a b)).u (q ++ [(i : Int)] ++ [1]) 0 ⟨b, x.env, some (q ++ [(i : Int)]), some (q, (i : Int))⟩ := by
          have z := BAt.unf { u1S ci.u (resS ci.u x (.cond e a b)) (.cond e a b) with done := aput (u1S ci.u (resS ci.u x (.cond e a b)) (.cond e a b)).done (q ++ [(i : Int)]) (resS ci.u x (.cond e a b)) } (q ++ [(i : Int)] ++ [if resS ci.u x (.cond e a b) ≠ 0 then 0 else 1]) ⟨if resS ci.u x (.cond e a b) ≠ 0 then a else b, x.env, some (q ++ [(i : Int)]), some (q, (i : Int))⟩
          have e1 : (if resS ci.u x (.cond e a b) ≠ 0 then (0 : Int) else 1) = 1 := if_neg (fun w => w cz)
          have e2 : (if resS ci.u x (.cond e a b) ≠ 0 then a else b) = b := if_neg (fun w => w cz)
          show BAt (US.unf _ (q ++ [(i : Int)] ++ [if resS ci.u x (.cond e a b) ≠ 0 then 0 else 1]) ⟨if resS ci.u x (.cond e a b) ≠ 0 then a else b, _, _, _⟩) _ _ _
          rw [e1, e2] at z ⊢
          exact z
        refine sub H4 1 ⟨b, x.env, some (q ++ [(i : Int)]), some (q, (i : Int))⟩ (stepC q i x ci (.cond e a b)) (d - 1) L _ (fun _ H' => (∃ z2 z3 z4 z5 z6 z7, [some (V.ref S.p), some (V.ref qa), some (V.int (i : Nat)), some (V.ref sa2), some (V.ref na), some (V.str "if"), c6, c7] = [some (V.ref S.p), some (V.ref qa), z2, z3, z4, z5, z6, z7]) ∧ Kp (S.mut A) H H' ∧ RAt K A S H' (pB q 0 x c (x.stms.take (i + 1))) ∧ BAt (pB q 0 x c (x.stms.take (i + 1))).u q (i + 1) x ∧ BV (pB q 0 x c (x.stms.take (i + 1))).u.st) R4' hn4 hB4 (hX.below hd0 lb wb) bvs (by omega) ?_ (fun H' k' r' => fin H' _ _ _ _ _ _ (K4.trans k') (by rw [ep, if_neg (by rw [← er]; exact fun w => w cz)]; exact r')) p hp
        have : b.length * KS (d - 1) ≤ 6 * KS (d - 1) := Nat.mul_le_mul lb (Nat.le_refl _)
        show _ + b.length * KS (d - 1) + 5000 < _
        omega
      · refine iteNF (fun z => cz (V.int.inj z)) ⟨le_line (by show 1 ≤ 1000; decide), fun p hp => ?_⟩
        have hB4 : BAt (stepC q i x ci (.cond e a b)).u (q ++ [(i : Int)] ++ [0]) 0 ⟨a, x.env, some (q ++ [(i : Int)]), some (q, (i : Int))⟩ := by
          have z := BAt.unf { u1S ci.u (resS ci.u x (.cond e a b)) (.cond e a b) with done := aput (u1S ci.u (resS ci.u x (.cond e a b)) (.cond e a b)).done (q ++ [(i : Int)]) (resS ci.u x (.cond e a b)) } (q ++ [(i : Int)] ++ [if resS ci.u x (.cond e a b) ≠ 0 then 0 else 1]) ⟨if resS ci.u x (.cond e a b) ≠ 0 then a else b, x.env, some (q ++ [(i : Int)]), some (q, (i : Int))⟩
          have e1 : (if resS ci.u x (.cond e a b) ≠ 0 then (0 : Int) else 1) = 0 := if_pos cz
          have e2 : (if resS ci.u x (.cond e a b) ≠ 0 then a else b) = a := if_pos cz
          show BAt (US.unf _ (q ++ [(i : Int)] ++ [if resS ci.u x (.cond e a b) ≠ 0 then 0 else 1]) ⟨if resS ci.u x (.cond e a b) ≠ 0 then a else b, _, _, _⟩) _ _ _
          rw [e1, e2] at z ⊢
          exact z
        refine sub H4 0 ⟨a, x.env, some (q ++ [(i : Int)]), some (q, (i : Int))⟩ (stepC q i x ci (.cond e a b)) (d - 1) L _ (fun _ H' => (∃ z2 z3 z4 z5 z6 z7, [some (V.ref S.p), some (V.ref qa), some (V.int (i : Nat)), some (V.ref sa2), some (V.ref na), some (V.str "if"), c6, c7] = [some (V.ref S.p), some (V.ref qa), z2, z3, z4, z5, z6, z7]) ∧ Kp (S.mut A) H H' ∧ RAt K A S H' (pB q 0 x c (x.stms.take (i + 1))) ∧ BAt (pB q 0 x c (x.stms.take (i + 1))).u q (i + 1) x ∧ BV (pB q 0 x c (x.stms.take (i + 1))).u.st) R4' hn4 hB4 (hX.below hd0 la wa) bvs (by omega) ?_ (fun H' k' r' => fin H' _ _ _ _ _ _ (K4.trans k') (by rw [ep, if_pos (by rw [← er]; exact cz)]; exact r')) p hp
        have : a.length * KS (d - 1) ≤ 6 * KS (d - 1) := Nat.mul_le_mul la (Nat.le_refl _)
        show _ + a.length * KS (d - 1) + 5000 < _
        omega
    | start t b =>
      obtain ⟨wt, hd0, lb, wb⟩ := wf
      have kk := KS_60 hd0
      refine ⟨_, rfl, rfl, _, rfl, iteDF (by show ¬ V.str "start" = V.str "if"; decide) ⟨_, rfl, rfl, _, rfl, iteD rfl ?_⟩⟩
      refine ⟨_, rfl, S.p, _, _, rfl, R4.ins, rfl, _, rfl, le_line (by show 1 ≤ 1000; decide), fun p hp => ?_⟩
      have hB4 : BAt (stepC q i x ci (.start t b)).u (q ++ [(i : Int)] ++ [0]) 0 ⟨b, x.env, some (q ++ [(i : Int)]), some (q, (i : Int))⟩ := BAt.unf _ _ _
      refine sub H4 0 ⟨b, x.env, some (q ++ [(i : Int)]), some (q, (i : Int))⟩ (stepC q i x ci (.start t b)) (d - 1) L _ (fun _ H' => (∃ z2 z3 z4 z5 z6 z7, [some (V.ref S.p), some (V.ref qa), some (V.int (i : Nat)), some (V.ref sa2), some (V.ref na), some (V.str "start"), c6, c7] = [some (V.ref S.p), some (V.ref qa), z2, z3, z4, z5, z6, z7]) ∧ Kp (S.mut A) H H' ∧ RAt K A S H' (pB q 0 x c (x.stms.take (i + 1))) ∧ BAt (pB q 0 x c (x.stms.take (i + 1))).u q (i + 1) x ∧ BV (pB q 0 x c (x.stms.take (i + 1))).u.st) R4' hn4 hB4 (hX.below hd0 lb wb) bvs (by omega) ?_ (fun H' k' r' => fin H' _ _ _ _ _ _ (K4.trans k') (by unfold pS; exact r')) p hp
      have : b.length * KS (d - 1) ≤ 6 * KS (d - 1) := Nat.mul_le_mul lb (Nat.le_refl _)
      show _ + b.length * KS (d - 1) + 5000 < _
      omega
    | fork bs =>
      obtain ⟨m, f, cs, hW, e0, eE, hO, hm6, hd0, hxo⟩ := fe_walk (i := i) (c := ci) hX wf rfl
      have kk := KS_60 hd0
      refine ⟨_, rfl, rfl, _, rfl, iteDF (by show ¬ V.str "fork" = V.str "if"; decide) ⟨_, rfl, rfl, _, rfl, iteDF (by show ¬ V.str "fork" = V.str "start"; decide) ⟨_, rfl, le_line (by show 2 ≤ 1000; decide), fun p5 hp5 => ⟨p5, _, rfl, .inr (SqT.of upd_same), rfl, rfl, _, rfl, iteT ?_⟩⟩⟩⟩
      have s5 := same_new hp5 (.tup [V.str "fork", V.str "each"])
      have R5 := R4'.same s5
      have K5 := K4.trans (Kp.same s5)
      have hn5 := hn4.mono (Tk.same s5)
      generalize upd H4 p5 (.tup [V.str "fork", V.str "each"]) = H5 at R5 K5 hn5
      obtain ⟨kvt, htt, alt⟩ := R5.u.tm
      obtain ⟨vt, hvt, rfl⟩ := alt.look kn_inj _ hO.tm
      refine ⟨_, rfl, _, _, _, _, _, rfl, R5.ins, T.c_SerialRun, T.n_SerialRun_run, rfl, _, _, _, _, _, rfl, R5.u.ins, T.c_Unfolding, T.n_Unfolding_times, rfl, _, rfl, _, _, rfl, dget_t htt hn5 hvt, _, rfl, by omega, by omega, ?_⟩
      have em : ((m : Nat) : Int).toNat = m := by omega
      rw [em]
      refine for_range (lo := 0) (n := m) (fun j σ H' => (∃ d6, σ = [some (.ref S.p), some (.ref qa), some (.int (i : Nat)), some (.ref sa2), some (.ref na), some (.str "fork"), d6, c7]) ∧ Kp (S.mut A) H H' ∧ RAt K A S H' (cs j) ∧ Tk H5 H' ∧ (∀ l, j ≤ l → l < m → BAt (cs j).u (q ++ [(i : Int)] ++ [(l : Int)]) 0 (f l)) ∧
        alook (cs j).u.known (q ++ [(i : Int)] ++ [-1]) = some ⟨"join", q ++ [(i : Int)], []⟩ ∧ StAt (cs j).u q i x (.fork bs) ∧ BV (cs j).u.st) ⟨⟨_, rfl⟩, K5, by rw [e0]; exact R5, Tk.refl _, by rw [e0]; exact fun l _ hl => hO.at_ l hl, by rw [e0]; exact hO.jn, by rw [e0]; exact stAt, by rw [e0]; exact bvs⟩ (fun j σ H6 hj hp => ?_) fun σ H6 hp => ?_
      · obtain ⟨⟨d6, rfl⟩, K6, R6, T6, B6, J6, S6, v6⟩ := hp
        obtain ⟨Lj, Tj, xo⟩ := hxo j hj
        have ej : (0 + (j : Nat) : Int) = ((j : Nat) : Int) := by omega
        have muj := walk_mu hW hxo j (by omega)
        rw [e0] at muj
        have few6 : (f j).stms.length * KS (d - 1) ≤ 6 * KS (d - 1) := Nat.mul_le_mul xo.few (Nat.le_refl _)
        have j5 : j * (6 * KS (d - 1)) ≤ 5 * (6 * KS (d - 1)) := Nat.mul_le_mul (by omega) (Nat.le_refl _)
        refine ⟨_, rfl, S.p, _, _, rfl, R6.ins, rfl, _, rfl, _, rfl, le_line (by show 1 ≤ 1000; decide), fun p hp => ?_⟩
        have go : ∀ z : Int, z = ((j : Nat) : Int) → rCatN (.ref na) (.ref p) (upd H6 p (.tup [V.int z])) fun yy H7 => (spSBlk (K := K) n) [.ref S.p, yy] H7 (fun _ H' => (∃ d6, [some (V.ref S.p), some (V.ref qa), some (V.int (i : Nat)), some (V.ref sa2), some (V.ref na), some (V.str "fork"), some (V.int z), c7] = [some (.ref S.p), some (.ref qa), some (.int (i : Nat)), some (.ref sa2), some (.ref na), some (.str "fork"), d6, c7]) ∧ Kp (S.mut A) H H' ∧ RAt K A S H' (cs (j + 1)) ∧ Tk H5 H' ∧ (∀ l, j + 1 ≤ l → l < m → BAt (cs (j + 1)).u (q ++ [(i : Int)] ++ [(l : Int)]) 0 (f l)) ∧
          alook (cs (j + 1)).u.known (q ++ [(i : Int)] ++ [-1]) = some ⟨"join", q ++ [(i : Int)], []⟩ ∧ StAt (cs (j + 1)).u q i x (.fork bs) ∧ BV (cs (j + 1)).u.st) C8.E0 := by
          intro z hz
          subst hz
          refine sub H6 j (f j) (cs j) (d - 1) Lj Tj _ R6 (hn5.mono T6) (B6 j (Nat.le_refl _) hj) xo v6 (by omega) (by omega) (fun H' k' r' => ?_) p hp
          have lc := loc_pB (q ++ [(i : Int)] ++ [(j : Int)]) 0 (f j) (cs j) (f j).stms
          refine ⟨⟨_, rfl⟩, K6.trans k', by rw [hW.step j hj]; exact r', T6.trans (kp_tk R6 k'), ?_⟩
          rw [hW.step j hj]
          refine ⟨fun l h1 h2 => (B6 l (by omega) h2).loc lc fun r => not_ext (by omega) r, ?_, ?_, bv_pB _ xo.wf v6 xo.bv xo.eo⟩
          · rw [(lc _ (snoc_ne (by omega))).2.1]
            exact J6
          · exact S6.loc (lc.up (List.prefix_append _ _))
        exact go _ ej
      · obtain ⟨⟨d6, rfl⟩, K6, R6, T6, B6, J6, S6, v6⟩ := hp
        have muj := walk_mu hW hxo m (Nat.le_refl _)
        rw [e0] at muj
        have j5 : m * (6 * KS (d - 1)) ≤ 6 * (6 * KS (d - 1)) := Nat.mul_le_mul hm6 (Nat.le_refl _)
        refine ⟨_, rfl, S.p, _, _, rfl, R6.ins, rfl, _, rfl, _, rfl, le_line (by show 1 ≤ 1000; decide), fun p hp => ?_⟩
        exact last H6 (cs m) _ 0 (fun _ H' => (∃ z2 z3 z4 z5 z6 z7, [some (V.ref S.p), some (V.ref qa), some (V.int (i : Nat)), some (V.ref sa2), some (V.ref na), some (V.str "fork"), d6, c7] = [some (V.ref S.p), some (V.ref qa), z2, z3, z4, z5, z6, z7]) ∧ Kp (S.mut A) H H' ∧ RAt K A S H' (pB q 0 x c (x.stms.take (i + 1))) ∧ BAt (pB q 0 x c (x.stms.take (i + 1))).u q (i + 1) x ∧ BV (pB q 0 x c (x.stms.take (i + 1))).u.st) K6 R6 (hn5.mono T6) v6 (.no (.join J6)) ⟨by decide, by decide⟩ (doR_dn J6 S6 (.inr (.inr rfl)) (by have := hX.el; omega) (few_of wf) (by omega)) (by omega) (fun H' k' r' => fin H' _ _ _ _ _ _ k' (by rw [eE]; exact r')) p hp
    | each y e b =>
      obtain ⟨m, f, cs, hW, e0, eE, hO, hm6, hd0, hxo⟩ := fe_walk (i := i) (c := ci) hX wf rfl
      have kk := KS_60 hd0
      refine ⟨_, rfl, rfl, _, rfl, iteDF (by show ¬ V.str "each" = V.str "if"; decide) ⟨_, rfl, rfl, _, rfl, iteDF (by show ¬ V.str "each" = V.str "start"; decide) ⟨_, rfl, le_line (by show 2 ≤ 1000; decide), fun p5 hp5 => ⟨p5, _, rfl, .inr (SqT.of upd_same), rfl, rfl, _, rfl, iteT ?_⟩⟩⟩⟩
      have s5 := same_new hp5 (.tup [V.str "fork", V.str "each"])
      have R5 := R4'.same s5
      have K5 := K4.trans (Kp.same s5)
      have hn5 := hn4.mono (Tk.same s5)
      generalize upd H4 p5 (.tup [V.str "fork", V.str "each"]) = H5 at R5 K5 hn5
      obtain ⟨kvt, htt, alt⟩ := R5.u.tm
      obtain ⟨vt, hvt, rfl⟩ := alt.look kn_inj _ hO.tm
      refine ⟨_, rfl, _, _, _, _, _, rfl, R5.ins, T.c_SerialRun, T.n_SerialRun_run, rfl, _, _, _, _, _, rfl, R5.u.ins, T.c_Unfolding, T.n_Unfolding_times, rfl, _, rfl, _, _, rfl, dget_t htt hn5 hvt, _, rfl, by omega, by omega, ?_⟩
      have em : ((m : Nat) : Int).toNat = m := by omega
      rw [em]
      refine for_range (lo := 0) (n := m) (fun j σ H' => (∃ d6, σ = [some (.ref S.p), some (.ref qa), some (.int (i : Nat)), some (.ref sa2), some (.ref na), some (.str "each"), d6, c7]) ∧ Kp (S.mut A) H H' ∧ RAt K A S H' (cs j) ∧ Tk H5 H' ∧ (∀ l, j ≤ l → l < m → BAt (cs j).u (q ++ [(i : Int)] ++ [(l : Int)]) 0 (f l)) ∧
        alook (cs j).u.known (q ++ [(i : Int)] ++ [-1]) = some ⟨"join", q ++ [(i : Int)], []⟩ ∧ StAt (cs j).u q i x (.each y e b) ∧ BV (cs j).u.st) ⟨⟨_, rfl⟩, K5, by rw [e0]; exact R5, Tk.refl _, by rw [e0]; exact fun l _ hl => hO.at_ l hl, by rw [e0]; exact hO.jn, by rw [e0]; exact stAt, by rw [e0]; exact bvs⟩ (fun j σ H6 hj hp => ?_) fun σ H6 hp => ?_
      · obtain ⟨⟨d6, rfl⟩, K6, R6, T6, B6, J6, S6, v6⟩ := hp
        obtain ⟨Lj, Tj, xo⟩ := hxo j hj
        have ej : (0 + (j : Nat) : Int) = ((j : Nat) : Int) := by omega
        have muj := walk_mu hW hxo j (by omega)
        rw [e0] at muj
        have few6 : (f j).stms.length * KS (d - 1) ≤ 6 * KS (d - 1) := Nat.mul_le_mul xo.few (Nat.le_refl _)
        have j5 : j * (6 * KS (d - 1)) ≤ 5 * (6 * KS (d - 1)) := Nat.mul_le_mul (by omega) (Nat.le_refl _)
        refine ⟨_, rfl, S.p, _, _, rfl, R6.ins, rfl, _, rfl, _, rfl, le_line (by show 1 ≤ 1000; decide), fun p hp => ?_⟩
        have go : ∀ z : Int, z = ((j : Nat) : Int) → rCatN (.ref na) (.ref p) (upd H6 p (.tup [V.int z])) fun yy H7 => (spSBlk (K := K) n) [.ref S.p, yy] H7 (fun _ H' => (∃ d6, [some (V.ref S.p), some (V.ref qa), some (V.int (i : Nat)), some (V.ref sa2), some (V.ref na), some (V.str "each"), some (V.int z), c7] = [some (.ref S.p), some (.ref qa), some (.int (i : Nat)), some (.ref sa2), some (.ref na), some (.str "each"), d6, c7]) ∧ Kp (S.mut A) H H' ∧ RAt K A S H' (cs (j + 1)) ∧ Tk H5 H' ∧ (∀ l, j + 1 ≤ l → l < m → BAt (cs (j + 1)).u (q ++ [(i : Int)] ++ [(l : Int)]) 0 (f l)) ∧
          alook (cs (j + 1)).u.known (q ++ [(i : Int)] ++ [-1]) = some ⟨"join", q ++ [(i : Int)], []⟩ ∧ StAt (cs (j + 1)).u q i x (.each y e b) ∧ BV (cs (j + 1)).u.st) C8.E0 := by
          intro z hz
          subst hz
          refine sub H6 j (f j) (cs j) (d - 1) Lj Tj _ R6 (hn5.mono T6) (B6 j (Nat.le_refl _) hj) xo v6 (by omega) (by omega) (fun H' k' r' => ?_) p hp
          have lc := loc_pB (q ++ [(i : Int)] ++ [(j : Int)]) 0 (f j) (cs j) (f j).stms
          refine ⟨⟨_, rfl⟩, K6.trans k', by rw [hW.step j hj]; exact r', T6.trans (kp_tk R6 k'), ?_⟩
          rw [hW.step j hj]
          refine ⟨fun l h1 h2 => (B6 l (by omega) h2).loc lc fun r => not_ext (by omega) r, ?_, ?_, bv_pB _ xo.wf v6 xo.bv xo.eo⟩
          · rw [(lc _ (snoc_ne (by omega))).2.1]
            exact J6
          · exact S6.loc (lc.up (List.prefix_append _ _))
        exact go _ ej
      · obtain ⟨⟨d6, rfl⟩, K6, R6, T6, B6, J6, S6, v6⟩ := hp
        have muj := walk_mu hW hxo m (Nat.le_refl _)
        rw [e0] at muj
        have j5 : m * (6 * KS (d - 1)) ≤ 6 * (6 * KS (d - 1)) := Nat.mul_le_mul hm6 (Nat.le_refl _)
        refine ⟨_, rfl, S.p, _, _, rfl, R6.ins, rfl, _, rfl, _, rfl, le_line (by show 1 ≤ 1000; decide), fun p hp => ?_⟩
        exact last H6 (cs m) _ 0 (fun _ H' => (∃ z2 z3 z4 z5 z6 z7, [some (V.ref S.p), some (V.ref qa), some (V.int (i : Nat)), some (V.ref sa2), some (V.ref na), some (V.str "each"), d6, c7] = [some (V.ref S.p), some (V.ref qa), z2, z3, z4, z5, z6, z7]) ∧ Kp (S.mut A) H H' ∧ RAt K A S H' (pB q 0 x c (x.stms.take (i + 1))) ∧ BAt (pB q 0 x c (x.stms.take (i + 1))).u q (i + 1) x ∧ BV (pB q 0 x c (x.stms.take (i + 1))).u.st) K6 R6 (hn5.mono T6) v6 (.no (.join J6)) ⟨by decide, by decide⟩ (doR_dn J6 S6 (.inr (.inr rfl)) (by have := hX.el; omega) (few_of wf) (by omega)) (by omega) (fun H' k' r' => fin H' _ _ _ _ _ _ k' (by rw [eE]; exact r')) p hp
    | fold y o ii e l =>
      obtain ⟨wy, wo, wi, we, wl⟩ := wf
      have em7 := mod7 (evE ci.u.st x.env e)
      generalize hm : (evE ci.u.st x.env e % 7).toNat = m at em7
      have k46 := KS_46 d
      refine ⟨_, rfl, rfl, _, rfl, iteDF (by show ¬ V.str "fold" = V.str "if"; decide) ⟨_, rfl, rfl, _, rfl, iteDF (by show ¬ V.str "fold" = V.str "start"; decide) ⟨_, rfl, le_line (by show 2 ≤ 1000; decide), fun p5 hp5 => ⟨p5, _, rfl, .inr (SqT.of upd_same), rfl, rfl, _, rfl, iteF ⟨_, rfl, rfl, _, rfl, iteD rfl ?_⟩⟩⟩⟩⟩
      have s5 := same_new hp5 (.tup [V.str "fork", V.str "each"])
      have R5 := R4'.same s5
      have K5 := K4.trans (Kp.same s5)
      have hn5 := hn4.mono (Tk.same s5)
      generalize upd H4 p5 (.tup [V.str "fork", V.str "each"]) = H5 at R5 K5 hn5
      obtain ⟨kvt, htt, alt⟩ := R5.u.tm
      have tm : alook (stepC q i x ci (.fold y o ii e l)).u.times (q ++ [(i : Int)]) = some m := by
        have z : alook (stepC q i x ci (.fold y o ii e l)).u.times (q ++ [(i : Int)]) = some (resS ci.u x (.fold y o ii e l) % 7).toNat := alook_self _ _ _
        rw [z, ← hm]
        rfl
      obtain ⟨vt, hvt, rfl⟩ := alt.look kn_inj _ tm
      refine ⟨_, rfl, _, _, _, _, _, rfl, R5.ins, T.c_SerialRun, T.n_SerialRun_run, rfl, _, _, _, _, _, rfl, R5.u.ins, T.c_Unfolding, T.n_Unfolding_times, rfl, _, rfl, _, _, rfl, dget_t htt hn5 hvt, 0, m, rfl, Nat.zero_le _, by omega, by omega, by omega, fun H6 la s6 hla ⟨pvs, hpv, npv⟩ => ?_⟩
      have lv := npv.len
      have lp := len_parts 7 0 m
      have R6 := R5.same s6
      have K6 := K5.trans (Kp.same s6)
      have hn6 := hn5.mono (Tk.same s6)
      have nla : la ∉ S.mut A := fun z => by
        rcases List.mem_cons.mp z with rfl | z
        · obtain ⟨_, ho, _⟩ := R5.ord
          rw [ho] at hla
          cases hla
        · exact R6.u.dd.lst hpv z
      have pk : ∀ p, p ∈ parts 7 0 m → alook (stepC q i x ci (.fold y o ii e l)).u.known (q ++ [(i : Int)] ++ p) = some ⟨kdOf p, q ++ [(i : Int)], p⟩ := fun p hp => by
        have z := parts_known (u := { u1S ci.u (resS ci.u x (.fold y o ii e l)) (.fold y o ii e l) with done := aput (u1S ci.u (resS ci.u x (.fold y o ii e l)) (.fold y o ii e l)).done (q ++ [(i : Int)]) (resS ci.u x (.fold y o ii e l)) }) (nm := q ++ [(i : Int)]) (v := resS ci.u x (.fold y o ii e l)) (p := p) (by
          have e0 : resS ci.u x (.fold y o ii e l) = evE ci.u.st x.env e := rfl
          rw [e0, hm]
          exact hp) (parts_m1 hp)
        exact z
      have stS : (stepC q i x ci (.fold y o ii e l)).u.st = ci.u.st := st_stepU _ _ _ _ _ _
      have seq : SeqOk (q ++ [(i : Int)]) (partR ci.u.st x.env o ii l) (stepC q i x ci (.fold y o ii e l)) (parts 7 0 m) := by
        by_cases m0 : m = 0
        · subst m0
          trivial
        · exact seq_parts rfl rfl (by have := hX.el; omega) bv1 hX.bv hX.eo wl.1 wl.2 7 0 m _ (by omega) (by omega) em7 (Nat.le_refl _) stS stAt pk
      have hR' : ∀ j, partsC (q ++ [(i : Int)]) (partR ci.u.st x.env o ii l) (stepC q i x ci (.fold y o ii e l)) ((parts 7 0 m).take (j + 1)) = match (parts 7 0 m)[j]? with
          | some p => (partsC (q ++ [(i : Int)]) (partR ci.u.st x.env o ii l) (stepC q i x ci (.fold y o ii e l)) ((parts 7 0 m).take j)).dn (q ++ [(i : Int)] ++ p) (partR ci.u.st x.env o ii l p)
          | none => partsC (q ++ [(i : Int)]) (partR ci.u.st x.env o ii l) (stepC q i x ci (.fold y o ii e l)) ((parts 7 0 m).take j) := fun j => by
        rw [List.take_succ, partsC_app]
        cases (parts 7 0 m)[j]? <;> rfl
      have hpS : pS q i x ci (.fold y o ii e l) = keepC (partsC (q ++ [(i : Int)]) (partR ci.u.st x.env o ii l) (stepC q i x ci (.fold y o ii e l)) (parts 7 0 m)) (q ++ [(i : Int)]) y (if m = 0 then 0 else fv ci.u.st x.env o ii l 7 0 m) := by
        unfold pS
        rw [hm]
      refine ⟨la, rfl, ⟨_, SqL.of hpv⟩, for_list (xs := pvs) (fun j σ H' => (∃ d7, σ = [some (.ref S.p), some (.ref qa), some (.int (i : Nat)), some (.ref sa2), some (.ref na), some (.str "fold"), c6, d7]) ∧ Kp (S.mut A) H6 H' ∧ RAt K A S H' (partsC (q ++ [(i : Int)]) (partR ci.u.st x.env o ii l) (stepC q i x ci (.fold y o ii e l)) ((parts 7 0 m).take j)) ∧
        SeqOk (q ++ [(i : Int)]) (partR ci.u.st x.env o ii l) (partsC (q ++ [(i : Int)]) (partR ci.u.st x.env o ii l) (stepC q i x ci (.fold y o ii e l)) ((parts 7 0 m).take j)) ((parts 7 0 m).drop j)) ⟨⟨_, rfl⟩, Kp.refl _ _, by rw [List.take_zero]; exact R6, by rw [List.take_zero, List.drop_zero]; exact seq⟩
        (fun j σ H' _ h => SqL.of (h.2.1 _ _ hpv nla)) (fun j pv σ H7 hx h => ?_) fun σ H7 h => ?_⟩
      · obtain ⟨⟨d7, rfl⟩, K7, R7, sq⟩ := h
        obtain ⟨p, pa, hp, rfl, hpa⟩ := npv.get hx
        have hj : j < pvs.length := (List.getElem?_eq_some_iff.mp hx).1
        have pm := List.mem_of_getElem? hp
        obtain ⟨pne, pl⟩ := parts_ne 7 0 m p pm
        have T7 := kp_tk R6 K7
        have up := partsC_u (q ++ [(i : Int)]) (partR ci.u.st x.env o ii l) ((parts 7 0 m).take j) (stepC q i x ci (.fold y o ii e l))
        have mp := mu_partsC (q ++ [(i : Int)]) (partR ci.u.st x.env o ii l) ((parts 7 0 m).take j) (stepC q i x ci (.fold y o ii e l))
        rw [List.length_take] at mp
        have nx := hR' j
        rw [hp] at nx
        dsimp only at nx
        have dj : (parts 7 0 m).drop j = p :: (parts 7 0 m).drop (j + 1) := by
          have hlt : j < (parts 7 0 m).length := (List.getElem?_eq_some_iff.mp hp).1
          rw [List.drop_eq_getElem_cons hlt]
          have e0 := List.getElem?_eq_getElem hlt
          rw [hp] at e0
          rw [← Option.some.inj e0]
        rw [dj] at sq
        obtain ⟨⟨ro, ri⟩, sq'⟩ := sq
        refine ⟨_, rfl, S.p, _, _, rfl, R7.ins, rfl, _, rfl, _, rfl, q ++ [(i : Int)], p, na, pa, rfl, rfl, hn6.mono T7, hpa.mono T7, pne, by rw [lnm]; omega, fun H8 r8 s8 n8 => ?_⟩
        refine ⟨A, S, _, _, _, r8, _, rfl, R7.same s8, n8, by rw [List.length_append, lnm]; omega, by rw [up.2.2.2]; exact bvs, ro, ri, doR_dn (by rw [up.1]; exact pk p pm) ⟨by rw [up.2.1]; exact stAt.bl, stAt.st⟩ (by rcases kdOf_lp p with h | h <;> simp [h]) (by have := hX.el; omega) trivial (by omega), by omega, fun H9 k9 r9 => ?_⟩
        refine ⟨⟨_, rfl⟩, K7.trans ((Kp.same s8).trans k9), ?_, ?_⟩
        · rw [nx]
          exact r9
        · rw [nx]
          exact sq'
      · obtain ⟨⟨d7, rfl⟩, K7, R7, sq⟩ := h
        have T7 := kp_tk R6 K7
        rw [← lv, List.take_length] at R7
        have up := partsC_u (q ++ [(i : Int)]) (partR ci.u.st x.env o ii l) (parts 7 0 m) (stepC q i x ci (.fold y o ii e l))
        have mp := mu_partsC (q ++ [(i : Int)]) (partR ci.u.st x.env o ii l) (parts 7 0 m) (stepC q i x ci (.fold y o ii e l))
        have kk : alook (stepC q i x ci (.fold y o ii e l)).u.known (q ++ [(i : Int)] ++ [-1]) = some ⟨"keep", q ++ [(i : Int)], []⟩ := alook_self _ _ _
        have rin : InP (if m = 0 then 0 else fv ci.u.st x.env o ii l 7 0 m) := by
          split
          · exact ⟨by decide, by decide⟩
          · exact fv_in bv1 hX.bv wl.1 7 0 m (by decide) (by omega)
        have ro : ResOf (partsC (q ++ [(i : Int)]) (partR ci.u.st x.env o ii l) (stepC q i x ci (.fold y o ii e l)) (parts 7 0 m)).u (q ++ [(i : Int)] ++ [-1]) (if m = 0 then 0 else fv ci.u.st x.env o ii l 7 0 m) := by
          by_cases m0 : m = 0
          · rw [if_pos m0]
            have e0 : parts 7 0 m = [] := by rw [m0]; rfl
            rw [m0] at tm
            rw [e0]
            exact .keep0 kk tm (done_stepU _ _ _ _ _ _)
          · rw [if_neg m0]
            have d1 := (partsC_done (q ++ [(i : Int)]) (partR ci.u.st x.env o ii l) (parts 7 0 m) (stepC q i x ci (.fold y o ii e l)) (pr 0 m)).1 (pr_mem 7 0 m (by omega) (by omega))
            rw [partR_pr _ _ _ _ _ 0 m (by omega) (by omega), ← pfn_pr] at d1
            exact .keep (by rw [up.1]; exact kk) (by rw [up.2.2.1]; exact tm) (by omega) (by omega) d1
        refine ⟨_, rfl, S.p, _, _, rfl, R7.ins, rfl, _, rfl, _, rfl, le_line (by show 1 ≤ 1000; decide), fun p hp => ?_⟩
        exact last H7 _ _ _ (fun _ H' => (∃ z2 z3 z4 z5 z6 z7, [some (V.ref S.p), some (V.ref qa), some (V.int (i : Nat)), some (V.ref sa2), some (V.ref na), some (V.str "fold"), c6, d7] = [some (V.ref S.p), some (V.ref qa), z2, z3, z4, z5, z6, z7]) ∧ Kp (S.mut A) H H' ∧ RAt K A S H' (pB q 0 x c (x.stms.take (i + 1))) ∧ BAt (pB q 0 x c (x.stms.take (i + 1))).u q (i + 1) x ∧ BV (pB q 0 x c (x.stms.take (i + 1))).u.st) (K6.trans K7) R7 (hn6.mono T7) (by rw [up.2.2.2]; exact bvs) ro rin (doR_keep (by rw [up.1]; exact kk) ⟨by rw [up.2.1]; exact stAt.bl, stAt.st⟩ (by have := hX.el; omega) (by omega)) (by omega) (fun H' k' r' => fin H' _ _ _ _ _ _ k' (by rw [hpS]; exact r')) p hp
  · obtain ⟨⟨c2, c3, c4, c5, c6, c7, rfl⟩, K1, R1, B1, bv1⟩ := h
    rw [lw, List.take_length] at R1
    exact k0 _ K1 R1
theorem ok_do_block (T : Txt w K mg) (C_do : C8.Met P w K mg base 17 (ad K "SerialRun") "do" (spSDo (K := K)) []) (C_parts_of_fold : C8.Cal P w K mg base 7 "parts_of_fold" (spParts 7) []) : ∀ n : Nat, C8.Met P w K mg base (17 + n) (ad K "SerialRun") "do_block" (spSBlk (K := K) n) []
  | 0 => T.f_SerialRun_do_block.none T.c_SerialRun fun vs H Q E h => by
    obtain ⟨_, _, _, _, _, _, _, _, _, _, _, _, _, _, _, h, _⟩ := h
    omega
  | n + 1 => do_block_1 (kl := 17 + n) T (by omega) C_do C_parts_of_fold (ok_do_block T C_do C_parts_of_fold n)
end
end K11
set_option Elab.async false
set_option linter.all false
set_option maxRecDepth 100000
set_option maxHeartbeats 4000000
namespace K11
open PySem PySem.Spec PyProof.Rows L2
/-! ### what lies ahead of each deed, in the end -/
/-- below n, F is u -/
def Agr (n : Nm) (u F : US) : Prop := ∀ k, n <+: k → alook F.blocks k = alook u.blocks k ∧ alook F.known k = alook u.known k ∧ alook F.done k = alook u.done k ∧ alook F.times k = alook u.times k
theorem Agr.down {n m : Nm} {u F : US} (h : Agr n u F) (p : n <+: m) : Agr m u F := fun k hk => h k (p.trans hk)
/-- what runs elsewhere, taken back -/
theorem Agr.back {n m : Nm} {u u' F : US} (h : Agr n u' F) (l : Loc m u u') (hn : ∀ r, ¬ m <+: n ++ r) : Agr n u F := fun k hk => by
  obtain ⟨r, rfl⟩ := hk
  obtain ⟨a1, a2, a3, a4⟩ := h _ (List.prefix_append n r)
  obtain ⟨b1, b2, b3, b4⟩ := l (n ++ r) (hn r)
  exact ⟨a1.trans b1, a2.trans b2, a3.trans b3, a4.trans b4⟩
structure GG (F : US) (n : Nm) (bef : List Nm) : Prop where
  ex : ∃ xs, Gap F 5 n xs ∧ xs.length < 60 ∧ ∀ y ∈ xs, y ≠ [] ∧ y ∈ bef
  len : n.length ≤ 40
  fst : ∀ k, alook F.known n = some k → k.fst.length ≤ 40
def Good (F : US) : List Nm → List Nm → Prop
  | _, [] => True
  | bef, n :: r => GG F n bef ∧ Good F (bef ++ [n]) r
theorem Good.app {F : US} : ∀ {a b bef : List Nm}, Good F bef a → Good F (bef ++ a) b → Good F bef (a ++ b)
  | [], _, bef, _, h => by rw [List.append_nil] at h; exact h
  | n :: a, b, bef, ⟨h1, h2⟩, h => ⟨h1, Good.app h2 (by rw [List.append_assoc]; exact h)⟩
theorem Good.one {F : US} {n : Nm} {bef : List Nm} (h : GG F n bef) : Good F bef [n] := ⟨h, trivial⟩
/-- tickets whose starts can be found -/
def TkOk (F : US) (q : Nm) (k : Nat) (T : List Str) (bef : List Nm) : Prop := ∀ t ∈ T, ∃ h m d e, Meant F t h q k m ∧ (∃ v, alook F.done m = some v) ∧ m.length + 12 ≤ 100 ∧ d < 5 ∧ LastIn F d (m ++ [0]) m e ∧ e ≠ [] ∧ e ∈ bef
theorem Meant.next {F : US} {t : Str} {h k : Nat} {q m : Nm} {x : BI} {s : Stm} (hm : Meant F t h q k m) (hb : alook F.blocks q = some x) (hs : x.stms[k]? = some s) (hk : k < 1000) (ne : ∀ b, s ≠ .start t b) : Meant F t h q (k + 1) m := by
  have hlt : k < x.stms.length := (List.getElem?_eq_some_iff.mp hs).1
  have no : ∀ {y : BI}, alook F.blocks q = some y → y = x := fun e => by rw [hb] at e; exact (Option.some.inj e).symm
  cases hm with
  | here h0 h1 h2 h3 h4 h5 h6 =>
    obtain rfl := no h2
    refine .here h0 (by omega) h2 (by omega) (by omega) h5 fun j j1 j2 b' z => ?_
    by_cases e : j = k
    · subst e
      rw [hs] at z
      exact ne b' (Option.some.inj z)
    · exact h6 j j1 (by omega) b' z
  | up h1 h2 h3 h4 h5 h6 =>
    obtain rfl := no h2
    refine .up (by omega) h2 (by omega) (fun j j2 b' z => ?_) h5 h6
    by_cases e : j = k
    · subst e
      rw [hs] at z
      exact ne b' (Option.some.inj z)
    · exact h4 j (by omega) b' z
theorem TkOk.mono {F : US} {q : Nm} {k : Nat} {T : List Str} {a b : List Nm} (h : TkOk F q k T a) (s : ∀ y ∈ a, y ∈ b) : TkOk F q k T b := fun t ht => by
  obtain ⟨hh, m, d, e, h1, h2, h3, h4, h5, h6, h7⟩ := h t ht
  exact ⟨hh, m, d, e, h1, h2, h3, h4, h5, h6, s e h7⟩
theorem TkOk.enter {F : US} {q q' : Nm} {k : Nat} {T : List Str} {a : List Nm} {x : BI} (h : TkOk F q k T a) (hb : alook F.blocks q' = some x) (ha : x.arnd = some (q, (k : Int))) : TkOk F q' 0 T a := fun t ht => by
  obtain ⟨hh, m, d, e, h1, h2⟩ := h t ht
  exact ⟨hh + 1, m, d, e, .up (by decide) hb (Nat.zero_le _) (fun j hj => by omega) ha h1, h2⟩
theorem blk_pB (q : Nm) (x : BI) : ∀ (ss : List Stm) (k : Nat) (c : Cf), alook (pB q k x c ss).u.blocks q = alook c.u.blocks q
  | [], _, _ => rfl
  | s :: ss, k, c => by
    unfold pB
    rw [blk_pB q x ss (k + 1)]
    exact (loc_pS q k x c s q not_long).1
theorem known_goU (u : US) (nm q : Nm) (k : Int) (x : BI) (v : Int) : ∀ s : Stm, alook (goU u nm q k x v s).known nm = alook u.known nm
  | .cond _ _ _ => (loc_unf (List.prefix_refl _) _ _ nm not_long).2.1
  | .start _ _ => (loc_unf (List.prefix_refl _) _ _ nm not_long).2.1
  | .fork bs => by
    show alook (aput _ _ _) nm = _
    rw [alook_ne (by intro z; have := congrArg List.length z; simp at this)]
    have g : ∀ (f : Nat → BI) (u : US) n, alook (loopU u nm f n).known nm = alook u.known nm := by
      intro f u n
      induction n with
      | zero => rfl
      | succ n ih => exact ((loc_unf (List.prefix_refl _) _ _ nm not_long).2.1).trans ih
    exact g _ _ _
  | .each _ _ _ => by
    show alook (aput _ _ _) nm = _
    rw [alook_ne (by intro z; have := congrArg List.length z; simp at this)]
    have g : ∀ (f : Nat → BI) (u : US) n, alook (loopU u nm f n).known nm = alook u.known nm := by
      intro f u n
      induction n with
      | zero => rfl
      | succ n ih => exact ((loc_unf (List.prefix_refl _) _ _ nm not_long).2.1).trans ih
    exact g _ _ _
  | .set _ _ => rfl
  | .add _ _ _ => rfl
  | .fold _ _ _ _ _ => rfl
  | .wait _ => rfl
theorem known_foldU (u : US) (nm : Nm) (v : Int) : alook (foldU u nm v).known nm = alook u.known nm := by
  show alook (aput _ _ _) nm = _
  rw [alook_ne (by intro z; have := congrArg List.length z; simp at this)]
  refine look_partN_ne nm _ _ nm (fun p hp z => ?_) _
  obtain ⟨a, r, rfl⟩ := parts_nat _ _ _ p hp
  have := congrArg List.length z
  simp at this
theorem known_u1S (u : US) (r : Int) (s : Stm) : (u1S u r s).known = u.known := by cases s <;> rfl
theorem known_stepU (u : US) (q : Nm) (k : Nat) (x : BI) (r : Int) (s : Stm) : alook (stepU u q k x r s).known (q ++ [(k : Int)]) = alook u.known (q ++ [(k : Int)]) := by
  have e : ({ u1S u r s with done := aput (u1S u r s).done (q ++ [(k : Int)]) r } : US).known = u.known := known_u1S u r s
  cases s <;> first | exact (known_goU _ _ _ _ _ _ _).trans (congrArg (fun l => alook l (q ++ [(k : Int)])) e) | exact (known_foldU _ _ _).trans (congrArg (fun l => alook l (q ++ [(k : Int)])) e)
/-- each part of a fold has its parts ahead of it -/
theorem parts_ord : ∀ (k lo hi : Nat), hi < lo + k → ∀ (i : Nat) (p : Nm), (parts k lo hi)[i]? = some p → (∃ a : Nat, p = [(a : Int)]) ∨ ∃ a b : Nat, p = [(a : Int), (b : Int)] ∧ a + 1 < b ∧ b ≤ hi ∧ pr a ((a + b) / 2) ∈ (parts k lo hi).take i ∧ pr ((a + b) / 2) b ∈ (parts k lo hi).take i
  | 0, lo, hi, h, i, p, hp => by simp [parts] at hp
  | k + 1, lo, hi, h, i, p, hp => by
    by_cases c : hi < lo + 2
    · have e : parts (k + 1) lo hi = (List.range (hi - lo)).map fun i => [((lo + i : Nat) : Int)] := by
        show (if hi < lo + 2 then _ else _) = _
        rw [if_pos c]
      rw [e, List.getElem?_map] at hp
      cases z : (List.range (hi - lo))[i]? with
      | none => rw [z] at hp; cases hp
      | some j => rw [z] at hp; cases hp; exact .inl ⟨lo + j, rfl⟩
    · have e : parts (k + 1) lo hi = parts k lo ((lo + hi) / 2) ++ parts k ((lo + hi) / 2) hi ++ [[(lo : Int), (hi : Int)]] := by
        show (if hi < lo + 2 then _ else _) = _
        rw [if_neg c]
      rw [e] at hp ⊢
      have tk : ∀ {a b : List Nm} {j : Nat} {y : Nm}, y ∈ a.take j → y ∈ (a ++ b).take j := fun {a b j y} h => by
        rw [List.take_append]
        exact List.mem_append_left _ h
      by_cases c1 : i < (parts k lo ((lo + hi) / 2)).length
      · rw [List.append_assoc, List.getElem?_append_left c1] at hp
        rcases parts_ord k lo _ (by omega) i p hp with h | ⟨a, b, h1, h2, h3, h4, h5⟩
        · exact .inl h
        · exact .inr ⟨a, b, h1, h2, by omega, tk (tk h4), tk (tk h5)⟩
      · by_cases c2 : i < (parts k lo ((lo + hi) / 2) ++ parts k ((lo + hi) / 2) hi).length
        · rw [List.getElem?_append_left c2, List.getElem?_append_right (by omega)] at hp
          have tk2 : ∀ {y : Nm}, y ∈ (parts k ((lo + hi) / 2) hi).take (i - (parts k lo ((lo + hi) / 2)).length) → y ∈ (parts k lo ((lo + hi) / 2) ++ parts k ((lo + hi) / 2) hi ++ [[(lo : Int), (hi : Int)]]).take i := fun {y} h => by
            refine tk ?_
            rw [List.take_append]
            exact List.mem_append_right _ h
          rcases parts_ord k _ hi (by omega) _ p hp with h | ⟨a, b, h1, h2, h3, h4, h5⟩
          · exact .inl h
          · exact .inr ⟨a, b, h1, h2, h3, tk2 h4, tk2 h5⟩
        · rw [List.getElem?_append_right (by omega)] at hp
          have e0 : i - (parts k lo ((lo + hi) / 2) ++ parts k ((lo + hi) / 2) hi).length = 0 := by
            by_cases z : i - (parts k lo ((lo + hi) / 2) ++ parts k ((lo + hi) / 2) hi).length = 0
            · exact z
            · rw [List.getElem?_eq_none (by show 1 ≤ _; omega)] at hp; cases hp
          rw [e0] at hp
          cases hp
          have full : ∀ {y : Nm}, y ∈ parts k lo ((lo + hi) / 2) ++ parts k ((lo + hi) / 2) hi → y ∈ (parts k lo ((lo + hi) / 2) ++ parts k ((lo + hi) / 2) hi ++ [[(lo : Int), (hi : Int)]]).take i := fun {y} h => by
            rw [List.take_append, List.take_of_length_le (by omega)]
            exact List.mem_append_left _ h
          exact .inr ⟨lo, hi, rfl, by omega, Nat.le_refl _, full (List.mem_append_left _ (pr_mem k lo _ (by omega) (by omega))), full (List.mem_append_right _ (pr_mem k _ hi (by omega) (by omega)))⟩
end K11
set_option Elab.async false
set_option linter.all false
set_option maxRecDepth 100000
set_option maxHeartbeats 4000000
namespace K11
open PySem PySem.Spec PyProof.Rows L2
/-- a run of the statements ss, that stand in the block x at q from the place k on -/
structure PB (ss : List Stm) : Prop where
  run : ∀ {d : Nat} {L T T0 : List Str} {q : Nm} {k : Nat} {x : BI} {c : Cf} {F : US}, XOk x d L T0 q → BAt c.u q k x → x.stms.drop k = ss → k ≤ x.stms.length → WFB d L T ss → d < 5 → Agr q (pB q k x c ss).u F →
  (∃ ps, PrevOf F 5 q x k ps ∧ ps.length ≤ 1 ∧ ∀ y ∈ ps, y ≠ [] ∧ y ∈ c.ord) → TkOk F q k T c.ord →
  ∃ new : List Nm, (pB q k x c ss).ord = c.ord ++ new ∧ Good F c.ord new ∧ (ss ≠ [] → ∃ m, LastOf F d (q ++ [((x.stms.length - 1 : Nat) : Int)]) m ∧ m ≠ [] ∧ m ∈ c.ord ++ new)
structure PS (s : Stm) : Prop where
  run : ∀ {d : Nat} {L T T0 : List Str} {q : Nm} {k : Nat} {x : BI} {c : Cf} {F : US}, XOk x d L T0 q → BAt c.u q k x → x.stms[k]? = some s → WFS d L T s → d < 5 → Agr (q ++ [(k : Int)]) (pS q k x c s).u F → alook F.blocks q = some x →
  (∃ ps, PrevOf F 5 q x k ps ∧ ps.length ≤ 1 ∧ ∀ y ∈ ps, y ≠ [] ∧ y ∈ c.ord) → TkOk F q k T c.ord →
  ∃ (new : List Nm) (m : Nm), (pS q k x c s).ord = c.ord ++ new ∧ Good F c.ord new ∧ LastOf F d (q ++ [(k : Int)]) m ∧ m ≠ [] ∧ m ∈ c.ord ++ new ∧ (q ++ [(k : Int)]) ∈ c.ord ++ new ∧
    (∀ t b, s = .start t b → ∃ (d2 : Nat) (e : Nm), d2 < 5 ∧ LastIn F d2 (q ++ [(k : Int)] ++ [0]) (q ++ [(k : Int)]) e ∧ e ≠ [] ∧ e ∈ c.ord ++ new) ∧ ∃ v, alook F.done (q ++ [(k : Int)]) = some v
/-- a whole block -/
theorem PB.whole {ss : List Stm} (h : PB ss) {d : Nat} {L T : List Str} {q o : Nm} {x : BI} {c : Cf} {F : US} (hx : XOk x d L T q) (hb : BAt c.u q 0 x) (hs : x.stms = ss) (hd : d < 5) (ha : Agr q (pB q 0 x c ss).u F) (hh : x.hang = some o) (ho : o ≠ []) (hm : o ∈ c.ord) (ht : TkOk F q 0 T c.ord) :
    ∃ (new : List Nm) (e : Nm), (pB q 0 x c ss).ord = c.ord ++ new ∧ Good F c.ord new ∧ LastIn F d q o e ∧ e ≠ [] ∧ e ∈ c.ord ++ new := by
  have wf : WFB d L T ss := by rw [← hs]; exact hx.wf
  obtain ⟨new, h1, h2, h3⟩ := h.run hx hb (by rw [List.drop_zero]; exact hs) (Nat.zero_le _) wf hd ha ⟨[o], by show [o] = x.hang.toList; rw [hh]; rfl, Nat.le_refl _, fun y hy => by rw [List.mem_singleton.mp hy]; exact ⟨ho, hm⟩⟩ ht
  have hbF : alook F.blocks q = some x := by
    rw [(ha q (List.prefix_refl q)).1, blk_pB]
    exact hb.bl
  by_cases e : ss = []
  · exact ⟨new, o, h1, h2, .nil hbF (by rw [hs, e]), ho, List.mem_append_left _ hm⟩
  · obtain ⟨m, m1, m2, m3⟩ := h3 e
    have l0 : 0 < x.stms.length := by rw [hs]; exact List.length_pos_iff.mpr e
    exact ⟨new, m, h1, h2, .cons (n := x.stms.length - 1) hbF (by omega) m1, m2, m3⟩
/-- the blocks of fork and each -/
theorem walk_good {nm q : Nm} {k n d : Nat} {T : List Str} {f : Nat → BI} {cs : Nat → Cf} {F : US} (hW : Walk nm n f cs) (hP : ∀ i, i < n → PB (f i).stms) (hX : ∀ i, i < n → ∃ Lj, XOk (f i) d Lj T (nm ++ [(i : Int)])) (hB : ∀ i, i < n → BAt (cs 0).u (nm ++ [(i : Int)]) 0 (f i)) (hh : ∀ i, i < n → (f i).hang = some nm ∧ (f i).arnd = some (q, (k : Int)))
    (hd : d < 5) (hnm : nm ≠ []) (hA : ∀ i, i < n → Agr (nm ++ [(i : Int)]) (cs n).u F) (ht : TkOk F q k T (cs 0).ord) (hm : nm ∈ (cs 0).ord) :
    ∀ j, j ≤ n → ∃ (new ms : List Nm), (cs j).ord = (cs 0).ord ++ new ∧ Good F (cs 0).ord new ∧ ms.length = j ∧ ∀ (i : Nat) y, ms[i]? = some y → LastIn F d (nm ++ [(i : Int)]) nm y ∧ y ≠ [] ∧ y ∈ (cs 0).ord ++ new
  | 0, _ => ⟨[], [], by simp, trivial, rfl, fun i y h => by simp at h⟩
  | j + 1, hj => by
    obtain ⟨new, ms, h1, h2, h3, h4⟩ := walk_good hW hP hX hB hh hd hnm hA ht hm j (by omega)
    obtain ⟨Lj, xo⟩ := hX j (by omega)
    -- the block stands as it stood, and stays as it is made
    have early : ∀ l, l ≤ j → BAt (cs l).u (nm ++ [(j : Int)]) 0 (f j) := by
      intro l
      induction l with
      | zero => intro _; exact hB j (by omega)
      | succ l ih =>
        intro hl
        rw [hW.step l (by omega)]
        exact (ih (by omega)).loc (loc_pB _ _ _ _ _) fun r => not_ext (by omega) r
    have later : ∀ l, Agr (nm ++ [(j : Int)]) (cs (n - l)).u F → ∀ m, n - l = j + 1 + m → Agr (nm ++ [(j : Int)]) (cs (j + 1)).u F := by
      intro l hl m
      induction m generalizing l with
      | zero => intro e; rw [e] at hl; exact hl
      | succ m ih =>
        intro e
        refine ih (n - (j + 1 + m)) ?_ (by omega)
        have e2 : n - (n - (j + 1 + m)) = j + 1 + m := by omega
        rw [e2]
        rw [e] at hl
        have e3 : j + 1 + (m + 1) = (j + 1 + m) + 1 := by omega
        rw [e3, hW.step _ (by omega)] at hl
        exact hl.back (loc_pB _ _ _ _ _) fun r => not_ext (by omega) r
    have ag : Agr (nm ++ [(j : Int)]) (cs (j + 1)).u F := later 0 (hA j (by omega)) (n - (j + 1)) (by omega)
    rw [hW.step j (by omega)] at ag
    have hb := early j (Nat.le_refl _)
    have hbF : alook F.blocks (nm ++ [(j : Int)]) = some (f j) := by
      rw [(ag _ (List.prefix_refl _)).1, blk_pB]
      exact hb.bl
    obtain ⟨new2, e, g1, g2, g3, g4, g5⟩ := (hP j (by omega)).whole xo hb rfl hd ag (hh j (by omega)).1 hnm (by rw [h1]; exact List.mem_append_left _ hm) (TkOk.enter (ht.mono fun y hy => by rw [h1]; exact List.mem_append_left _ hy) hbF (hh j (by omega)).2)
    refine ⟨new ++ new2, ms ++ [e], ?_, ?_, by rw [List.length_append, h3]; rfl, fun i y hy => ?_⟩
    · rw [hW.step j (by omega), g1, h1, List.append_assoc]
    · refine Good.app h2 ?_
      rw [← h1]
      exact g2
    · rw [← List.append_assoc, ← h1]
      by_cases c : i < ms.length
      · rw [List.getElem?_append_left c] at hy
        obtain ⟨a1, a2, a3⟩ := h4 i y hy
        exact ⟨a1, a2, List.mem_append_left _ (by rw [h1]; exact a3)⟩
      · rw [List.getElem?_append_right (by omega)] at hy
        have e0 : i - ms.length = 0 := by
          by_cases z : i - ms.length = 0
          · exact z
          · rw [List.getElem?_eq_none (by show 1 ≤ _; omega)] at hy; cases hy
        rw [e0] at hy
        cases hy
        have ei : i = j := by omega
        subst ei
        exact ⟨g3, g4, g5⟩
end K11
set_option Elab.async false
set_option linter.all false
set_option maxRecDepth 100000
set_option maxHeartbeats 4000000
namespace K11
open PySem PySem.Spec PyProof.Rows L2
theorem walk_keep {nm : Nm} {n : Nat} {f : Nat → BI} {cs : Nat → Cf} (hW : Walk nm n f cs) {kk : Nm} (h : ∀ i : Nat, ¬ nm ++ [(i : Int)] <+: kk) : ∀ j, j ≤ n → alook (cs j).u.blocks kk = alook (cs 0).u.blocks kk ∧ alook (cs j).u.known kk = alook (cs 0).u.known kk ∧ alook (cs j).u.done kk = alook (cs 0).u.done kk ∧ alook (cs j).u.times kk = alook (cs 0).u.times kk
  | 0, _ => ⟨rfl, rfl, rfl, rfl⟩
  | j + 1, hj => by
    obtain ⟨a1, a2, a3, a4⟩ := walk_keep hW h j (by omega)
    rw [hW.step j (by omega)]
    obtain ⟨b1, b2, b3, b4⟩ := loc_pB (nm ++ [(j : Int)]) 0 (f j) (cs j) (f j).stms kk (h j)
    exact ⟨b1.trans a1, b2.trans a2, b3.trans a3, b4.trans a4⟩
theorem snoc_ne_self {n : Nm} {a : Int} : n ++ [a] ≠ n := fun z => by
  have := congrArg List.length z
  simp at this
/-- a deed of a statement has what lies ahead of it -/
theorem gg_deed {d : Nat} {L T T0 : List Str} {q : Nm} {k : Nat} {x : BI} {F : US} {s : Stm} {bef : List Nm} (hx : XOk x d L T0 q) (hs : x.stms[k]? = some s) (hb : alook F.blocks q = some x) (hk : alook F.known (q ++ [(k : Int)]) = some ⟨s.kd, q ++ [(k : Int)], []⟩) (wf : WFS d L T s)
    (hp : ∃ ps, PrevOf F 5 q x k ps ∧ ps.length ≤ 1 ∧ ∀ y ∈ ps, y ≠ [] ∧ y ∈ bef) (ht : TkOk F q k T bef) : GG F (q ++ [(k : Int)]) bef := by
  obtain ⟨ps, h1, h2, h3⟩ := hp
  have lq := hx.lq
  have ln : (q ++ [(k : Int)]).length ≤ 40 := by rw [List.length_append]; show q.length + 1 ≤ 40; omega
  have hw : ∃ es, WaitOf F 5 q k s es ∧ es.length ≤ 1 ∧ ∀ y ∈ es, y ≠ [] ∧ y ∈ bef := by
    by_cases w : ∃ t, s = .wait t
    · obtain ⟨t, rfl⟩ := w
      obtain ⟨h, m, dd, e, a1, a2, a3, a4, a5, a6, a7⟩ := ht t wf.2
      exact ⟨[e], ⟨h, dd, m, e, a1, a2, by omega, a4, a5, rfl⟩, Nat.le_refl _, fun y hy => by rw [List.mem_singleton.mp hy]; exact ⟨a6, a7⟩⟩
    · refine ⟨[], ?_, Nat.zero_le _, fun y hy => by cases hy⟩
      cases s <;> first | exact absurd ⟨_, rfl⟩ w | rfl
  obtain ⟨es, e1, e2, e3⟩ := hw
  refine ⟨⟨ps ++ es, .stm hk ⟨hb, hs⟩ h1 e1, by rw [List.length_append]; omega, fun y hy => ?_⟩, ln, fun y hy => by rw [hk] at hy; cases hy; exact ln⟩
  rcases List.mem_append.mp hy with z | z
  · exact h3 y z
  · exact e3 y z
/-- where a step leaves the deed itself -/
structure Self (u F : US) (nm : Nm) (s : Stm) (r : Int) : Prop where
  kw : alook F.known nm = some ⟨s.kd, nm, []⟩
  dn : alook F.done nm = some r
theorem self_of {q : Nm} {k : Nat} {x : BI} {c : Cf} {F : US} {s : Stm} {u' : US} (hb : BAt c.u q k x) (hs : x.stms[k]? = some s) (h1 : alook u'.known (q ++ [(k : Int)]) = alook (stepC q k x c s).u.known (q ++ [(k : Int)])) (h2 : alook u'.done (q ++ [(k : Int)]) = alook (stepC q k x c s).u.done (q ++ [(k : Int)])) (ag : Agr (q ++ [(k : Int)]) u' F) : Self c.u F (q ++ [(k : Int)]) s (resS c.u x s) := by
  obtain ⟨a1, a2, a3, a4⟩ := ag _ (List.prefix_refl _)
  refine ⟨?_, ?_⟩
  · rw [a2, h1]
    show alook (stepU _ _ _ _ _ _).known _ = _
    rw [known_stepU]
    exact hb.kw k s (Nat.le_refl _) hs
  · rw [a3, h2]
    exact done_stepU _ _ _ _ _ _
theorem not_join (nm : Nm) (i : Nat) : ¬ nm ++ [(i : Int)] <+: nm ++ [-1] := snoc_ne (by omega)
theorem gPS_plain {s : Stm} (hj : s.jn = false) (hi : s.isIf = false) (hp : ∀ q k x c, pS q k x c s = stepC q k x c s) (hns : ∀ t b, s ≠ .start t b) : PS s := by
  refine ⟨fun {d L T T0 q k x c F} hx hb hs wf hd ag hbF prev ticks => ?_⟩
  rw [hp] at ag ⊢
  have sf := self_of hb hs rfl rfl ag
  have g := gg_deed hx hs hbF sf.kw wf prev ticks
  have mem : (q ++ [(k : Int)]) ∈ c.ord ++ [q ++ [(k : Int)]] := List.mem_append_right _ (List.mem_singleton.mpr rfl)
  exact ⟨[q ++ [(k : Int)]], q ++ [(k : Int)], rfl, Good.one g, .self ⟨hbF, hs⟩ hj hi, by simp, mem, mem, fun t b e => absurd e (hns t b), _, sf.dn⟩
theorem gPS_start {t : Str} {b : List Stm} (hB : PB b) : PS (.start t b) := by
  refine ⟨fun {d L T T0 q k x c F} hx hb hs wf hd ag hbF prev ticks => ?_⟩
  obtain ⟨w1, hd0, w2, w3⟩ := wf
  have wf : WFS d L T (.start t b) := ⟨w1, hd0, w2, w3⟩
  have ep : pS q k x c (.start t b) = pB (q ++ [(k : Int)] ++ [0]) 0 ⟨b, x.env, some (q ++ [(k : Int)]), some (q, k)⟩ (stepC q k x c (.start t b)) b := by unfold pS; rfl
  rw [ep] at ag ⊢
  have lc := loc_pB (q ++ [(k : Int)] ++ [0]) 0 ⟨b, x.env, some (q ++ [(k : Int)]), some (q, k)⟩ (stepC q k x c (.start t b)) b _ (not_long (q := q ++ [(k : Int)]) (a := 0))
  have sf := self_of hb hs lc.2.1 lc.2.2.1 ag
  have g := gg_deed hx hs hbF sf.kw wf prev ticks
  have hbb : BAt (stepC q k x c (.start t b)).u (q ++ [(k : Int)] ++ [0]) 0 ⟨b, x.env, some (q ++ [(k : Int)]), some (q, (k : Int))⟩ := BAt.unf _ _ _
  have ag2 := ag.down (List.prefix_append (q ++ [(k : Int)]) [0])
  have mem : (q ++ [(k : Int)]) ∈ (stepC q k x c (.start t b)).ord := List.mem_append_right _ (List.mem_singleton.mpr rfl)
  have hbF2 : alook F.blocks (q ++ [(k : Int)] ++ [0]) = some ⟨b, x.env, some (q ++ [(k : Int)]), some (q, (k : Int))⟩ := by
    rw [(ag2 _ (List.prefix_refl _)).1, blk_pB]
    exact hbb.bl
  obtain ⟨new, e, h1, h2, h3, h4, h5⟩ := hB.whole (hx.below hd0 w2 w3) hbb rfl (by omega) ag2 rfl (by simp) mem (TkOk.enter (ticks.mono fun y hy => List.mem_append_left _ hy) hbF2 rfl)
  have eo : c.ord ++ ((q ++ [(k : Int)]) :: new) = (stepC q k x c (.start t b)).ord ++ new := by
    show _ = (c.ord ++ [q ++ [(k : Int)]]) ++ new
    rw [List.append_assoc]
    rfl
  have m2 : (q ++ [(k : Int)]) ∈ c.ord ++ ((q ++ [(k : Int)]) :: new) := by rw [eo]; exact List.mem_append_left _ mem
  refine ⟨(q ++ [(k : Int)]) :: new, q ++ [(k : Int)], by rw [h1, eo], ⟨g, h2⟩, .self ⟨hbF, hs⟩ rfl rfl, by simp, m2, m2, fun t' b' e' => ⟨d - 1, e, by omega, h3, h4, by rw [eo]; exact h5⟩, _, sf.dn⟩
theorem gPS_cond {e : Exp} {a b : List Stm} (hA : PB a) (hB : PB b) : PS (.cond e a b) := by
  refine ⟨fun {d L T T0 q k x c F} hx hb hs wf hd ag hbF prev ticks => ?_⟩
  have wf' := wf
  obtain ⟨w1, hd0, w2, w3, w4, w5⟩ := wf
  have go : ∀ (m : Int) (bb : List Stm), m = (if resS c.u x (.cond e a b) ≠ 0 then 0 else 1) → bb = (if resS c.u x (.cond e a b) ≠ 0 then a else b) → PB bb → bb.length ≤ 6 → WFB (d - 1) L T bb → pS q k x c (.cond e a b) = pB (q ++ [(k : Int)] ++ [m]) 0 ⟨bb, x.env, some (q ++ [(k : Int)]), some (q, k)⟩ (stepC q k x c (.cond e a b)) bb →
      ∃ (new : List Nm) (m : Nm), (pS q k x c (.cond e a b)).ord = c.ord ++ new ∧ Good F c.ord new ∧ LastOf F d (q ++ [(k : Int)]) m ∧ m ≠ [] ∧ m ∈ c.ord ++ new ∧ (q ++ [(k : Int)]) ∈ c.ord ++ new ∧
        (∀ t b', Stm.cond e a b = .start t b' → ∃ (d2 : Nat) (e : Nm), d2 < 5 ∧ LastIn F d2 (q ++ [(k : Int)] ++ [0]) (q ++ [(k : Int)]) e ∧ e ≠ [] ∧ e ∈ c.ord ++ new) ∧ ∃ v, alook F.done (q ++ [(k : Int)]) = some v := by
    intro m bb em eb hBB lb wb ep
    rw [ep] at ag ⊢
    have lc := loc_pB (q ++ [(k : Int)] ++ [m]) 0 ⟨bb, x.env, some (q ++ [(k : Int)]), some (q, k)⟩ (stepC q k x c (.cond e a b)) bb _ (not_long (q := q ++ [(k : Int)]) (a := m))
    have sf := self_of hb hs lc.2.1 lc.2.2.1 ag
    have g := gg_deed hx hs hbF sf.kw wf' prev ticks
    have hbb : BAt (stepC q k x c (.cond e a b)).u (q ++ [(k : Int)] ++ [m]) 0 ⟨bb, x.env, some (q ++ [(k : Int)]), some (q, (k : Int))⟩ := by
      rw [em, eb]
      exact BAt.unf _ _ _
    have ag2 := ag.down (List.prefix_append (q ++ [(k : Int)]) [m])
    have mem : (q ++ [(k : Int)]) ∈ (stepC q k x c (.cond e a b)).ord := List.mem_append_right _ (List.mem_singleton.mpr rfl)
    have hbF2 : alook F.blocks (q ++ [(k : Int)] ++ [m]) = some ⟨bb, x.env, some (q ++ [(k : Int)]), some (q, (k : Int))⟩ := by
      rw [(ag2 _ (List.prefix_refl _)).1, blk_pB]
      exact hbb.bl
    obtain ⟨new, z, h1, h2, h3, h4, h5⟩ := hBB.whole (hx.below hd0 lb wb) hbb rfl (by omega) ag2 rfl (by simp) mem (TkOk.enter (ticks.mono fun y hy => List.mem_append_left _ hy) hbF2 rfl)
    have eo : c.ord ++ ((q ++ [(k : Int)]) :: new) = (stepC q k x c (.cond e a b)).ord ++ new := by
      show _ = (c.ord ++ [q ++ [(k : Int)]]) ++ new
      rw [List.append_assoc]
      rfl
    have m2 : (q ++ [(k : Int)]) ∈ c.ord ++ ((q ++ [(k : Int)]) :: new) := by rw [eo]; exact List.mem_append_left _ mem
    have ed : d = (d - 1) + 1 := by omega
    refine ⟨(q ++ [(k : Int)]) :: new, z, by rw [h1, eo], ⟨g, h2⟩, ?_, h4, by rw [eo]; exact h5, m2, (fun t' b' e' => by cases e'), _, sf.dn⟩
    rw [ed]
    rw [em] at h3
    exact .cond ⟨hbF, hs⟩ sf.dn h3
  have er : resS c.u x (.cond e a b) = evE c.u.st x.env e := rfl
  by_cases cz : resS c.u x (.cond e a b) = 0
  · refine go 1 b (by rw [if_neg (fun w => w cz)]) (by rw [if_neg (fun w => w cz)]) hB w4 w5 ?_
    unfold pS
    rw [if_neg (by rw [← er]; exact fun w => w cz)]
  · refine go 0 a (by rw [if_pos cz]) (by rw [if_pos cz]) hA w2 w3 ?_
    unfold pS
    rw [if_pos (by rw [← er]; exact cz)]
/-- fork and each -/
def Stm.blks : Stm → List (List Stm)
  | .fork bs => bs
  | .each _ _ b => [b]
  | _ => []
theorem fe_walk2 {x : BI} {d : Nat} {L T T0 : List Str} {q : Nm} {i : Nat} {c : Cf} {s : Stm} (h : XOk x d L T q) (wf : WFS d L T0 s) (hs : inV (.str s.kd) [V.str "fork", V.str "each"] = true) :
    ∃ (n : Nat) (f : Nat → BI) (cs : Nat → Cf), Walk (q ++ [(i : Int)]) n f cs ∧ cs 0 = stepC q i x c s ∧ pS q i x c s = (cs n).dn (q ++ [(i : Int)] ++ [-1]) 0 ∧ Opened (stepC q i x c s).u (q ++ [(i : Int)]) q i n f ∧ n ≤ 6 ∧ 0 < d ∧
      ∀ j, j < n → (∃ Lj, XOk (f j) (d - 1) Lj T0 (q ++ [(i : Int)] ++ [(j : Int)])) ∧ (f j).hang = some (q ++ [(i : Int)]) ∧ (f j).arnd = some (q, (i : Int)) ∧ (f j).stms ∈ s.blks := by
  cases s with
  | fork bs =>
    refine ⟨bs.length, _, _, walk_fork (q ++ [(i : Int)]) q i x.env (stepC q i x c (.fork bs)) bs, ?_, ?_, opened_fork _ _ _ _ _ _, Nat.le_trans wf.2.2.1 (by decide), wf.1, fun j hj => ?_⟩
    · show pBs _ _ _ _ 0 _ (bs.take 0) = _
      rw [List.take_zero]
      rfl
    · show pS q i x c (.fork bs) = (pBs _ _ _ _ 0 _ (bs.take bs.length)).dn _ 0
      rw [List.take_length]
      unfold pS
      rfl
    · have hb : bs[j]? = some bs[j] := List.getElem?_eq_getElem hj
      have e : bs.getD j [] = bs[j] := by rw [List.getD_eq_getElem?_getD, hb]; rfl
      obtain ⟨w1, w2⟩ := wf.2.2.2.at hb
      refine ⟨⟨L, ?_⟩, rfl, rfl, ?_⟩
      · rw [e]
        exact h.below wf.1 w1 w2
      · show bs.getD j [] ∈ bs
        rw [e]
        exact List.getElem_mem hj
  | each y e b =>
    refine ⟨(resS c.u x (.each y e b) % 7).toNat, _, _, walk_each (q ++ [(i : Int)]) q i (fun j => aput x.env y (j : Int)) (stepC q i x c (.each y e b)) b _, rfl, ?_, opened_each _ _ _ _ _ _ _ _, by have := mod7 (resS c.u x (.each y e b)); omega, wf.2.2.1, fun j hj => ?_⟩
    · unfold pS
      rfl
    · exact ⟨⟨L ++ [y], h.loop wf.2.2.1 (Nat.lt_trans hj (mod7 _)) wf.2.2.2.1 wf.2.2.2.2⟩, rfl, rfl, List.mem_singleton.mpr rfl⟩
  | _ => cases hs
theorem jn_of {s : Stm} (hs : inV (.str s.kd) [V.str "fork", V.str "each"] = true) : s.jn = true ∧ ∀ t b, s ≠ .start t b := by
  cases s <;> first | exact ⟨rfl, fun _ _ z => by cases z⟩ | cases hs
theorem gPS_loop {s : Stm} (hkd : inV (.str s.kd) [V.str "fork", V.str "each"] = true) (hB : ∀ b ∈ s.blks, PB b) : PS s := by
  refine ⟨fun {d L T T0 q k x c F} hx hb hs wf hd ag hbF prev ticks => ?_⟩
  obtain ⟨n, f, cs, hW, e0, eE, hO, hn6, hd0, hj⟩ := fe_walk2 (i := k) (c := c) hx wf hkd
  obtain ⟨hjn, hns⟩ := jn_of hkd
  rw [eE] at ag ⊢
  have kself := walk_keep hW (kk := q ++ [(k : Int)]) (fun i => not_long) n (Nat.le_refl _)
  have kjoin := walk_keep hW (kk := q ++ [(k : Int)] ++ [-1]) (fun i => not_join _ i) n (Nat.le_refl _)
  rw [e0] at kself kjoin
  have sf := self_of (u' := ((cs n).dn (q ++ [(k : Int)] ++ [-1]) 0).u) hb hs kself.2.1 ((alook_ne snoc_ne_self).trans kself.2.2.1) ag
  have g := gg_deed hx hs hbF sf.kw wf prev ticks
  have agn : Agr (q ++ [(k : Int)]) (cs n).u F ∨ True := .inr trivial
  have agj : ∀ i : Nat, Agr (q ++ [(k : Int)] ++ [(i : Int)]) (cs n).u F := fun i => (ag.down (List.prefix_append (q ++ [(k : Int)]) [(i : Int)])).back (loc_dn (List.prefix_refl (q ++ [(k : Int)] ++ [-1])) (cs n).u 0) fun r => not_ext (by omega) r
  have mem : (q ++ [(k : Int)]) ∈ (cs 0).ord := by rw [e0]; exact List.mem_append_right _ (List.mem_singleton.mpr rfl)
  obtain ⟨new, ms, h1, h2, h3, h4⟩ := walk_good (q := q) (k := k) (d := d - 1) (T := T) hW (fun i hi => hB _ (hj i hi).2.2.2) (fun i hi => (hj i hi).1) (by rw [e0]; exact hO.at_) (fun i hi => ⟨(hj i hi).2.1, (hj i hi).2.2.1⟩) (by omega) (by simp) (fun i _ => agj i) (by rw [e0]; exact ticks.mono fun y hy => List.mem_append_left _ hy) mem n (Nat.le_refl _)
  rw [e0] at h1 h2 h4 mem
  have lq := hx.lq
  have tmF : alook F.times (q ++ [(k : Int)]) = some n := by
    rw [(ag _ (List.prefix_refl _)).2.2.2]
    exact kself.2.2.2.trans hO.tm
  have kjF : alook F.known (q ++ [(k : Int)] ++ [-1]) = some ⟨"join", q ++ [(k : Int)], []⟩ := by
    rw [(ag _ (List.prefix_append _ _)).2.1]
    exact kjoin.2.1.trans hO.jn
  have gj : GG F (q ++ [(k : Int)] ++ [-1]) ((stepC q k x c s).ord ++ new) := by
    have len1 : (q ++ [(k : Int)] ++ [-1]).length ≤ 40 := by rw [List.length_append, List.length_append]; show q.length + 1 + 1 ≤ 40; omega
    have len2 : (q ++ [(k : Int)]).length ≤ 40 := by rw [List.length_append]; show q.length + 1 ≤ 40; omega
    refine ⟨?_, len1, fun y hy => by rw [kjF] at hy; cases hy; exact len2⟩
    by_cases n0 : n = 0
    · subst n0
      exact ⟨[q ++ [(k : Int)]], .join0 kjF sf.dn tmF, by show 1 < 60; decide, fun y hy => by rw [List.mem_singleton.mp hy]; exact ⟨by simp, List.mem_append_left _ mem⟩⟩
    · obtain ⟨m, rfl⟩ : ∃ m, n = m + 1 := ⟨n - 1, by omega⟩
      refine ⟨ms, .join (v := 0) kjF sf.dn tmF (by omega) h3 (fun i y hy => ⟨d - 1, by omega, (h4 i y hy).1⟩), by omega, fun y hy => ?_⟩
      obtain ⟨i, hi⟩ := List.mem_iff_getElem?.mp hy
      exact (h4 i y hi).2
  have eo : c.ord ++ ((q ++ [(k : Int)]) :: (new ++ [q ++ [(k : Int)] ++ [-1]])) = (stepC q k x c s).ord ++ new ++ [q ++ [(k : Int)] ++ [-1]] := by
    show _ = (c.ord ++ [q ++ [(k : Int)]]) ++ new ++ _
    generalize q ++ [(k : Int)] ++ [-1] = w
    generalize q ++ [(k : Int)] = w2
    rw [List.append_assoc, List.append_assoc]
    rfl
  have m2 : (q ++ [(k : Int)]) ∈ c.ord ++ ((q ++ [(k : Int)]) :: (new ++ [q ++ [(k : Int)] ++ [-1]])) := List.mem_append_right _ List.mem_cons_self
  have m3 : (q ++ [(k : Int)] ++ [-1]) ∈ c.ord ++ ((q ++ [(k : Int)]) :: (new ++ [q ++ [(k : Int)] ++ [-1]])) := by rw [eo]; exact List.mem_append_right _ (List.mem_singleton.mpr rfl)
  refine ⟨(q ++ [(k : Int)]) :: (new ++ [q ++ [(k : Int)] ++ [-1]]), q ++ [(k : Int)] ++ [-1], ?_, ⟨g, Good.app h2 (Good.one gj)⟩, .jn ⟨hbF, hs⟩ hjn, by simp, m3, m2, (fun t b e => absurd e (hns t b)), _, sf.dn⟩
  rw [eo]
  show (cs n).ord ++ _ = _
  rw [h1]
theorem good_parts {F : US} {nm : Nm} (R : Nm → Int) (hnm : nm ≠ []) (hl : nm.length ≤ 38) (m : Nat) (hm : m < 7) (hk : ∀ p, p ∈ parts 7 0 m → alook F.known (nm ++ p) = some ⟨kdOf p, nm, p⟩) : ∀ (j : Nat) (c : Cf), j ≤ (parts 7 0 m).length → nm ∈ c.ord → (∀ p, p ∈ (parts 7 0 m).take ((parts 7 0 m).length - j) → nm ++ p ∈ c.ord) →
    ∃ new : List Nm, (partsC nm R c ((parts 7 0 m).drop ((parts 7 0 m).length - j))).ord = c.ord ++ new ∧ Good F c.ord new ∧ ∀ p, p ∈ parts 7 0 m → nm ++ p ∈ c.ord ++ new
  | 0, c, _, hn, hp => by
    rw [Nat.sub_zero] at hp ⊢
    rw [List.drop_length]
    rw [List.take_length] at hp
    exact ⟨[], by rw [List.append_nil]; rfl, trivial, fun p h => by rw [List.append_nil]; exact hp p h⟩
  | j + 1, c, hj, hn, hp => by
    generalize ei : (parts 7 0 m).length - (j + 1) = i at hp ⊢
    have hlt : i < (parts 7 0 m).length := by omega
    have hg : (parts 7 0 m)[i]? = some (parts 7 0 m)[i] := List.getElem?_eq_getElem hlt
    generalize (parts 7 0 m)[i] = p at hg
    have pm := List.mem_of_getElem? hg
    obtain ⟨pne, pl⟩ := parts_ne 7 0 m p pm
    have dj : (parts 7 0 m).drop i = p :: (parts 7 0 m).drop (i + 1) := by
      rw [List.drop_eq_getElem_cons hlt]
      have e0 := List.getElem?_eq_getElem hlt
      rw [hg] at e0
      rw [← Option.some.inj e0]
    rw [dj]
    have e1 : i + 1 = (parts 7 0 m).length - j := by omega
    have kp := hk p pm
    have g : GG F (nm ++ p) c.ord := by
      refine ⟨?_, by rw [List.length_append]; omega, fun y hy => by rw [kp] at hy; cases hy; show nm.length ≤ 40; omega⟩
      rcases parts_ord 7 0 m (by omega) i p hg with ⟨a, rfl⟩ | ⟨a, b, rfl, h1, h2, h3, h4⟩
      · exact ⟨[nm], .leaf kp, by show 1 < 60; decide, fun y hy => by rw [List.mem_singleton.mp hy]; exact ⟨hnm, hn⟩⟩
      · refine ⟨_, .pair kp h1 (by omega), by show 2 < 60; decide, fun y hy => ?_⟩
        rw [pfn_pr, pfn_pr] at hy
        rcases List.mem_cons.mp hy with rfl | hy
        · exact ⟨by simp [hnm], hp _ h3⟩
        · rw [List.mem_singleton.mp hy]
          exact ⟨by simp [hnm], hp _ h4⟩
    obtain ⟨new, h1, h2, h3⟩ := good_parts R hnm hl m hm hk j (c.dn (nm ++ p) (R p)) (by omega) (List.mem_append_left _ hn) (fun p' hp' => by
      rw [← e1, List.take_succ, hg] at hp'
      rcases List.mem_append.mp hp' with z | z
      · exact List.mem_append_left _ (hp p' z)
      · simp at z
        rw [z]
        exact List.mem_append_right _ (List.mem_singleton.mpr rfl))
    rw [← e1] at h1
    refine ⟨(nm ++ p) :: new, ?_, ⟨g, h2⟩, fun p' hp' => ?_⟩
    · show (partsC nm R (c.dn (nm ++ p) (R p)) _).ord = _
      rw [h1]
      show (c.ord ++ [nm ++ p]) ++ new = _
      rw [List.append_assoc]
      rfl
    · have z := h3 p' hp'
      show _ ∈ c.ord ++ ([nm ++ p] ++ new)
      rw [← List.append_assoc]
      exact z
theorem gPS_fold {y o i : Str} {e l : Exp} : PS (.fold y o i e l) := by
  refine ⟨fun {d L T T0 q k x c F} hx hb hs wf hd ag hbF prev ticks => ?_⟩
  have em7 := mod7 (evE c.u.st x.env e)
  have ep : pS q k x c (.fold y o i e l) = keepC (partsC (q ++ [(k : Int)]) (partR c.u.st x.env o i l) (stepC q k x c (.fold y o i e l)) (parts 7 0 (evE c.u.st x.env e % 7).toNat)) (q ++ [(k : Int)]) y (if (evE c.u.st x.env e % 7).toNat = 0 then 0 else fv c.u.st x.env o i l 7 0 (evE c.u.st x.env e % 7).toNat) := by unfold pS; rfl
  rw [ep] at ag ⊢
  have er : resS c.u x (.fold y o i e l) = evE c.u.st x.env e := rfl
  generalize hm : (evE c.u.st x.env e % 7).toNat = m at em7 ag ⊢
  generalize (if m = 0 then (0 : Int) else fv c.u.st x.env o i l 7 0 m) = r2 at ag ⊢
  have up := partsC_u (q ++ [(k : Int)]) (partR c.u.st x.env o i l) (parts 7 0 m) (stepC q k x c (.fold y o i e l))
  have dn0 : ∀ ps : List Nm, (∀ p ∈ ps, p ≠ []) → ∀ c0 : Cf, alook (partsC (q ++ [(k : Int)]) (partR c.u.st x.env o i l) c0 ps).u.done (q ++ [(k : Int)]) = alook c0.u.done (q ++ [(k : Int)]) := by
    intro ps
    induction ps with
    | nil => intro _ c0; rfl
    | cons p ps ih =>
      intro hp c0
      refine (ih (fun p' h' => hp p' (List.mem_cons_of_mem _ h')) (c0.dn (q ++ [(k : Int)] ++ p) (partR c.u.st x.env o i l p))).trans (alook_ne fun z => hp p List.mem_cons_self ?_)
      have := congrArg List.length z
      rw [List.length_append] at this
      exact List.length_eq_zero_iff.mp (by omega)
  have sf := self_of (u' := (keepC (partsC (q ++ [(k : Int)]) (partR c.u.st x.env o i l) (stepC q k x c (.fold y o i e l)) (parts 7 0 m)) (q ++ [(k : Int)]) y r2).u) hb hs (by show alook (partsC _ _ _ _).u.known _ = _; rw [up.1]) ((alook_ne snoc_ne_self).trans (dn0 _ (fun p hp => (parts_ne 7 0 m p hp).1) _)) ag
  have g := gg_deed hx hs hbF sf.kw wf prev ticks
  have lq := hx.lq
  have len2 : (q ++ [(k : Int)]).length ≤ 38 := by rw [List.length_append]; show q.length + 1 ≤ 38; omega
  have pk : ∀ p, p ∈ parts 7 0 m → alook F.known (q ++ [(k : Int)] ++ p) = some ⟨kdOf p, q ++ [(k : Int)], p⟩ := fun p hp => by
    rw [(ag _ (List.prefix_append _ _)).2.1]
    show alook (partsC _ _ _ _).u.known _ = _
    rw [up.1]
    exact parts_known (u := { u1S c.u (resS c.u x (.fold y o i e l)) (.fold y o i e l) with done := aput (u1S c.u (resS c.u x (.fold y o i e l)) (.fold y o i e l)).done (q ++ [(k : Int)]) (resS c.u x (.fold y o i e l)) }) (v := resS c.u x (.fold y o i e l)) (by rw [er, hm]; exact hp) (parts_m1 hp)
  have mem : (q ++ [(k : Int)]) ∈ (stepC q k x c (.fold y o i e l)).ord := List.mem_append_right _ (List.mem_singleton.mpr rfl)
  obtain ⟨new, h1, h2, h3⟩ := good_parts (F := F) (partR c.u.st x.env o i l) (by simp) len2 m em7 pk (parts 7 0 m).length (stepC q k x c (.fold y o i e l)) (Nat.le_refl _) mem (fun p hp => by rw [Nat.sub_self, List.take_zero] at hp; cases hp)
  rw [Nat.sub_self, List.drop_zero] at h1
  have kF : alook F.known (q ++ [(k : Int)] ++ [-1]) = some ⟨"keep", q ++ [(k : Int)], []⟩ := by
    rw [(ag _ (List.prefix_append _ _)).2.1]
    show alook (partsC _ _ _ _).u.known _ = _
    rw [up.1]
    exact alook_self _ _ _
  have tF : alook F.times (q ++ [(k : Int)]) = some m := by
    rw [(ag _ (List.prefix_refl _)).2.2.2]
    show alook (partsC _ _ _ _).u.times _ = _
    rw [up.2.2.1]
    have z : alook (stepC q k x c (.fold y o i e l)).u.times (q ++ [(k : Int)]) = some (resS c.u x (.fold y o i e l) % 7).toNat := alook_self _ _ _
    rw [z, er, hm]
  have gk : GG F (q ++ [(k : Int)] ++ [-1]) ((stepC q k x c (.fold y o i e l)).ord ++ new) := by
    refine ⟨⟨_, .keep kF tF (by omega), by show 1 < 60; decide, fun z hz => ?_⟩, by rw [List.length_append]; show _ + 1 ≤ 40; omega, fun z hz => by rw [kF] at hz; cases hz; show (q ++ [(k : Int)]).length ≤ 40; omega⟩
    rw [List.mem_singleton.mp hz]
    split
    · exact ⟨by simp, List.mem_append_left _ mem⟩
    · rw [pfn_pr]
      exact ⟨by simp, h3 _ (pr_mem 7 0 m (by omega) (by omega))⟩
  have eo : c.ord ++ ((q ++ [(k : Int)]) :: (new ++ [q ++ [(k : Int)] ++ [-1]])) = (stepC q k x c (.fold y o i e l)).ord ++ new ++ [q ++ [(k : Int)] ++ [-1]] := by
    show _ = (c.ord ++ [q ++ [(k : Int)]]) ++ new ++ _
    generalize q ++ [(k : Int)] ++ [-1] = w
    generalize q ++ [(k : Int)] = w2
    rw [List.append_assoc, List.append_assoc]
    rfl
  have m2 : (q ++ [(k : Int)]) ∈ c.ord ++ ((q ++ [(k : Int)]) :: (new ++ [q ++ [(k : Int)] ++ [-1]])) := List.mem_append_right _ List.mem_cons_self
  have m3 : (q ++ [(k : Int)] ++ [-1]) ∈ c.ord ++ ((q ++ [(k : Int)]) :: (new ++ [q ++ [(k : Int)] ++ [-1]])) := by rw [eo]; exact List.mem_append_right _ (List.mem_singleton.mpr rfl)
  refine ⟨(q ++ [(k : Int)]) :: (new ++ [q ++ [(k : Int)] ++ [-1]]), q ++ [(k : Int)] ++ [-1], ?_, ⟨g, Good.app h2 (Good.one gk)⟩, .jn ⟨hbF, hs⟩ rfl, by simp, m3, m2, (fun t b e => by cases e), _, sf.dn⟩
  rw [eo]
  show (partsC _ _ _ _).ord ++ _ = _
  rw [h1]
theorem gPB_nil : PB [] := by
  refine ⟨fun {d L T T0 q k x c F} hx hb hs hk wf hd ag prev ticks => ⟨[], by rw [List.append_nil]; rfl, trivial, fun z => absurd rfl z⟩⟩
theorem gPB_cons {s : Stm} {ss : List Stm} (h1 : PS s) (h2 : PB ss) : PB (s :: ss) := by
  refine ⟨fun {d L T T0 q k x c F} hx hb hs hk wf hd ag prev ticks => ?_⟩
  have hsk : x.stms[k]? = some s := by
    have := congrArg (fun l => l[0]?) hs
    simpa using this
  have hlt : k < x.stms.length := (List.getElem?_eq_some_iff.mp hsk).1
  have hs2 : x.stms.drop (k + 1) = ss := by
    have := congrArg List.tail hs
    simpa [List.tail_drop] using this
  have few := hx.few
  have hbF : alook F.blocks q = some x := by
    rw [(ag q (List.prefix_refl q)).1, blk_pB]
    exact hb.bl
  have ep : pB q k x c (s :: ss) = pB q (k + 1) x (pS q k x c s) ss := rfl
  rw [ep] at ag ⊢
  have agk : Agr (q ++ [(k : Int)]) (pS q k x c s).u F := by
    have g : ∀ (rest : List Stm) (j : Nat) (c0 : Cf), k < j → Agr (q ++ [(k : Int)]) (pB q j x c0 rest).u F → Agr (q ++ [(k : Int)]) c0.u F := by
      intro rest
      induction rest with
      | nil => intro j c0 _ h; exact h
      | cons r rest ih =>
        intro j c0 hj h
        have e2 : pB q j x c0 (r :: rest) = pB q (j + 1) x (pS q j x c0 r) rest := rfl
        rw [e2] at h
        exact (ih (j + 1) _ (by omega) h).back (loc_pS q j x c0 r) fun z => not_ext (by omega) z
    exact g ss (k + 1) _ (by omega) (ag.down (List.prefix_append q [(k : Int)]))
  obtain ⟨new, m, a1, a2, a3, a4, a5, a6, a7, v, a8⟩ := h1.run hx hb hsk wf.1 hd agk hbF prev ticks
  have lq := hx.lq
  have tk2 : TkOk F q (k + 1) (after T s) (pS q k x c s).ord := by
    rw [a1]
    intro t ht
    by_cases hst : ∃ b, s = .start t b
    · obtain ⟨b, rfl⟩ := hst
      obtain ⟨d2, e, b1, b2, b3, b4⟩ := a7 t b rfl
      exact ⟨0, q ++ [(k : Int)], d2, e, .here (by omega) (by omega) hbF (by omega) (Nat.lt_succ_self k) hsk (fun j j1 j2 => by omega), ⟨v, a8⟩, by rw [List.length_append]; show q.length + 1 + 12 ≤ 100; omega, b1, b2, b3, b4⟩
    · have ht' : t ∈ T := by
        cases s with
        | start t' b =>
          rcases List.mem_append.mp ht with z | z
          · exact z
          · rw [List.mem_singleton.mp z] at hst
            exact absurd ⟨b, rfl⟩ hst
        | _ => exact ht
      obtain ⟨h, mm, dd, e, c1, c2, c3, c4, c5, c6, c7⟩ := ticks t ht'
      exact ⟨h, mm, dd, e, c1.next hbF hsk (by omega) (fun b z => hst ⟨b, z⟩), c2, c3, c4, c5, c6, List.mem_append_left _ c7⟩
  obtain ⟨new2, g1, g2, g3⟩ := h2.run hx (hb.next (loc_pS q k x c s)) hs2 (by omega) wf.2 hd ag ⟨[m], ⟨d, m, hd, a3, rfl⟩, Nat.le_refl _, fun y hy => by rw [List.mem_singleton.mp hy, a1]; exact ⟨a4, a5⟩⟩ tk2
  refine ⟨new ++ new2, by rw [g1, a1, List.append_assoc], Good.app a2 (by rw [← a1]; exact g2), fun _ => ?_⟩
  by_cases e : ss = []
  · have ek : x.stms.length - 1 = k := by
      rw [e] at hs2
      have := congrArg List.length hs2
      rw [List.length_drop] at this
      simp at this
      omega
    rw [ek]
    exact ⟨m, a3, a4, by rw [← List.append_assoc]; exact List.mem_append_left _ a5⟩
  · obtain ⟨m2, z1, z2, z3⟩ := g3 e
    exact ⟨m2, z1, z2, by rw [← List.append_assoc, ← a1]; exact z3⟩
mutual
theorem g_pS : ∀ s : Stm, PS s
  | .set _ _ => gPS_plain rfl rfl (fun q k x c => by unfold pS; rfl) fun _ _ z => by cases z
  | .add _ _ _ => gPS_plain rfl rfl (fun q k x c => by unfold pS; rfl) fun _ _ z => by cases z
  | .wait _ => gPS_plain rfl rfl (fun q k x c => by unfold pS; rfl) fun _ _ z => by cases z
  | .cond _ a b => gPS_cond (g_pB a) (g_pB b)
  | .start _ b => gPS_start (g_pB b)
  | .fork bs => gPS_loop rfl (g_pBs bs)
  | .each _ _ b => gPS_loop rfl fun b' hb => by rw [List.mem_singleton.mp hb]; exact g_pB b
  | .fold _ _ _ _ _ => gPS_fold
theorem g_pB : ∀ ss : List Stm, PB ss
  | [] => gPB_nil
  | s :: ss => gPB_cons (g_pS s) (g_pB ss)
theorem g_pBs : ∀ bs : List (List Stm), ∀ b ∈ bs, PB b
  | [], _, h => by cases h
  | b0 :: bs, b, h => by
    rcases List.mem_cons.mp h with e | h
    · rw [e]; exact g_pB b0
    · exact g_pBs bs b h
end
end K11
set_option Elab.async false
set_option linter.all false
set_option maxRecDepth 100000
set_option maxHeartbeats 4000000
namespace K11
open PySem PySem.Spec PyProof.Rows L2
/-! ### the whole run -/
def xo0 (prog : List Stm) : BI := ⟨prog, [], none, none⟩
def cf0 (prog : List Stm) (ws : List (Str × Int)) : Cf := ⟨initU prog ws, []⟩
def fin (prog : List Stm) (ws : List (Str × Int)) : Cf := pB [] 0 (xo0 prog) (cf0 prog ws) prog
theorem xok0 {prog : List Stm} (ok : POk prog) : XOk (xo0 prog) 3 [] [] [] :=
  ⟨(fun y hy => by cases hy), (fun p hp => by cases hp), by show 0 + 3 ≤ 200; decide, ok.2, ok.1, by show 0 + 2 * 3 ≤ 30; decide⟩
theorem bat0 (prog : List Stm) (ws : List (Str × Int)) : BAt (cf0 prog ws).u [] 0 (xo0 prog) := BAt.unf _ _ _
theorem fin_good {prog : List Stm} (ok : POk prog) (ws : List (Str × Int)) : Good (fin prog ws).u [] (fin prog ws).ord := by
  obtain ⟨new, h1, h2, _⟩ := (g_pB prog).run (d := 3) (L := []) (T := []) (T0 := []) (q := []) (k := 0) (x := xo0 prog) (c := cf0 prog ws) (F := (fin prog ws).u) (xok0 ok) (bat0 prog ws) (by rw [List.drop_zero]; rfl) (Nat.zero_le _) ok.2 (by decide) (fun k _ => ⟨rfl, rfl, rfl, rfl⟩)
    ⟨[], rfl, Nat.zero_le _, fun y hy => by cases hy⟩ (fun t ht => by cases ht)
  have e : (fin prog ws).ord = new := h1
  rw [e]
  exact h2
theorem mu_initU (prog : List Stm) (ws : List (Str × Int)) : (cf0 prog ws).mu ≤ ws.length + prog.length + 1 := by
  have h := len_inS ws
  have h2 := sz_unf (⟨inS ws, [], [], [], []⟩ : US) [] (xo0 prog)
  have e : (⟨inS ws, [], [], [], []⟩ : US).sz = (inS ws).length := rfl
  have e2 : (cf0 prog ws).mu = ((⟨inS ws, [], [], [], []⟩ : US).unf [] (xo0 prog)).sz + 0 := rfl
  have e3 : (xo0 prog).stms.length = prog.length := rfl
  omega
theorem mu_fin {prog : List Stm} (ok : POk prog) (ws : List (Str × Int)) : (fin prog ws).mu ≤ ws.length + prog.length + 1 + 6 * KS 3 := by
  have h := mu_pB prog (q := []) (k := 0) (x := xo0 prog) (c := cf0 prog ws) ok.2
  have h2 := mu_initU prog ws
  have h3 := Nat.mul_le_mul_right (KS 3) ok.1
  show (pB _ _ _ _ _).mu ≤ _
  omega
/-! ### how many deeds -/
def KO : Nat → Nat
  | 0 => 15
  | d + 1 => 36 * KO d + 2
theorem KO_15 : ∀ d, 15 ≤ KO d
  | 0 => Nat.le_refl _
  | d + 1 => by show 15 ≤ 36 * KO d + 2; have := KO_15 d; omega
theorem KO_2 {d : Nat} (h : 0 < d) : 36 * KO (d - 1) + 2 = KO d := by
  cases d with
  | zero => omega
  | succ d => rfl
theorem ol_stepC (q : Nm) (k : Nat) (x : BI) (c : Cf) (s : Stm) : (stepC q k x c s).ord.length = c.ord.length + 1 := by
  show (c.ord ++ [_]).length = _
  rw [List.length_append, List.length_singleton]
theorem ol_dn (c : Cf) (n : Nm) (r : Int) : (c.dn n r).ord.length = c.ord.length + 1 := by
  show (c.ord ++ [_]).length = _
  rw [List.length_append, List.length_singleton]
theorem ol_partsC (nm : Nm) (R : Nm → Int) : ∀ (ps : List Nm) (c : Cf), (partsC nm R c ps).ord.length = c.ord.length + ps.length
  | [], c => rfl
  | p :: ps, c => by
    have h1 := ol_partsC nm R ps (c.dn (nm ++ p) (R p))
    have h2 := ol_dn c (nm ++ p) (R p)
    show (partsC nm R (c.dn (nm ++ p) (R p)) ps).ord.length = _
    rw [List.length_cons]
    omega
theorem ol_eachC {f : Nat → Cf → Cf} {K : Nat} (h : ∀ i c, (f i c).ord.length ≤ c.ord.length + K) : ∀ n c, (eachC f n c).ord.length ≤ c.ord.length + n * K
  | 0, c => by rw [Nat.zero_mul]; exact Nat.le_refl _
  | n + 1, c => by
    have h1 := ol_eachC h n c
    have h2 := h n (eachC f n c)
    have e : (n + 1) * K = n * K + K := Nat.succ_mul ..
    show (f n (eachC f n c)).ord.length ≤ _
    omega
theorem ol_keepC (c : Cf) (nm : Nm) (y : Str) (r : Int) : (keepC c nm y r).ord.length = c.ord.length + 1 := by
  show (c.ord ++ [_]).length = _
  rw [List.length_append, List.length_singleton]
mutual
theorem ol_pS : ∀ (s : Stm) {d : Nat} {L T : List Str} {q : Nm} {k : Nat} {x : BI} {c : Cf}, WFS d L T s → (pS q k x c s).ord.length ≤ c.ord.length + KO d
  | .set y e, d, _, _, q, k, x, c, h => by
    have h1 := ol_stepC q k x c (.set y e)
    have h2 := KO_15 d
    show (stepC q k x c (.set y e)).ord.length ≤ _; omega
  | .add y o e, d, _, _, q, k, x, c, h => by
    have h1 := ol_stepC q k x c (.add y o e)
    have h2 := KO_15 d
    show (stepC q k x c (.add y o e)).ord.length ≤ _; omega
  | .wait t, d, _, _, q, k, x, c, h => by
    have h1 := ol_stepC q k x c (.wait t)
    have h2 := KO_15 d
    show (stepC q k x c (.wait t)).ord.length ≤ _; omega
  | .cond e a b, d, L, T, q, k, x, c, h => by
    have h1 := ol_stepC q k x c (.cond e a b)
    have hk := KO_2 h.2.1
    unfold pS
    split
    · have h2 := ol_pB a (q := q ++ [(k : Int)] ++ [0]) (k := 0) (x := ⟨a, x.env, some (q ++ [(k : Int)]), some (q, k)⟩) (c := stepC q k x c (.cond e a b)) h.2.2.2.1
      have h3 : a.length * KO (d - 1) ≤ 6 * KO (d - 1) := Nat.mul_le_mul h.2.2.1 (Nat.le_refl _)
      omega
    · have h2 := ol_pB b (q := q ++ [(k : Int)] ++ [1]) (k := 0) (x := ⟨b, x.env, some (q ++ [(k : Int)]), some (q, k)⟩) (c := stepC q k x c (.cond e a b)) h.2.2.2.2.2
      have h3 : b.length * KO (d - 1) ≤ 6 * KO (d - 1) := Nat.mul_le_mul h.2.2.2.2.1 (Nat.le_refl _)
      omega
  | .start t b, d, L, T, q, k, x, c, h => by
    have h1 := ol_stepC q k x c (.start t b)
    have hk := KO_2 h.2.1
    unfold pS
    have h2 := ol_pB b (q := q ++ [(k : Int)] ++ [0]) (k := 0) (x := ⟨b, x.env, some (q ++ [(k : Int)]), some (q, k)⟩) (c := stepC q k x c (.start t b)) h.2.2.2
    have h3 : b.length * KO (d - 1) ≤ 6 * KO (d - 1) := Nat.mul_le_mul h.2.2.1 (Nat.le_refl _)
    omega
  | .fork bs, d, L, T, q, k, x, c, h => by
    have h1 := ol_stepC q k x c (.fork bs)
    have hk := KO_2 h.1
    unfold pS
    have h2 := ol_pBs bs (nm := q ++ [(k : Int)]) (q := q) (k := k) (env := x.env) (i := 0) (c := stepC q k x c (.fork bs)) h.2.2.2
    have h3 : bs.length * (6 * KO (d - 1)) ≤ 4 * (6 * KO (d - 1)) := Nat.mul_le_mul h.2.2.1 (Nat.le_refl _)
    have h4 := ol_dn (pBs (q ++ [(k : Int)]) q k x.env 0 (stepC q k x c (.fork bs)) bs) (q ++ [(k : Int)] ++ [-1]) 0
    omega
  | .each y e b, d, L, T, q, k, x, c, h => by
    have h1 := ol_stepC q k x c (.each y e b)
    have hk := KO_2 h.2.2.1
    unfold pS
    have h2 := ol_eachC (f := fun i c => pB (q ++ [(k : Int)] ++ [(i : Int)]) 0 ⟨b, aput x.env y (i : Int), some (q ++ [(k : Int)]), some (q, k)⟩ c b) (K := 6 * KO (d - 1)) (fun i c => Nat.le_trans (ol_pB b h.2.2.2.2) (by
      have : b.length * KO (d - 1) ≤ 6 * KO (d - 1) := Nat.mul_le_mul h.2.2.2.1 (Nat.le_refl _)
      omega)) (evE c.u.st x.env e % 7).toNat (stepC q k x c (.each y e b))
    have h3 : (evE c.u.st x.env e % 7).toNat * (6 * KO (d - 1)) ≤ 6 * (6 * KO (d - 1)) := Nat.mul_le_mul (by have := mod7 (evE c.u.st x.env e); omega) (Nat.le_refl _)
    have h4 := ol_dn (eachC (fun i c => pB (q ++ [(k : Int)] ++ [(i : Int)]) 0 ⟨b, aput x.env y (i : Int), some (q ++ [(k : Int)]), some (q, k)⟩ c b) (evE c.u.st x.env e % 7).toNat (stepC q k x c (.each y e b))) (q ++ [(k : Int)] ++ [-1]) 0
    omega
  | .fold y o i e l, d, L, T, q, k, x, c, h => by
    have h1 := ol_stepC q k x c (.fold y o i e l)
    have h15 := KO_15 d
    unfold pS
    have h2 := ol_partsC (q ++ [(k : Int)]) (partR c.u.st x.env o i l) (parts 7 0 (evE c.u.st x.env e % 7).toNat) (stepC q k x c (.fold y o i e l))
    have h3 := len_parts 7 0 (evE c.u.st x.env e % 7).toNat
    have h4 := mod7 (evE c.u.st x.env e)
    have h5 := ol_keepC (partsC (q ++ [(k : Int)]) (partR c.u.st x.env o i l) (stepC q k x c (.fold y o i e l)) (parts 7 0 (evE c.u.st x.env e % 7).toNat)) (q ++ [(k : Int)]) y (if (evE c.u.st x.env e % 7).toNat = 0 then 0 else fv c.u.st x.env o i l 7 0 (evE c.u.st x.env e % 7).toNat)
    omega
theorem ol_pB : ∀ (ss : List Stm) {d : Nat} {L T : List Str} {q : Nm} {k : Nat} {x : BI} {c : Cf}, WFB d L T ss → (pB q k x c ss).ord.length ≤ c.ord.length + ss.length * KO d
  | [], _, _, _, _, _, _, c, _ => by rw [List.length_nil, Nat.zero_mul]; exact Nat.le_refl _
  | s :: ss, d, _, _, q, k, x, c, h => by
    have h1 := ol_pS s (q := q) (k := k) (x := x) (c := c) h.1
    have h2 := ol_pB ss (q := q) (k := k + 1) (x := x) (c := pS q k x c s) h.2
    have e : (ss.length + 1) * KO d = ss.length * KO d + KO d := Nat.succ_mul ..
    unfold pB
    rw [List.length_cons]
    omega
theorem ol_pBs : ∀ (bs : List (List Stm)) {d : Nat} {L T : List Str} {nm q : Nm} {k : Nat} {env : Sto} {i : Nat} {c : Cf}, WFBs d L T bs → (pBs nm q k env i c bs).ord.length ≤ c.ord.length + bs.length * (6 * KO d)
  | [], _, _, _, _, _, _, _, _, c, _ => by rw [List.length_nil, Nat.zero_mul]; exact Nat.le_refl _
  | b :: bs, d, _, _, nm, q, k, env, i, c, h => by
    have h1 := ol_pB b (q := nm ++ [(i : Int)]) (k := 0) (x := ⟨b, env, some nm, some (q, k)⟩) (c := c) h.2.1
    have h0 : b.length * KO d ≤ 6 * KO d := Nat.mul_le_mul h.1 (Nat.le_refl _)
    have h2 := ol_pBs bs (nm := nm) (q := q) (k := k) (env := env) (i := i + 1) (c := pB (nm ++ [(i : Int)]) 0 ⟨b, env, some nm, some (q, k)⟩ c b) h.2.2
    have e : (bs.length + 1) * (6 * KO d) = bs.length * (6 * KO d) + 6 * KO d := Nat.succ_mul ..
    unfold pBs
    rw [List.length_cons]
    omega
end
theorem ol_fin {prog : List Stm} (ok : POk prog) (ws : List (Str × Int)) : 2 * (fin prog ws).ord.length + 5000 < sizeLine := by
  have h := ol_pB prog (q := []) (k := 0) (x := xo0 prog) (c := cf0 prog ws) ok.2
  have h3 := Nat.mul_le_mul_right (KO 3) ok.1
  have h4 : 12 * KO 3 + 5000 < sizeLine := by rw [sizeLine_eq]; decide
  have h5 : (cf0 prog ws).ord.length = 0 := rfl
  show 2 * (pB _ _ _ _ _).ord.length + 5000 < _
  omega
/-- a list without doubles inside another -/
theorem nodup_le {α : Type} [DecidableEq α] : ∀ {a b : List α}, a.Nodup → (∀ y ∈ a, y ∈ b) → a.length ≤ b.length
  | [], _, _, _ => Nat.zero_le _
  | x :: a, b, nd, h => by
    have hx := h x List.mem_cons_self
    have nx := List.nodup_cons.mp nd
    have := nodup_le (a := a) (b := b.erase x) nx.2 fun y hy => (List.mem_erase_of_ne (fun z => nx.1 (by rw [← z]; exact hy))).mpr (h y (List.mem_cons_of_mem _ hy))
    rw [List.length_erase_of_mem hx] at this
    have l0 : 0 < b.length := List.length_pos_of_mem hx
    rw [List.length_cons]
    omega
theorem keysOf_aput {α β : Type} [DecidableEq α] (l : List (α × β)) (k : α) (v : β) : (aput l k v).map (·.1) = if k ∈ l.map (·.1) then l.map (·.1) else l.map (·.1) ++ [k] := by
  unfold aput
  have e : (l.any fun p => decide (p.1 = k)) = true ↔ k ∈ l.map (·.1) := by
    rw [List.any_eq_true, List.mem_map]
    exact ⟨fun ⟨x, h, z⟩ => ⟨x, h, of_decide_eq_true z⟩, fun ⟨x, h, z⟩ => ⟨x, h, decide_eq_true z⟩⟩
  by_cases h : (l.any fun p => decide (p.1 = k)) = true
  · rw [if_pos h, if_pos (e.mp h), List.map_map]
    congr 1
    funext p
    show (if p.1 = k then (p.1, v) else p).1 = p.1
    split <;> rfl
  · rw [if_neg h, if_neg (fun z => h (e.mpr z)), List.map_append]
    rfl
/-- names found, each once -/
structure FB (ord : List Nm) (l : List (Nm × Unit)) : Prop where
  nd : (l.map (·.1)).Nodup
  sub : ∀ y ∈ l.map (·.1), y ∈ ord
theorem FB.nil (ord : List Nm) : FB ord [] := ⟨List.nodup_nil, fun y h => by cases h⟩
theorem FB.len {ord : List Nm} {l : List (Nm × Unit)} (h : FB ord l) : l.length ≤ ord.length := by
  have := nodup_le h.nd h.sub
  rwa [List.length_map] at this
theorem FB.put {ord : List Nm} {l : List (Nm × Unit)} (h : FB ord l) {n : Nm} (hn : n ∈ ord) : FB ord (aput l n ()) := by
  refine ⟨?_, ?_⟩
  · rw [keysOf_aput]
    split
    · exact h.nd
    · rename_i z
      exact List.nodup_append.mpr ⟨h.nd, by simp, fun a ha b hb e => z (by rw [← List.mem_singleton.mp hb, ← e]; exact ha)⟩
  · rw [keysOf_aput]
    split
    · exact h.sub
    · intro y hy
      rcases List.mem_append.mp hy with z | z
      · exact h.sub y z
      · rw [List.mem_singleton.mp z]; exact hn
def mrg (l l2 : List (Nm × Unit)) : List (Nm × Unit) := l2.foldl (fun acc p => aput acc p.1 p.2) l
theorem FB.mrg {ord : List Nm} : ∀ {l2 l : List (Nm × Unit)}, FB ord l → (∀ y ∈ l2.map (·.1), y ∈ ord) → FB ord (mrg l l2)
  | [], _, h, _ => h
  | p :: l2, l, h, h2 => FB.mrg (l2 := l2) (l := aput l p.1 p.2) (h.put (h2 p.1 List.mem_cons_self)) fun y hy => h2 y (List.mem_cons_of_mem _ hy)
theorem AL.mrg {R : Unit → V → Prop} {more : List (List Key × V)} {l2 : List (Nm × Unit)} (h2 : AL kn R more l2) : ∀ {kvs : List (List Key × V)} {l : List (Nm × Unit)}, AL kn R kvs l → AL kn R (mergeT kvs more) (mrg l l2) := by
  unfold AL at h2
  induction h2 with
  | nil => intro kvs l h; exact h
  | @cons p q _ _ r _ ih =>
    intro kvs l h
    have h2 := h.put kn_inj (k := q.1) r.2
    rw [← r.1] at h2
    exact ih h2
/-- what was found before each deed -/
def RB4 (bf : Addr) (H : Hp) (ord : List Nm) (x : List (Nm × Unit)) (v : V) : Prop := ∃ a kvs, v = .ref a ∧ a ≠ bf ∧ H a = some (.dT kvs) ∧ AL kn (fun (_ : Unit) v => v = .bl true) kvs x ∧ FB ord x
theorem Good.at {F : US} : ∀ {l bef : List Nm} {i : Nat} {n : Nm}, Good F bef l → l[i]? = some n → GG F n (bef ++ l.take i)
  | [], _, _, _, _, h => by simp at h
  | m :: l, bef, 0, n, h, e => by
    have : m = n := by simpa using e
    subst this
    rw [List.take_zero, List.append_nil]
    exact h.1
  | m :: l, bef, i + 1, n, h, e => by
    have := Good.at (i := i) h.2 (by simpa using e)
    rw [List.append_assoc] at this
    exact this
end K11
set_option Elab.async false
set_option linter.all false
set_option maxRecDepth 100000
set_option maxHeartbeats 4000000
namespace K11
open PySem PySem.Spec PyProof.Rows L2
/-- an object that is none of an unfolding's own may change -/
theorem UT.put0 {K : PySem.W.Frag} {A : AA} {H : Hp} {u : US} (U1 : UT K A H u) {p : Addr} {o0 o1 : HO} (hp : H p = some o0) (n1 : ∀ vs, o0 ≠ .tup vs) (n2 : ∀ kv, o0 ≠ .dK kv) (n3 : ∀ kv, o0 ≠ .dT kv) (n4 : ∀ C x fs, o0 = .ins C x fs → fs.length < 4) : UT K A (upd H p o1) u := by
  have e : ∀ b o, H b = some o → o ≠ o0 → upd H p o1 b = some o := fun b o h nl => by
    rw [upd_ne]
    · exact h
    · intro z
      subst z
      rw [hp] at h
      exact nl (Option.some.inj h).symm
  have T2 : Tk H (upd H p o1) := fun a vs h => e a _ h fun z => n1 _ z.symm
  have e2 : ∀ b kv, H b = some (.dK kv) → upd H p o1 b = some (.dK kv) := fun b kv h => e b _ h fun z => n2 _ z.symm
  have e3 : ∀ b kv, H b = some (.dT kv) → upd H p o1 b = some (.dT kv) := fun b kv h => e b _ h fun z => n3 _ z.symm
  have rb : ∀ x v, RB (ad K "Block") A.mut H x v → RB (ad K "Block") A.mut (upd H p o1) x v := fun x v ⟨b, bx, sa, ee, vh, va, h0, h1, h2, h3, ⟨kk, h4, h4'⟩, h5, h6⟩ =>
    ⟨b, bx, sa, ee, vh, va, h0, e _ _ h1 (fun z => by have := n4 _ _ _ z.symm; simp at this), h2.mono T2, h3, ⟨kk, e2 _ _ h4, h4'⟩, h5.mono T2, h6.mono T2⟩
  exact ⟨e _ _ U1.ins (fun z => by have := n4 _ _ _ z.symm; simp at this), U1.st.elim fun kk q => ⟨kk, e2 _ _ q.1, q.2⟩, U1.dn.elim fun kk q => ⟨kk, e3 _ _ q.1, q.2⟩, U1.bl.elim fun kk q => ⟨kk, e3 _ _ q.1, q.2.mono rb⟩, U1.kw.elim fun kk q => ⟨kk, e3 _ _ q.1, q.2.mono fun _ _ z => z.mono T2⟩, U1.tm.elim fun kk q => ⟨kk, e3 _ _ q.1, q.2⟩, U1.nd⟩
/-- a serial run that is done -/
structure RE (K : PySem.W.Frag) (A : AA) (S : SA) (bf : Addr) (H : Hp) (c : Cf) : Prop where
  ins : H S.p = some (.ins (ad K "SerialRun") S.dx [("run", .ref A.u), ("order", .ref S.o), ("before", .ref bf)])
  u : UT K A H c.u
  ord : LN H c.ord S.o
theorem RE.same {K : PySem.W.Frag} {A : AA} {S : SA} {bf : Addr} {H H' : Hp} {c : Cf} (h : RE K A S bf H c) (s : Same H H') : RE K A S bf H' c := ⟨s _ _ h.ins, h.u.same s, h.ord.mono (Tk.same s) (s _)⟩
section
variable {P : Program} {w : World} {K : PySem.W.Frag} {mg : Str → Option Value} {base : Heap}
def spSInit : Sp := fun vs H Q _ => ∃ (p dx pa wa : Addr) (prog : List Stm) (ws : List (Str × Int)), vs = [.ref p, .ref pa, .ref wa] ∧ H p = some (.ins (ad K "SerialRun") dx []) ∧ DB H prog pa ∧ POk prog ∧ DW H ws wa ∧ ws.length ≤ 100 ∧ BV (inS ws) ∧
  ∀ H' A S bf, Kp [p] H H' → S.p = p → RE K A S bf H' (fin prog ws) → Q .non H'
theorem sc_SerialRun___init__ : FnScope ["self", "program", "words", "name", "found", "one"] ["self", "program", "words"] (defScope s_SerialRun_init) := ⟨rfl, rfl, rfl, by decide +kernel, rfl, by decide +kernel, by decide +kernel⟩
theorem ok_sinit (T : Txt w K mg) (C_Unfolding : C8.Mak P w K mg base 3 "Unfolding" (ad K "Unfolding") (spUInit (K := K)) []) (C_do_block : C8.Met P w K mg base 21 (ad K "SerialRun") "do_block" (spSBlk (K := K) 4) []) (C_ahead : C8.Met P w K mg base 15 (ad K "Unfolding") "ahead" (spAhead (K := K)) []) : C8.Mak P w K mg base 22 "SerialRun" (ad K "SerialRun") (spSInit (K := K)) [] := by
  refine T.f_SerialRun_init.mak T.g_SerialRun sc_SerialRun___init__ (fun vs H Q E h => by obtain ⟨_, _, _, _, _, _, rfl, _⟩ := h; rfl) fun f cdv AR outer s H vs Q E hr h => ?_
  obtain ⟨p, dx, pa, wa, prog, ws, rfl, hp, hprog, ok, hw, lw, hbv, k0⟩ := h
  refine ⟨_, (pss_cons (ps_fld (pv 0) (C8.pe_mk C_Unfolding hr (by omega) rfl (pa_cons (pv 1) (pa_cons (pv 2) pa_nil))) rfl) 
    (pss_cons (ps_fld (pv 0) (pe_lst pa_nil) rfl) 
    (pss_cons (ps_expr (C8.pe_mt C_do_block hr (by omega) (pv 0) (pa_cons (pe_tup pa_nil) pa_nil))) 
    (pss_cons (ps_fld (pv 0) pe_dnewT rfl) 
    (pss_one (ps_for PassesOwn.never rfl (pi_list (kfld K rfl (pv 0) rfl)) (pg_name (i := 3) sc_SerialRun___init__.nd rfl (Or.inl rfl)) 
      (pss_cons (ps_set (i := 4) sc_SerialRun___init__.nd rfl (Or.inl rfl) pe_dnewT) 
      (pss_cons (ps_for PassesOwn.never rfl (pi_list (C8.pe_mt C_ahead hr (by omega) (kfld K rfl (pv 0) rfl) (pa_cons (pv 3) pa_nil))) (pg_name (i := 5) sc_SerialRun___init__.nd rfl (Or.inl rfl)) 
        (pss_cons (ps_dput (hu_of hr) (pv 4) (pv 5) pe_bl rfl) 
        (pss_one (ps_expr (pe_bm PySem.F.plainAttrs_dict PySem.F.slot_dict_update PySem.F.type_dict_update (mt_updT (hu_of hr)) (pv 4) (pa_cons (pe_dget (hu_of hr) (kfld K rfl (pv 0) rfl) (pv 5) (fun _ _ => rfl)) pa_nil)))))) 
      (pss_one (ps_dput (hu_of hr) (kfld K rfl (pv 0) rfl) (pv 3) (pv 4) rfl)))))))))), ?_⟩
  refine ⟨_, rfl, _, rfl, fun x dx2 hx hdx nx => ?_⟩
  have sx : Same H (upd H dx2 (.own x)) := same_new hdx _
  have hx1 : upd H dx2 (.own x) x = none := by rw [upd_ne (Ne.symm nx)]; exact hx
  have sx2 := sx.trans (same_new hx1 (.ins (ad K "Unfolding") dx2 []))
  have hxx : upd (upd H dx2 (.own x)) x (.ins (ad K "Unfolding") dx2 []) x = some (.ins (ad K "Unfolding") dx2 []) := upd_same
  generalize upd (upd H dx2 (.own x)) x (.ins (ad K "Unfolding") dx2 []) = H0 at sx2 hxx
  refine ⟨x, dx2, pa, wa, prog, ws, rfl, hxx, hprog.mono (Tk.same sx2), Nat.le_trans ok.1 (by decide), hw.mono (Tk.same sx2), lw, fun H1 A k1 eA fresh U1 => ⟨rfl, ?_⟩⟩
  subst eA
  have npu : p ≠ A.u := fun z => by rw [z] at hp; rw [hp] at hx; cases hx
  have hp1 : H1 p = some (.ins (ad K "SerialRun") dx []) := k1 _ _ (sx2 _ _ hp) (by rw [List.mem_singleton]; exact npu)
  have k01 : Kp [p] H H1 := fun b o e n => k1 _ _ (sx2 _ _ e) (by rw [List.mem_singleton]; intro z; rw [z, hx] at e; cases e)
  refine ⟨_, rfl, p, _, dx, _, rfl, hp1, T.c_SerialRun, T.n_SerialRun_run, (by show 0 < 1000; decide), ?_⟩
  generalize e2 : upd H1 p (.ins (ad K "SerialRun") dx (putF "run" (.ref A.u) [])) = H2
  have hp2 : H2 p = some (.ins (ad K "SerialRun") dx [("run", .ref A.u)]) := by rw [← e2]; exact upd_same
  have U2 : UT K A H2 (cf0 prog ws).u := by
    rw [← e2]
    exact U1.put0 hp1 (fun _ z => by cases z) (fun _ z => by cases z) (fun _ z => by cases z) fun _ _ _ z => by cases z; simp
  have k2 : Kp [p] H H2 := by rw [← e2]; exact k01.trans (Kp.upd (by simp))
  refine ⟨Nat.zero_le _, fun o ho => ⟨_, rfl, p, _, dx, _, rfl, same_new ho _ _ _ hp2, T.c_SerialRun, T.n_SerialRun_order, (by show 1 < 1000; decide), ?_⟩⟩
  have no : o ≠ p := fun z => by rw [z, hp2] at ho; cases ho
  have so := same_new ho (.lst [])
  generalize e3 : upd (upd H2 o (.lst [])) p (.ins (ad K "SerialRun") dx (putF "order" (.ref o) [("run", .ref A.u)])) = H3
  have hp3 : H3 p = some (.ins (ad K "SerialRun") dx [("run", .ref A.u), ("order", .ref o)]) := by rw [← e3]; exact upd_same
  have ho3 : H3 o = some (.lst []) := by rw [← e3, upd_ne no]; exact upd_same
  have U3 : UT K A H3 (cf0 prog ws).u := by
    rw [← e3]
    exact UT.put0 (U2.same so) (so _ _ hp2) (fun _ z => by cases z) (fun _ z => by cases z) (fun _ z => by cases z) fun _ _ _ z => by cases z; simp
  have k3 : Kp [p] H H3 := by rw [← e3]; exact k2.trans ((Kp.same so).trans (Kp.upd (by simp)))
  have fo : H o = none := by
    cases e : H o with
    | none => rfl
    | some ob => rw [k2 _ _ e (by rw [List.mem_singleton]; exact no)] at ho; cases ho
  clear e2 e3
  let S : SA := ⟨p, dx, o⟩
  have R3 : RAt K A S H3 (cf0 prog ws) := ⟨hp3, U3, [], ho3, .nil⟩
  have eS : S.p = p := rfl
  have eO : S.o = o := rfl
  have muF := mu_fin ok ws
  have mu0 := mu_initU prog ws
  have KB := KB3
  have KB2 := ol_fin ok ws
  have le6 := ok.1
  have le6K := Nat.mul_le_mul_right (KS 3) ok.1
  refine ⟨_, rfl, p, dx, _, rfl, hp3, rfl, le_line (by show 0 ≤ 1000; decide), fun t ht => ?_⟩
  have st := same_new ht (.tup [])
  refine ⟨A, S, cf0 prog ws, [], t, xo0 prog, 3, [], [], rfl, R3.same st, upd_same, bat0 prog ws, xok0 ok, hbv, by decide, (by show (cf0 prog ws).mu + prog.length * KS 3 + 5000 < sizeLine; omega), fun H4 k4 R4 => ?_⟩
  have F4 : RAt K A S H4 (fin prog ws) := R4
  have kk4 : Kp [p] H H4 := fun b ob e n => by
    refine k4 _ _ (st _ _ (k3 _ _ e n)) fun z => ?_
    rcases List.mem_cons.mp z with z | z
    · rw [z, eO, fo] at e; cases e
    · have := fresh b z
      rw [sx2 _ _ e] at this
      cases this
  clear_value S
  subst eS
  generalize hF : fin prog ws = F at F4 muF KB2
  intro bf hbf
  have sbf := same_new hbf (.dT [])
  refine ⟨_, rfl, S.p, _, S.dx, _, rfl, sbf _ _ F4.ins, T.c_SerialRun, T.n_SerialRun_before, (by show 2 < 1000; decide), ?_⟩
  have nbf : bf ≠ S.p := fun z => by rw [z, F4.ins] at hbf; cases hbf
  generalize e5 : upd (upd H4 bf (.dT [])) S.p (.ins (ad K "SerialRun") S.dx (putF "before" (.ref bf) [("run", .ref A.u), ("order", .ref S.o)])) = H5
  have hp5 : H5 S.p = some (.ins (ad K "SerialRun") S.dx [("run", .ref A.u), ("order", .ref S.o), ("before", .ref bf)]) := by rw [← e5]; exact upd_same
  have hb5 : H5 bf = some (.dT []) := by rw [← e5, upd_ne nbf]; exact upd_same
  have R5 : RE K A S bf H5 F := by
    refine ⟨hp5, ?_, ?_⟩
    · rw [← e5]
      exact UT.put0 (F4.u.same sbf) (sbf _ _ F4.ins) (fun _ z => by cases z) (fun _ z => by cases z) (fun _ z => by cases z) fun _ _ _ z => by cases z; simp
    · rw [← e5]
      obtain ⟨vs, a1, a2⟩ := F4.ord
      have nSO : S.o ≠ S.p := fun z => by rw [z, F4.ins] at a1; cases a1
      refine ⟨vs, by rw [upd_ne nSO]; exact sbf _ _ a1, a2.mono ((Tk.same sbf).trans (tk_upd fun vs e => by rw [sbf _ _ F4.ins] at e; cases e))⟩
  have k5 : Kp [S.p] H H5 := by rw [← e5]; exact kk4.trans ((Kp.same sbf).trans (Kp.upd (by simp)))
  have fbf : H bf = none := by
    cases e : H bf with
    | none => rfl
    | some ob => rw [kk4 _ _ e (by rw [List.mem_singleton]; exact nbf)] at hbf; cases hbf
  -- what does not change in the loop
  clear e5
  have good : Good F.u [] F.ord := by rw [← hF]; exact fin_good ok ws
  obtain ⟨ovs, ho5, onv⟩ := R5.ord
  have olen := onv.len
  have ordsz : F.ord.length ≤ F.mu := Nat.le_add_left _ _
  -- a dict of its own goes on beside the run
  have stay : ∀ {G : Hp} {a : Addr} {kv kv2 : List (List Key × V)}, RE K A S bf G F → a ∉ A.mut → G a = some (.dT kv) → RE K A S bf (upd G a (.dT kv2)) F := fun {G a kv kv2} r na ha => by
    have nu : ∀ b o, G b = some o → (∀ q, o ≠ .dT q) → upd G a (.dT kv2) b = some o := fun b o h n => by
      rw [upd_ne]
      · exact h
      · intro z; rw [z, ha] at h; cases h; exact n _ rfl
    have T2 : Tk G (upd G a (.dT kv2)) := fun b vs h => nu b _ h fun q z => by cases z
    have nm : ∀ b ∈ A.mut, upd G a (.dT kv2) b = G b := fun b hb => upd_ne fun z => na (by rw [← z]; exact hb)
    have rb : ∀ x v, RB (ad K "Block") A.mut G x v → RB (ad K "Block") A.mut (upd G a (.dT kv2)) x v := fun x v ⟨b, bx, sa, ee, vh, va, h0, h1, h2, h3, ⟨kk, h4, h4'⟩, h5, h6⟩ =>
      ⟨b, bx, sa, ee, vh, va, h0, nu _ _ h1 (fun q z => by cases z), h2.mono T2, h3, ⟨kk, nu _ _ h4 (fun q z => by cases z), h4'⟩, h5.mono T2, h6.mono T2⟩
    refine ⟨nu _ _ r.ins (fun q z => by cases z), ⟨nu _ _ r.u.ins (fun q z => by cases z), ?_, ?_, ?_, ?_, ?_, r.u.nd⟩, r.ord.mono T2 fun o h => ?_⟩
    · exact r.u.st.elim fun kk q => ⟨kk, (nm _ (by simp [AA.mut])).trans q.1, q.2⟩
    · exact r.u.dn.elim fun kk q => ⟨kk, (nm _ (by simp [AA.mut])).trans q.1, q.2⟩
    · exact r.u.bl.elim fun kk q => ⟨kk, (nm _ (by simp [AA.mut])).trans q.1, q.2.mono rb⟩
    · exact r.u.kw.elim fun kk q => ⟨kk, (nm _ (by simp [AA.mut])).trans q.1, q.2.mono fun _ _ z => z.mono T2⟩
    · exact r.u.tm.elim fun kk q => ⟨kk, (nm _ (by simp [AA.mut])).trans q.1, q.2⟩
    · obtain ⟨vs, a1, _⟩ := r.ord
      refine nu _ _ h fun q z => ?_
      rw [a1, z] at h
      cases h
  have nA : bf ∉ A.mut := F4.u.dd.none hbf
  refine ⟨_, rfl, _, _, _, _, _, rfl, R5.ins, T.c_SerialRun, T.n_SerialRun_order, rfl, S.o, rfl, ⟨_, SqL.of ho5⟩, for_list (xs := ovs) (fun i σ G => (∃ c3 c4 c5, σ = [some (.ref S.p), some (.ref pa), some (.ref wa), c3, c4, c5]) ∧ Kp [bf] H5 G ∧ RE K A S bf G F ∧ ∃ kvb bl, G bf = some (.dT kvb) ∧ AL kn (RB4 bf G F.ord) kvb bl ∧ (∀ y ∈ F.ord.take i, ∃ x, alook bl y = some x) ∧ bl.length ≤ i)
    ⟨⟨_, _, _, rfl⟩, Kp.refl _ _, R5, [], [], hb5, .nil, (fun y hy => by rw [List.take_zero] at hy; cases hy), Nat.le_refl _⟩ (fun i σ G _ h => SqL.of (h.2.1 _ _ ho5 (by rw [List.mem_singleton]; intro z; rw [z, hb5] at ho5; cases ho5))) (fun i v σ G hx h => ?_) fun σ G h => ?_⟩
  · obtain ⟨⟨c3, c4, c5, rfl⟩, KG, RG, kvb, bl, hbG, alb, cov, lenb⟩ := h
    obtain ⟨n, na, hn, rfl, hna⟩ := onv.get hx
    have hi : i < ovs.length := (List.getElem?_eq_some_iff.mp hx).1
    have TG : Tk H5 G := fun a vs e => KG _ _ e (by rw [List.mem_singleton]; intro z; rw [z, hb5] at e; cases e)
    have hnG := hna.mono TG
    obtain ⟨⟨xs, gp, few, inb⟩, gl, gf⟩ := good.at hn
    rw [List.nil_append] at inb
    intro fd hfd
    have sfd := same_new hfd (.dT [])
    have hfd1 : upd G fd (.dT []) fd = some (.dT []) := upd_same
    have R1 := RG.same sfd
    generalize upd G fd (.dT []) = G1 at sfd hfd1 R1
    refine ⟨_, rfl, _, _, _, _, _, rfl, R1.ins, T.c_SerialRun, T.n_SerialRun_run, rfl, A.u, _, _, rfl, R1.u.ins, rfl, _, rfl, A, F.u, n, na, xs, rfl, R1.u, hnG.mono (Tk.same sfd), gl, gf, gp, few, (fun x hx => (inb x hx).1), fun G2 la ys s2 lys sub ly => ?_⟩
    obtain ⟨yvs, hyv, ynv⟩ := lys
    have R2 := R1.same s2
    have hfd2 := s2 _ _ hfd1
    have nfA : fd ∉ A.mut := RG.u.dd.none hfd
    have hbG2 := s2 _ _ (sfd _ _ hbG)
    have nfb : fd ≠ bf := fun z => by rw [z, hbG] at hfd; cases hfd
    have alb2 : AL kn (fun x v => ∃ a kvs, v = .ref a ∧ a ≠ fd ∧ a ≠ bf ∧ G2 a = some (.dT kvs) ∧ AL kn (fun (_ : Unit) v => v = .bl true) kvs x ∧ FB F.ord x) kvb bl := alb.mono fun x v ⟨a, kvs, e1, e2, e3, e4, e5⟩ => ⟨a, kvs, e1, fun z => (by rw [z, hfd] at e3; cases e3), e2, s2 _ _ (sfd _ _ e3), e4, e5⟩
    refine ⟨la, rfl, ⟨_, SqL.of hyv⟩, for_list (xs := yvs) (fun j σ G' => (∃ c5, σ = [some (.ref S.p), some (.ref pa), some (.ref wa), some (.ref na), some (.ref fd), c5]) ∧ Kp [fd] G2 G' ∧ RE K A S bf G' F ∧ ∃ kvf fl, G' fd = some (.dT kvf) ∧ AL kn (fun (_ : Unit) v => v = .bl true) kvf fl ∧ FB F.ord fl)
      ⟨⟨_, rfl⟩, Kp.refl _ _, R2, [], [], hfd2, .nil, FB.nil _⟩ (fun j σ G' _ h => SqL.of (h.2.1 _ _ hyv (by rw [List.mem_singleton]; intro z; rw [z, hfd2] at hyv; cases hyv))) (fun j v σ G' hx2 h => ?_) fun σ G' h => ?_⟩
    · obtain ⟨⟨c5, rfl⟩, K3, R3', kvf, fl, hfG, alf, fbf2⟩ := h
      obtain ⟨y, ya, hy, rfl, hya⟩ := ynv.get hx2
      have T3 : Tk G2 G' := fun a vs e => K3 _ _ e (by rw [List.mem_singleton]; intro z; rw [z, hfd2] at e; cases e)
      have hy3 := hya.mono T3
      have yin := (inb y (sub y (List.mem_of_getElem? hy))).2
      have yord : y ∈ F.ord := List.mem_of_mem_take yin
      have lf := fbf2.len
      refine ⟨_, rfl, _, rfl, _, _, rfl, dput_t hfG hy3 (by rw [alf.len]; omega), ?_⟩
      have R4' := stay (kv2 := putK kvf (kn y) (.bl true)) R3' nfA hfG
      have alf4 := alf.put kn_inj (k := y) (x := ()) (v := .bl true) rfl
      have fb4 := fbf2.put yord
      have hf4 : upd G' fd (.dT (putK kvf (kn y) (.bl true))) fd = some (.dT (putK kvf (kn y) (.bl true))) := upd_same
      have K4 : Kp [fd] G2 (upd G' fd (.dT (putK kvf (kn y) (.bl true)))) := K3.trans (Kp.upd (by simp))
      have T4 : Tk G' (upd G' fd (.dT (putK kvf (kn y) (.bl true)))) := tk_upd fun vs e => by rw [hfG] at e; cases e
      have hy4 := hy3.mono T4
      generalize upd G' fd (.dT (putK kvf (kn y) (.bl true))) = G4 at R4' hf4 K4 hy4
      obtain ⟨x, hx4⟩ := cov y yin
      obtain ⟨v, hv, a, kvs, rfl, a1, a2, a3, a4, a5⟩ := alb2.look kn_inj y hx4
      have ha4 := K4 _ _ a3 (by rw [List.mem_singleton]; exact a1)
      have hb4 := K4 _ _ hbG2 (by rw [List.mem_singleton]; exact Ne.symm nfb)
      have l1 := fb4.len
      have l2 := a5.len
      have fb5 := fb4.mrg (l2 := x) a5.sub
      refine ⟨_, rfl, .inr (.inr (.inl ⟨rfl, .inr ⟨_, hf4⟩⟩)), _, rfl, _, _, _, _, _, rfl, R4'.ins, T.c_SerialRun, T.n_SerialRun_before, rfl, _, rfl, _, _, rfl, dget_t hb4 hy4 hv, fd, a, _, kvs, rfl, rfl, Ne.symm a1, hf4, .inl ha4, ?_, by rw [alf4.len, a4.len]; omega, ⟨⟨_, rfl⟩, K4.trans (Kp.upd (by simp)), stay R4' nfA hf4, _, _, upd_same, AL.mrg a4 alf4, fb5⟩⟩
      intro z
      have := alf4.len
      rw [z] at this
      have e := keysOf_aput fl y ()
      have e2 : (aput fl y ()).length = 0 := by rw [← this]; rfl
      rw [List.length_eq_zero_iff.mp e2] at e
      split at e
      · rename_i q
        rw [← e] at q
        cases q
      · exact absurd (congrArg List.length e) (by simp)
    · obtain ⟨⟨c5, rfl⟩, K3, R3', kvf, fl, hfG, alf, fbf2⟩ := h
      have T3 : Tk G2 G' := fun a vs e => K3 _ _ e (by rw [List.mem_singleton]; intro z; rw [z, hfd2] at e; cases e)
      have hb4 := K3 _ _ hbG2 (by rw [List.mem_singleton]; exact Ne.symm nfb)
      have hn4 := ((hnG.mono (Tk.same sfd)).mono (Tk.same s2)).mono T3
      refine ⟨_, rfl, _, rfl, _, _, _, _, _, rfl, R3'.ins, T.c_SerialRun, T.n_SerialRun_before, rfl, _, rfl, _, _, rfl, dput_t hb4 hn4 (by rw [alb.len]; omega), ?_⟩
      have R4' := stay (kv2 := putK kvb (kn n) (.ref fd)) R3' nA hb4
      have et : F.ord.take (i + 1) = F.ord.take i ++ [n] := by rw [List.take_succ, hn]; rfl
      have la2 := len_aput bl n fl
      have kp : Kp [bf] H5 (upd G' bf (.dT (putK kvb (kn n) (.ref fd)))) := by
        refine KG.trans ?_
        intro b ob e nb
        have nb2 : b ≠ fd := fun z => by rw [z, hfd] at e; cases e
        rw [upd_ne (fun z => nb (by rw [z]; simp))]
        exact K3 _ _ (s2 _ _ (sfd _ _ e)) (by rw [List.mem_singleton]; exact nb2)
      have alb3 : AL kn (RB4 bf (upd G' bf (.dT (putK kvb (kn n) (.ref fd)))) F.ord) kvb bl := alb2.mono fun x v ⟨a, kvs, e1, e2, e3, e4, e5, e6⟩ => ⟨a, kvs, e1, e3, (by rw [upd_ne e3]; exact K3 _ _ e4 (by rw [List.mem_singleton]; exact e2)), e5, e6⟩
      have new : RB4 bf (upd G' bf (.dT (putK kvb (kn n) (.ref fd)))) F.ord fl (.ref fd) := ⟨fd, kvf, rfl, nfb, (by rw [upd_ne nfb]; exact hfG), alf, fbf2⟩
      refine ⟨⟨_, _, _, rfl⟩, kp, R4', _, aput bl n fl, upd_same, AL.put kn_inj alb3 new, ?_, by omega⟩
      intro y hy
      rw [et] at hy
      rw [alook_aput]
      split
      · exact ⟨_, rfl⟩
      · rcases List.mem_append.mp hy with z | z
        · exact cov y z
        · rename_i q
          exact absurd (List.mem_singleton.mp z).symm q
  · obtain ⟨⟨c3, c4, c5, rfl⟩, KG, RG, _⟩ := h
    refine k0 _ A S bf ?_ rfl (by rw [hF]; exact RG)
    intro b ob e nb
    exact KG _ _ (k5 _ _ e nb) (by rw [List.mem_singleton]; intro z; rw [z, fbf] at e; cases e)
end
end K11
set_option Elab.async false
set_option linter.all false
set_option maxRecDepth 100000
set_option maxHeartbeats 4000000
namespace K11
open PySem PySem.Spec PyProof.Rows L2
theorem eqvAll_ints : ∀ m n : List Int, PyData.eqvAll (m.map .int) (n.map .int) = decide (m = n)
  | [], [] => by simp [PyData.eqvAll]
  | [], _ :: _ => by simp [PyData.eqvAll]
  | _ :: _, [] => by simp [PyData.eqvAll]
  | a :: m, b :: n => by
    rw [List.map_cons, List.map_cons, PyData.eqvAll, eqvAll_ints m n, PyData.eqv]
    by_cases e : a = b <;> by_cases e2 : m = n <;> simp [e, e2]
theorem eqv_name (m n : Nm) : PyData.eqv (dN m) (dN n) = decide (m = n) := by
  show PyData.eqv (.tuple _) (.tuple _) = _
  rw [PyData.eqv, eqvAll_ints]
theorem any_name (ns : List Nm) (n : Nm) : ((ns.map dN).any fun z => PyData.eqv z (dN n)) = decide (n ∈ ns) := by
  rw [Bool.eq_iff_iff, List.any_eq_true, decide_eq_true_iff]
  constructor
  · rintro ⟨z, hz, e⟩
    obtain ⟨m, hm, rfl⟩ := List.mem_map.mp hz
    rw [eqv_name] at e
    rw [← of_decide_eq_true e]
    exact hm
  · intro h
    exact ⟨dN n, List.mem_map.mpr ⟨n, h, rfl⟩, by rw [eqv_name]; exact decide_eq_true rfl⟩
theorem bv_inS {ws : List (Str × Int)} (h : WordsOk ws) : BV (inS ws) := by
  have g : ∀ (ws : List (Str × Int)) (st : Sto), (∀ p ∈ ws, 0 ≤ p.2 ∧ p.2 < 1000003) → BV st → BV (ws.foldl (fun st p => aput st p.1 p.2) st) := by
    intro ws
    induction ws with
    | nil => intro st _ h; exact h
    | cons p ws ih =>
      intro st h1 h2
      exact ih _ (fun q hq => h1 q (List.mem_cons_of_mem _ hq)) (AllV.put h2 (h1 p List.mem_cons_self))
  refine g ws [] (fun p hp => ?_) (fun p hp => by cases hp)
  have := h.pr p hp
  exact ⟨by have := this.lo; omega, this.hi⟩
section
variable {P : Program} {w : World} {K : PySem.W.Frag} {mg : Str → Option Value} {base : Heap}
def spSRun : Sp := fun vs H Q _ => ∃ (pa wa : Addr) (prog : List Stm) (ws : List (Str × Int)), vs = [.ref pa, .ref wa] ∧ DB H prog pa ∧ POk prog ∧ DW H ws wa ∧ WordsOk ws ∧ ws.length ≤ 100 ∧
  ∀ H' A S bf, Same H H' → RE K A S bf H' (fin prog ws) → Q (.ref S.p) H'
theorem sc_serial_run : FnScope ["program", "words"] ["program", "words"] (defScope s_serial_run) := ⟨rfl, rfl, rfl, by decide +kernel, rfl, by decide +kernel, by decide +kernel⟩
theorem ok_serial_run (T : Txt w K mg) (C_need_program : C8.Cal P w K mg base 16 "need_program" spNeedProgram []) (C_need_words : C8.Cal P w K mg base 5 "need_words" spNeedWords []) (C_SerialRun : C8.Mak P w K mg base 22 "SerialRun" (ad K "SerialRun") (spSInit (K := K)) []) : C8.Cal P w K mg base 24 "serial_run" (spSRun (K := K)) [] := by
  refine T.f_serial_run.cal sc_serial_run (fun vs H Q E h => by obtain ⟨_, _, _, _, rfl, _⟩ := h; rfl) fun f cdv AR outer s H vs Q E hr h => ?_
  obtain ⟨pa, wa, prog, ws, rfl, hprog, ok, hw, wok, lw, k0⟩ := h
  refine ⟨_, (pss_cons (ps_expr (C8.pe_c C_need_program hr (by omega) rfl (pa_cons (pv 0) pa_nil))) 
    (pss_cons (ps_expr (C8.pe_c C_need_words hr (by omega) rfl (pa_cons (pv 1) pa_nil))) 
    (pss_one (ps_ret (C8.pe_mk C_SerialRun hr (by omega) rfl (pa_cons (pv 0) (pa_cons (pv 1) pa_nil))))))), ?_⟩
  refine ⟨_, rfl, pa, prog, rfl, hprog, ok, fun H1 s1 => ⟨_, rfl, wa, ws, rfl, hw.mono (Tk.same s1), wok, fun H2 s2 => ?_⟩⟩
  have s12 := s1.trans s2
  refine ⟨_, rfl, _, rfl, fun x dx hx hdx nx => ?_⟩
  have sx : Same H2 (upd H2 dx (.own x)) := same_new hdx _
  have hx1 : upd H2 dx (.own x) x = none := by rw [upd_ne (Ne.symm nx)]; exact hx
  have sx2 := sx.trans (same_new hx1 (.ins (ad K "SerialRun") dx []))
  have hxx : upd (upd H2 dx (.own x)) x (.ins (ad K "SerialRun") dx []) x = some (.ins (ad K "SerialRun") dx []) := upd_same
  generalize upd (upd H2 dx (.own x)) x (.ins (ad K "SerialRun") dx []) = H0 at sx2 hxx
  have s0 := s12.trans sx2
  refine ⟨x, dx, pa, wa, prog, ws, rfl, hxx, hprog.mono (Tk.same s0), ok, hw.mono (Tk.same s0), lw, bv_inS wok, fun H3 A S bf k3 e r => ⟨rfl, ?_⟩⟩
  subst e
  exact k0 _ A S bf (fun b o e => k3 _ _ (s0 _ _ e) (by rw [List.mem_singleton]; intro z; rw [z] at e; rw [s12 _ _ e] at hx; cases hx)) r
def spDeeds : Sp := fun vs H Q _ => ∃ (pa wa : Addr) (prog : List Stm) (ws : List (Str × Int)), vs = [.ref pa, .ref wa] ∧ DB H prog pa ∧ POk prog ∧ DW H ws wa ∧ WordsOk ws ∧ ws.length ≤ 100 ∧
  ∀ H' a xs, Same H H' → H' a = some (.tup xs) → NMs H' (fin prog ws).ord xs → Q (.ref a) H'
theorem sc_serial_deeds : FnScope ["program", "words"] ["program", "words"] (defScope s_serial_deeds) := ⟨rfl, rfl, rfl, by decide +kernel, rfl, by decide +kernel, by decide +kernel⟩
theorem ok_serial_deeds (T : Txt w K mg) (C_serial_run : C8.Cal P w K mg base 24 "serial_run" (spSRun (K := K)) []) : C8.Cal P w K mg base 25 "serial_deeds" spDeeds [] := by
  refine T.f_serial_deeds.cal sc_serial_deeds (fun vs H Q E h => by obtain ⟨_, _, _, _, rfl, _⟩ := h; rfl) fun f cdv AR outer s H vs Q E hr h => ?_
  obtain ⟨pa, wa, prog, ws, rfl, hprog, ok, hw, wok, lw, k0⟩ := h
  refine ⟨_, (pss_one (ps_ret (pe_callTy (ktuple_of K rfl) (by rfl) T.z_tuple (by decide +kernel) (pa_cons (kfld K rfl (C8.pe_c C_serial_run hr (by omega) rfl (pa_cons (pv 0) (pa_cons (pv 1) pa_nil))) rfl) pa_nil)))), ?_⟩
  refine ⟨_, rfl, _, rfl, pa, wa, prog, ws, rfl, hprog, ok, hw, wok, lw, fun H1 A S bf s1 r => ?_⟩
  obtain ⟨vs, ho, nv⟩ := r.ord
  refine ⟨_, _, _, _, _, rfl, r.ins, T.c_SerialRun, T.n_SerialRun_order, rfl, S.o, vs, rfl, .inl ⟨SqL.of ho, fun l hl => ?_⟩⟩
  have s2 := same_new hl (.tup vs)
  exact k0 _ l vs (s1.trans s2) upd_same (nv.mono (Tk.same s2))
def spEnd : Sp := fun vs H Q _ => ∃ (pa wa : Addr) (prog : List Stm) (ws : List (Str × Int)), vs = [.ref pa, .ref wa] ∧ DB H prog pa ∧ POk prog ∧ DW H ws wa ∧ WordsOk ws ∧ ws.length ≤ 100 ∧
  ∀ H' a, Same H H' → DW H' (wordsOf (fin prog ws).u.st) a → Q (.ref a) H'
theorem sc_serial_end : FnScope ["program", "words"] ["program", "words"] (defScope s_serial_end) := ⟨rfl, rfl, rfl, by decide +kernel, rfl, by decide +kernel, by decide +kernel⟩
theorem len_serial_end : ∀ vs H Q E, spEnd vs H Q E → vs.length = ["program", "words"].length := fun vs H Q E h => by obtain ⟨_, _, _, _, rfl, _⟩ := h; rfl
theorem owes_serial_end (T : Txt w K mg) (C_serial_run : C8.Cal P w K mg base 24 "serial_run" (spSRun (K := K)) []) (C_words : C8.Met P w K mg base 1 (ad K "Unfolding") "words" (spUWords (K := K)) []) : Owes0 P w K mg base 24 ["program", "words"] "serial_end" s_serial_end spEnd := by
  intro f cdv AR outer s H vs Q E hr h
  obtain ⟨pa, wa, prog, ws, rfl, hprog, ok, hw, wok, lw, k0⟩ := h
  refine ⟨_, (pss_one (ps_ret (C8.pe_mt0 C_words hr (by omega) (kfld K rfl (C8.pe_c C_serial_run hr (by omega) rfl (pa_cons (pv 0) (pa_cons (pv 1) pa_nil))) rfl)))), ?_⟩
  refine ⟨_, rfl, _, rfl, pa, wa, prog, ws, rfl, hprog, ok, hw, wok, lw, fun H1 A S bf s1 r => ?_⟩
  have mu := mu_fin ok ws
  have KB := KB3
  have le6 := ok.1
  have hz : (fin prog ws).u.st.length ≤ (fin prog ws).mu := by unfold Cf.mu US.sz; omega
  exact ⟨_, _, _, _, _, rfl, r.ins, T.c_SerialRun, T.n_SerialRun_run, rfl, _, _, _, rfl, r.u.ins, rfl, A, (fin prog ws).u, rfl, r.u, by omega, fun H2 a s2 dw => k0 _ a (s1.trans s2) dw⟩
theorem ok_serial_end (T : Txt w K mg) (C_serial_run : C8.Cal P w K mg base 24 "serial_run" (spSRun (K := K)) []) (C_words : C8.Met P w K mg base 1 (ad K "Unfolding") "words" (spUWords (K := K)) []) : C8.Cal P w K mg base 25 "serial_end" spEnd [] :=
  T.f_serial_end.cal sc_serial_end len_serial_end (owes_serial_end T C_serial_run C_words)
def spRunWith : Sp := fun vs H Q _ => ∃ (pa wa na : Addr) (prog : List Stm) (ws : List (Str × Int)) (n : Nm), vs = [.ref pa, .ref wa, .ref na] ∧ DB H prog pa ∧ POk prog ∧ DW H ws wa ∧ WordsOk ws ∧ ws.length ≤ 100 ∧ NM H n na ∧ n ∈ (fin prog ws).ord ∧
  ∀ H' A S bf, Same H H' → RE K A S bf H' (fin prog ws) → Q (.ref S.p) H'
theorem sc_run_with : FnScope ["program", "words", "deed", "serial"] ["program", "words", "deed"] (defScope s_run_with) := ⟨rfl, rfl, rfl, by decide +kernel, rfl, by decide +kernel, by decide +kernel⟩
theorem ok_run_with (T : Txt w K mg) (C_serial_run : C8.Cal P w K mg base 24 "serial_run" (spSRun (K := K)) []) : C8.Cal P w K mg base 25 "run_with" (spRunWith (K := K)) [] := by
  refine T.f_run_with.cal sc_run_with (fun vs H Q E h => by obtain ⟨_, _, _, _, _, _, rfl, _⟩ := h; rfl) fun f cdv AR outer s H vs Q E hr h => ?_
  obtain ⟨pa, wa, na, prog, ws, n, rfl, hprog, ok, hw, wok, lw, hn, hin, k0⟩ := h
  refine ⟨_, (pss_cons (ps_set (i := 3) sc_run_with.nd rfl (Or.inl rfl) (C8.pe_c C_serial_run hr (by omega) rfl (pa_cons (pv 0) (pa_cons (pv 1) pa_nil)))) 
    (pss_cons (ps_if (pt_cmpR (knotInD K rfl (hu65 hr)) (pv 2) (kfld K rfl (pv 3) rfl) (by rfl)) (pss_one ps_never) pss_nil) 
    (pss_one (ps_ret (pv 3))))), ?_⟩
  refine ⟨_, rfl, _, rfl, pa, wa, prog, ws, rfl, hprog, ok, hw, wok, lw, fun H1 A S bf s1 r => ?_⟩
  obtain ⟨vs, ho, nv⟩ := r.ord
  refine ⟨_, rfl, _, rfl, _, _, _, _, _, rfl, r.ins, T.c_SerialRun, T.n_SerialRun_order, rfl, dN n, _, (hn.mono (Tk.same s1)).dp, .lst (SqL.of ho) nv.dp, shaped_name n, shaped_names _, _, rfl, ?_⟩
  rw [any_name, decide_eq_true hin]
  exact ⟨_, rfl, k0 _ A S bf s1 r⟩
def spResultOf : Sp := fun vs H Q _ => ∃ (pa wa na : Addr) (prog : List Stm) (ws : List (Str × Int)) (n : Nm) (r : Int), vs = [.ref pa, .ref wa, .ref na] ∧ DB H prog pa ∧ POk prog ∧ DW H ws wa ∧ WordsOk ws ∧ ws.length ≤ 100 ∧ NM H n na ∧ n ∈ (fin prog ws).ord ∧ alook (fin prog ws).u.done n = some r ∧
  ∀ H', Same H H' → Q (.int r) H'
theorem sc_result_of : FnScope ["program", "words", "deed"] ["program", "words", "deed"] (defScope s_result_of) := ⟨rfl, rfl, rfl, by decide +kernel, rfl, by decide +kernel, by decide +kernel⟩
theorem len_result_of : ∀ vs H Q E, spResultOf vs H Q E → vs.length = ["program", "words", "deed"].length := fun vs H Q E h => by obtain ⟨_, _, _, _, _, _, _, rfl, _⟩ := h; rfl
theorem owes_result_of (T : Txt w K mg) (C_run_with : C8.Cal P w K mg base 25 "run_with" (spRunWith (K := K)) []) : Owes0 P w K mg base 25 ["program", "words", "deed"] "result_of" s_result_of spResultOf := by
  intro f cdv AR outer s H vs Q E hr h
  obtain ⟨pa, wa, na, prog, ws, n, r, rfl, hprog, ok, hw, wok, lw, hn, hin, hd, k0⟩ := h
  refine ⟨_, (pss_one (ps_ret (pe_dget (hu_of hr) (kfld K rfl (kfld K rfl (C8.pe_c C_run_with hr (by omega) rfl (pa_cons (pv 0) (pa_cons (pv 1) (pa_cons (pv 2) pa_nil)))) rfl) rfl) (pv 2) (fun _ _ => rfl)))), ?_⟩
  refine ⟨_, rfl, _, rfl, _, rfl, pa, wa, na, prog, ws, n, rfl, hprog, ok, hw, wok, lw, hn, hin, fun H1 A S bf s1 re => ?_⟩
  obtain ⟨kvs, hk, al⟩ := re.u.dn
  obtain ⟨v, hv, rfl⟩ := al.look kn_inj _ hd
  exact ⟨_, _, _, _, _, rfl, re.ins, T.c_SerialRun, T.n_SerialRun_run, rfl, _, _, _, _, _, rfl, re.u.ins, T.c_Unfolding, T.n_Unfolding_done, rfl, _, rfl, _, _, rfl, dget_t hk (hn.mono (Tk.same s1)) hv, k0 _ s1⟩
theorem ok_result_of (T : Txt w K mg) (C_run_with : C8.Cal P w K mg base 25 "run_with" (spRunWith (K := K)) []) : C8.Cal P w K mg base 26 "result_of" spResultOf [] :=
  T.f_result_of.cal sc_result_of len_result_of (owes_result_of T C_run_with)
end
end K11
set_option Elab.async false
set_option linter.all false
set_option maxRecDepth 100000
set_option maxHeartbeats 4000000
namespace K11
open PySem PySem.Spec PyProof.Rows L2
/-! ### Undefined("deed"), raised and caught -/
section
variable {X : Cx}
/-- X(e, ..) by its own __init__; the new error has no context -/
theorem pmkU {LX : CXT} {cn : Str} {Cc aI : Addr} {lv : Nat} {fu : FuncData} {pars : List Str} {sq : Sp} {b1 : Expr} {bs1 : List Expr} {tb1 : TA} {pp pq : Pos} (O : OexC X.K Cc) (h1 : PySem.W.findIn X.K (.ref Cc) "__init__" = some (some (.ref aI)))
    (h2 : PySem.W.typeIn X.K (.ref aI) = some (.type "function")) (FI : FnOk X.prog X.w X.K X.mg X.base LX lv aI fu pars sq) (rm : Room (lv + 1) X.A) (bd : Binds X.K fu pars []) (ps0 : Passes LX X (fun _ _ _ => False))
    (g1 : Gl X cn) (g2 : X.mg cn = some (.ref Cc)) (pa1 : PA X (b1 :: bs1) tb1) (nd : (cn == ("__debug__" : Str)) = false := by decide)
    (se : starEach (b1 :: bs1) X.env = (false, eval b1 X.env) :: starEach bs1 X.env := by rfl) (sp1 : (backTo pq (starEach bs1 X.env)).any (·.1) = false := by rfl) :
    L2N.PMk X (.Call (.Name cn pp) (b1 :: bs1) [] pq) (tMkO Cc sq [] tb1) := by
  intro pn0 s0 σ0 H0 Q0 I0 want
  obtain ⟨_, _, _, _, tl, _, _, _, _, _, _, _, _, _, _, cls1, ref1⟩ := O.cls
  refine wpAny_Call_Name_kw (ld_glob I0 g1 g2 ?_ nd)
  refine PySem.W.callWith_K (h₀ := X.base) I0.ok.mod.kin O.kC (thn (pa1.run pq pn0 s0 σ0 H0 _ I0 want) ?_) se sp1
  rintro args ⟨hh, gg, dd, tt, oo⟩ ⟨vs1, Ha, Ia, ra, lz, w1⟩
  refine ⟨Ia.kIn, ?_⟩
  show wpAny _ _ (call (.ref Cc) args) _ _ _
  generalize ez : hh.objs.size + 1 = z
  have le1 : hh.objs.size ≤ z := by rw [← ez]; exact Nat.le_succ _
  have free1 : Ha z = none := Ia.hok.fresh le1
  have w2 := w1 z free1
  rw [List.append_nil] at w2
  generalize eh : (hh.push (PySem.W.kdv_tup args)).push (PySem.HandSPX.excO Cc hh.objs.size) = h3
  have old1 : ∀ b o, hh.get? b = some o → h3.get? b = some o := by
    intro b o e
    rw [← eh]
    exact Heap.get?_push_of_some _ (Heap.get?_push_of_some _ e)
  have at1 : h3.get? z = some (PySem.HandSPX.excO Cc hh.objs.size) := by
    rw [← eh, ← ez]
    heap_get
  have I3 : Inv X pn0 σ0 (upd Ha z (exo z Cc none)) ⟨h3, gg, dd, tt, oo⟩ := Ia.laid (t' := tt) (a := z) (o := exo z Cc none) (h' := h3) old1 le1 (exo_ok at1)
  have rr : Vals (V.ref z :: vs1) (Value.ref z :: args) := .cons rfl ra
  have ll : (Value.ref z :: args ++ []).length = pars.length := by
    rw [List.append_nil, ← FI.len _ _ _ _ w2]
    exact rr.length.symm
  have bnd := bd _ (Value.ref z :: args) I3.kIn ll
  rw [List.append_nil] at bnd
  have short : args.length ≤ sizeLine := by
    rw [← Paired.length ra, sizeLine_eq]
    omega
  have room1 := rm.make Cc args []
  have env1 := I3.env0.make Cc args []
  have run1 := FI.run _ X.stack _ _ ⟨Value.ref z :: args, []⟩ (Value.ref z :: args) _ _ (fun _ _ _ => False) room1 env1 bnd rr w2
  subst ez
  subst eh
  refine wpAny_call (PySem.HandSPX.call_own F.excBase_ValueError (fun Y => PySem.HandSPX.refsVE_contains Y tl ref1) (Ia.kIn _ _ cls1) (PySem.W.looks_findIn Ia.kIn h1)
    (fun self => PySem.W.bind_fn Ia.kIn self h2) short (codeAny_mono run1 ?_))
  rintro (er | (u | _ | _ | _)) s4 got
  · exact ps0 pn0 σ0 _ _ er s4 I3 got
  all_goals first | exact got.elim | skip
  obtain ⟨h4, g4, d4, t4, o4⟩ := s4
  obtain ⟨v4, H4, eo, eb, un4, ok4, rv4, ev, dx, fs, e1, e2, e3, w4⟩ := got
  subst ev
  obtain ⟨t0, G4, J4, keep4, here4, obj4, gone4⟩ := mk_end0 (d2 := d4) (t2 := t4) Ia le1 old1 un4 ok4 eo eb e1 e2 e3
  exact ⟨rv4, _, _, _, ⟨G4, g4, d4, t4, o4⟩, _, .ref Cc, some dx, rfl, J4, keep4, here4, obj4, ⟨rfl, rfl, fun vs hv => by cases hv; rfl⟩, rfl, rfl, gone4, rfl, eb, raises_own O.exC O.tyC, w4⟩
end
/-- a def that may raise -/
structure CalX (P : Program) (w : World) (K : PySem.W.Frag) (mg : Str → Option Value) (base : Heap) (k : Nat) (x : Str) (sp : Sp) : Prop where
  ex : ∃ (f : Addr) (fd : FuncData) (ps : List Str), FnOk P w K mg base (L2N.CX P w) k f fd ps sp ∧ mg x = some (.ref f) ∧ PySem.W.keepIn K (.ref f) = true ∧ Binds K fd ps []
theorem pe_cX {X : Cx} {W : WX} {k j : Nat} {x : Str} {sp : Sp} {p pos : Pos} {e : Expr} {es : List Expr} {t : TA} (c : CalX X.prog X.w X.K X.mg X.base k x sp) (tk : L2N.Takes X W) (hr : Room j X.A) (hk : k ≤ j) (hg : Gl X x) (ha : PA X (e :: es) t)
    (hdb : (x == ("__debug__" : Str)) = false := by decide) (he : starEach (e :: es) X.env = (false, eval e X.env) :: starEach es X.env := by rfl) (hpl : (backTo pos (starEach es X.env)).any (·.1) = false := by rfl) :
    PE X (.Call (.Name x p) (e :: es) [] pos) (tCallS sp (WE W) t) := by
  obtain ⟨f, fd, ps, F, hm, kp, b⟩ := c.ex
  exact pe_callS F (hr.mono hk) hg hm kp b (fun σ => L2N.passAt tk σ) ha hdb he hpl
section
variable {P : Program} {w : World} {K : PySem.W.Frag} {mg : Str → Option Value} {base : Heap}
/-- as DF.cal, for a def that may raise -/
theorem DF.calX {x : Str} {st : Stmt} {N ps : List Str} {k : Nat} {sp : Sp} (F : DF K mg x st ps) (S : FnScope N ps (defScope st)) (len : ∀ vs H Q E, sp vs H Q E → vs.length = ps.length)
    (o : Owes (L2N.CX P w) P w K mg base k N x st sp) : CalX P w K mg base (k + 1) x sp := by
  obtain ⟨f, fd, D, hm, b⟩ := F
  exact ⟨f, fd, ps, D.ok S len fun cdv A outer s H vs Q E hr h => o f cdv A outer s H vs Q E hr h, hm, D.kp, b⟩
def spUndef (K : PySem.W.Frag) : Sp := fun vs H Q _ => ∃ (a : Addr) (y : V), vs = [.ref a, y] ∧ H a = some (exo a (ad K "Undefined") none) ∧
  ∀ dx, H dx = none → dx ≠ a → Q .non (upd (upd H dx (exd dx [("what", y)])) a (exo a (ad K "Undefined") (some dx)))
theorem sc_Undefined___init__ : FnScope ["self", "what"] ["self", "what"] (defScope s_Undefined_init) := ⟨rfl, rfl, rfl, by decide +kernel, rfl, by decide +kernel, by decide +kernel⟩
theorem fn_undef (T : Txt w K mg) : ∃ (f : Addr) (fd : FuncData), PySem.W.findIn K (.ref (ad K "Undefined")) "__init__" = some (some (.ref f)) ∧ PySem.W.typeIn K (.ref f) = some (.type "function") ∧ FnOk P w K mg base C8.CX0 1 f fd ["self", "what"] (spUndef K) ∧ Binds K fd ["self", "what"] [] := by
  obtain ⟨f, fd, h1, h2, D, b⟩ := T.f_Undefined_init
  refine ⟨f, fd, h1, h2, D.ok sc_Undefined___init__ (fun vs H Q E h => by obtain ⟨_, _, rfl, _⟩ := h; rfl) fun cdv A outer s H vs Q E hr h => ?_, b⟩
  obtain ⟨a, y, rfl, ha, q⟩ := h
  exact ⟨_, pss_one (ps_ost (pv 0) (pv 1)), _, rfl, _, rfl, a, ad K "Undefined", rfl, T.o_Undefined, T.n_Undefined, .inl ⟨ha, q⟩⟩
def spRunWithX : Sp := fun vs H _ E => ∃ (pa wa na : Addr) (prog : List Stm) (ws : List (Str × Int)) (n : Nm), vs = [.ref pa, .ref wa, .ref na] ∧ DB H prog pa ∧ POk prog ∧ DW H ws wa ∧ WordsOk ws ∧ ws.length ≤ 100 ∧ NM H n na ∧ n ∉ (fin prog ws).ord ∧
  ∀ H' d, Same H H' → H' d = some (.xd [("what", .str "deed")]) → E (.ref (ad K "Undefined")) (some d) H'
theorem ok_run_withX (T : Txt w K mg) (C_serial_run : C8.Cal P w K mg base 24 "serial_run" (spSRun (K := K)) []) : CalX P w K mg base 25 "run_with" (spRunWithX (K := K)) := by
  obtain ⟨fI, fdI, i1, i2, FI, bI⟩ := fn_undef (P := P) (base := base) T
  refine T.f_run_with.calX sc_run_with (fun vs H Q E h => by obtain ⟨_, _, _, _, _, _, rfl, _⟩ := h; rfl) fun f cdv AR outer s H vs Q E hr h => ?_
  obtain ⟨pa, wa, na, prog, ws, n, rfl, hprog, ok, hw, wok, lw, hn, hin, k0⟩ := h
  refine ⟨_, (pss_cons (ps_set (i := 3) sc_run_with.nd rfl (Or.inl rfl) (C8.pe_c C_serial_run hr (by omega) rfl (pa_cons (pv 0) (pa_cons (pv 1) pa_nil)))) 
    (pss_cons (ps_if (pt_cmpR (knotInD K rfl (hu65 hr)) (pv 2) (kfld K rfl (pv 3) rfl) (by rfl)) (pss_one (L2N.ps_raise rfl (L2N.takes_of rfl rfl rfl rfl) (pmkU T.o_Undefined i1 i2 FI (hr.mono (by decide)) bI pass0 rfl T.g_Undefined (pa_cons pe_str pa_nil)))) pss_nil) 
    (pss_one (ps_ret (pv 3))))), ?_⟩
  refine ⟨_, rfl, _, rfl, pa, wa, prog, ws, rfl, hprog, ok, hw, wok, lw, fun H1 A S bf s1 r => ?_⟩
  obtain ⟨vs, ho, nv⟩ := r.ord
  refine ⟨_, rfl, _, rfl, _, _, _, _, _, rfl, r.ins, T.c_SerialRun, T.n_SerialRun_order, rfl, dN n, _, (hn.mono (Tk.same s1)).dp, .lst (SqL.of ho) nv.dp, shaped_name n, shaped_names _, _, rfl, ?_⟩
  rw [any_name, decide_eq_false hin]
  refine ⟨by decide, fun a ha => ⟨a, .str "deed", rfl, upd_same, fun dx hdx nx => ⟨rfl, dx, [("what", .str "deed")], upd_same, ?_, ?_, ?_⟩⟩⟩
  · rw [upd_ne nx]; exact upd_same
  · rw [upd_ne nx] at hdx; exact hdx
  · rw [upd_ne nx] at hdx
    refine k0 _ dx (fun b o e => ?_) upd_same
    have e1 := s1 _ _ e
    have na' : b ≠ a := fun z => by rw [z, ha] at e1; cases e1
    have nd' : b ≠ dx := fun z => by rw [z, hdx] at e1; cases e1
    rw [upd_ne nd', del_ne na', upd_ne na', upd_ne nd', upd_ne na']
    exact e1
theorem ok_result_ofX (T : Txt w K mg) (C_run_with : CalX P w K mg base 25 "run_with" (spRunWithX (K := K))) : CalX P w K mg base 26 "result_of" (spRunWithX (K := K)) := by
  refine T.f_result_of.calX sc_result_of (fun vs H Q E h => by obtain ⟨_, _, _, _, _, _, rfl, _⟩ := h; rfl) fun f cdv AR outer s H vs Q E hr h => ?_
  obtain ⟨pa, wa, na, prog, ws, n, rfl, hprog, ok, hw, wok, lw, hn, hin, k0⟩ := h
  refine ⟨_, (pss_one (ps_ret (pe_dget (hu_of hr) (kfld K rfl (kfld K rfl (pe_cX C_run_with (L2N.takes_of rfl rfl rfl rfl) hr (by omega) rfl (pa_cons (pv 0) (pa_cons (pv 1) (pa_cons (pv 2) pa_nil)))) rfl) rfl) (pv 2) (fun _ _ => rfl)))), ?_⟩
  exact ⟨_, rfl, _, rfl, _, rfl, pa, wa, na, prog, ws, n, rfl, hprog, ok, hw, wok, lw, hn, hin, k0⟩
end
end K11
set_option Elab.async false
set_option linter.all false
set_option maxRecDepth 100000
set_option maxHeartbeats 4000000
namespace K11
open PySem PySem.Spec PyProof.Rows L2
/-- two values that are equal, n deep -/
def EqD (H : Hp) : Nat → V → V → Prop
  | 0, _, _ => False
  | n + 1, x, y => (∃ i, x = .int i ∧ y = .int i) ∨ (∃ s, x = .str s ∧ y = .str s) ∨
      ∃ a b xs ys, x = .ref a ∧ y = .ref b ∧ H a = some (.tup xs) ∧ H b = some (.tup ys) ∧ xs.length = ys.length ∧ ys.length < sizeLine ∧ ∀ (i : Nat) u v, xs[i]? = some u → ys[i]? = some v → EqD H n u v
theorem EqD.mono {H H' : Hp} (k : Tk H H') : ∀ {n : Nat} {x y : V}, EqD H n x y → EqD H' n x y
  | 0, _, _, h => h
  | n + 1, _, _, h => by
    rcases h with h | h | ⟨a, b, xs, ys, e1, e2, e3, e4, e5, e6, e7⟩
    · exact .inl h
    · exact .inr (.inl h)
    · exact .inr (.inr ⟨a, b, xs, ys, e1, e2, k _ _ e3, k _ _ e4, e5, e6, fun i u v h1 h2 => (e7 i u v h1 h2).mono k⟩)
section
variable {P : Program} {w : World} {K : PySem.W.Frag} {mg : Str → Option Value} {base : Heap}
def spLEq (n : Nat) : Sp := fun vs H Q _ => ∃ (x y : V), vs = [x, y] ∧ EqD H n x y ∧ ∀ H', Same H H' → Q (.bl true) H'
theorem sc_law_equal : FnScope ["_law_actual", "_law_expected", "_law_k"] ["_law_actual", "_law_expected"] (defScope s_law_equal) := ⟨rfl, rfl, rfl, by decide +kernel, rfl, by decide +kernel, by decide +kernel⟩
theorem law_equal_1 {k n : Nat} (T : Txt w K mg) (C_law_equal : C8.Cal P w K mg base k "_law_equal" (spLEq n) []) : C8.Cal P w K mg base (k + 1) "_law_equal" (spLEq (n + 1)) [] := by
  refine T.f_law_equal.cal sc_law_equal (fun vs H Q E h => by obtain ⟨_, _, rfl, _⟩ := h; rfl) fun f cdv A outer s H vs Q E hr h => ?_
  obtain ⟨x, y, rfl, he, q⟩ := h
  refine ⟨_, (pss_cons (ps_if (pt_cmpR op_isN (pv 1) pe_non (nomark _)) (pss_one (ps_ret (pe_cmpR op_isN (pv 0) pe_non (nomark _)))) pss_nil) 
    (pss_cons (ps_if (pt_val (pe_callB call_isB (by rfl) T.z_isinstance (by decide +kernel) (pa_cons (pv 1) (pa_cons (pe_bltn (by rfl) T.z_bool (by decide +kernel) (RelV_ty "bool")) pa_nil)))) (pss_one (ps_ret (pe_and (pe_callB call_isB (by rfl) T.z_isinstance (by decide +kernel) (pa_cons (pv 0) (pa_cons (pe_bltn (by rfl) T.z_bool (by decide +kernel) (RelV_ty "bool")) pa_nil))) (pe_one (pe_cmpR op_eq (pv 0) (pv 1) (by rfl)))))) pss_nil) 
    (pss_cons (ps_if (pt_val (pe_callB call_isB (by rfl) T.z_isinstance (by decide +kernel) (pa_cons (pv 1) (pa_cons (pe_bltn (by rfl) T.z_int (by decide +kernel) (RelV_ty "int")) pa_nil)))) (pss_one (ps_ret (pe_and (pe_callB call_isB (by rfl) T.z_isinstance (by decide +kernel) (pa_cons (pv 0) (pa_cons (pe_bltn (by rfl) T.z_int (by decide +kernel) (RelV_ty "int")) pa_nil))) (pe_and (pe_not (pe_callB call_isB (by rfl) T.z_isinstance (by decide +kernel) (pa_cons (pv 0) (pa_cons (pe_bltn (by rfl) T.z_bool (by decide +kernel) (RelV_ty "bool")) pa_nil)))) (pe_one (pe_cmpR op_eq (pv 0) (pv 1) (by rfl))))))) pss_nil) 
    (pss_cons (ps_if (pt_val (pe_callB call_isB (by rfl) T.z_isinstance (by decide +kernel) (pa_cons (pv 1) (pa_cons (pe_bltn (by rfl) T.z_str (by decide +kernel) (RelV_ty "str")) pa_nil)))) (pss_one (ps_ret (pe_and (pe_callB call_isB (by rfl) T.z_isinstance (by decide +kernel) (pa_cons (pv 0) (pa_cons (pe_bltn (by rfl) T.z_str (by decide +kernel) (RelV_ty "str")) pa_nil))) (pe_one (pe_cmpR op_eq (pv 0) (pv 1) (by rfl)))))) pss_nil) 
    (pss_cons (ps_if (PW.pt (pw_or (pt_not (pt_val (pe_callB call_isB (by rfl) T.z_isinstance (by decide +kernel) (pa_cons (pv 0) (pa_cons (pe_bltn (by rfl) T.z_tuple (by decide +kernel) (RelV_ty "tuple")) pa_nil))))) (pw_or1 (pt_cmpR op_ne (pe_callB (klen_seq K rfl) (by rfl) T.z_len (by decide +kernel) (pa_cons (pv 0) pa_nil)) (pe_callB (klen_seq K rfl) (by rfl) T.z_len (by decide +kernel) (pa_cons (pv 1) pa_nil)) (nomark _))))) (pss_one (ps_ret pe_bl)) pss_nil) 
    (pss_cons (ps_for PassesOwn.never rfl (pi_range1 rfl T.z_range (pa_cons (pe_callB (klen_seq K rfl) (by rfl) T.z_len (by decide +kernel) (pa_cons (pv 1) pa_nil)) pa_nil)) (pg_name (i := 2) sc_law_equal.nd rfl (Or.inl rfl)) (pss_one (ps_if (pt_not (pt_val (C8.pe_c C_law_equal hr (by omega) rfl (pa_cons (pe_ix (kix_tup K rfl) (pv 0) (pv 2) (fun _ _ => rfl)) (pa_cons (pe_ix (kix_tup K rfl) (pv 1) (pv 2) (fun _ _ => rfl)) pa_nil))))) (pss_one (ps_ret pe_bl)) pss_nil))) 
    (pss_one (ps_ret pe_bl)))))))), ?_⟩
  rcases he with ⟨i, rfl, rfl⟩ | ⟨z, rfl, rfl⟩ | ⟨a, b, xs, ys, rfl, rfl, ha, hb, hl, hz, hall⟩
  · refine ⟨_, rfl, rfl, _, rfl, iteDF (fun z => by cases z) ⟨_, rfl, _, .ib, _, rfl, iteF ⟨_, rfl, _, .ii, _, rfl, iteT ?_⟩⟩⟩
    refine ⟨_, rfl, _, .ii, _, rfl, iteT ⟨_, rfl, _, .ib, _, rfl, _, rfl, iteT ⟨_, rfl, _, rfl, rfl, ?_⟩⟩⟩
    exact dT rfl (q _ (Same.refl _))
  · refine ⟨_, rfl, rfl, _, rfl, iteDF (fun z => by cases z) ⟨_, rfl, _, .sb, _, rfl, iteF ⟨_, rfl, _, .si, _, rfl, iteF ⟨_, rfl, _, .ss, _, rfl, iteT ?_⟩⟩⟩⟩
    refine ⟨_, rfl, _, .ss, _, rfl, iteT ⟨_, rfl, _, rfl, rfl, ?_⟩⟩
    exact dT rfl (q _ (Same.refl _))
  · refine ⟨_, rfl, rfl, _, rfl, iteDF (fun z => by cases z) ⟨_, rfl, _, .tb hb, _, rfl, iteF ⟨_, rfl, _, .ti hb, _, rfl, iteF ⟨_, rfl, _, .ts hb, _, rfl, iteF ?_⟩⟩⟩⟩
    refine ⟨_, rfl, _, .tt ha, _, rfl, iteF ⟨_, rfl, _, _, rfl, .inr (SqT.of ha), _, rfl, _, _, rfl, .inr (SqT.of hb), rfl, _, rfl, iteN (by rw [hl]) ?_⟩⟩
    refine ⟨_, rfl, _, _, rfl, .inr (SqT.of hb), (ys.length : Int), rfl, by omega, by have := hz; rw [sizeLine_eq] at this; omega, ?_⟩
    rw [show ((ys.length : Int)).toNat = ys.length by omega]
    refine for_range (lo := 0) (n := ys.length) (fun i σ G => (∃ c, σ = [some (.ref a), some (.ref b), c]) ∧ Same H G) ⟨⟨_, rfl⟩, Same.refl _⟩ (fun i σ G hi h => ?_) fun σ G h => ?_
    · obtain ⟨⟨c, rfl⟩, sG⟩ := h
      have z0 : (0 : Int) + (i : Nat) = (i : Int) := by omega
      rw [z0]
      have e1 : xs[i]? = some xs[i] := List.getElem?_eq_getElem (by omega)
      have e2 : ys[i]? = some ys[i] := List.getElem?_eq_getElem hi
      refine ⟨_, rfl, _, rfl, _, _, _, _, rfl, rfl, SqT.of (sG _ _ ha), atI_nat e1, _, rfl, _, rfl, _, _, _, _, rfl, rfl, SqT.of (sG _ _ hb), atI_nat e2, _, _, rfl, (hall i _ _ e1 e2).mono (Tk.same sG), fun G2 s2 => ⟨_, rfl, iteF ⟨⟨_, rfl⟩, sG.trans s2⟩⟩⟩
    · obtain ⟨⟨c, rfl⟩, sG⟩ := h
      exact q _ sG
theorem ok_law_equal (T : Txt w K mg) : ∀ n : Nat, C8.Cal P w K mg base n "_law_equal" (spLEq n) []
  | 0 => T.f_law_equal.none fun vs H Q E h => by
    obtain ⟨_, _, _, h, _⟩ := h
    exact h
  | n + 1 => law_equal_1 T (ok_law_equal T n)
end
end K11
set_option Elab.async false
set_option linter.all false
set_option maxRecDepth 100000
set_option maxHeartbeats 4000000
namespace K11
open PySem PySem.Spec PyProof.Rows L2
/-! ### calls with keywords alone -/
def gK {α : Type} (us ws : List α) : List α := match us with
  | [] => ws
  | _ :: _ => []
/-- a def called by the names of its parameters -/
structure CalK (P : Program) (w : World) (K : PySem.W.Frag) (mg : Str → Option Value) (base : Heap) (k : Nat) (x : Str) (sp : Sp) (ks : List Str) : Prop where
  ex : ∃ (f : Addr) (fd : FuncData) (ps : List Str), FnOk P w K mg base C8.CX0 k f fd ps sp ∧ mg x = some (.ref f) ∧ PySem.W.keepIn K (.ref f) = true ∧ KBinds K fd ps ks gK gK
theorem pe_cK {X : Cx} {k j : Nat} {x : Str} {sp : Sp} {ks : List Str} {p pos : Pos} {kws : List Keyword} {t : TA} (c : CalK X.prog X.w X.K X.mg X.base k x sp ks) (hr : Room j X.A) (hk : k ≤ j) (hg : Gl X x) (hkw : PK X kws t)
    (hall : (backToKw pos (keywordEach kws X.env)).all (·.1.isSome) = true := by rfl) (hks : (backToKw pos (keywordEach kws X.env)).filterMap (·.1) = ks := by rfl) (hdb : (x == ("__debug__" : Str)) = false := by decide)
    (hpl : ((backTo pos (starEach [] X.env)).any (·.1) || (backToKw pos (keywordEach kws X.env)).any (·.1.isNone)) = false := by rfl) :
    PE X (.Call (.Name x p) [] kws pos) (fun σ H Q => t σ H fun zs H1 => sp zs H1 Q C8.E0) := by
  obtain ⟨f, fd, ps, F, hm, kp, b⟩ := c.ex
  exact pe_callKw F (hr.mono hk) hg hm kp b C8.pass0 hkw hall hks hdb hpl
section
variable {P : Program} {w : World} {K : PySem.W.Frag} {mg : Str → Option Value} {base : Heap}
theorem DF.calK {x : Str} {st : Stmt} {N ps ks : List Str} {k : Nat} {sp : Sp} (F : DF K mg x st ps) (S : FnScope N ps (defScope st)) (len : ∀ vs H Q E, sp vs H Q E → vs.length = ps.length)
    (o : Owes0 P w K mg base k N x st sp) (h0 : ps ≠ []) (hb : ∀ (kV doc pm : Value) (an : Option Addr) (cdv ct : Value) (ws : List Value), ws.length = ps.length → bindArgs (PySem.W.fnOf x x (defArgs st) (defBody st) (defScope st) .none kV doc pm an cdv ct) ⟨[], ks.zip ws⟩ = pure (ps.zip ws)) : CalK P w K mg base (k + 1) x sp ks := by
  obtain ⟨f, fd, D, hm, b⟩ := F
  refine ⟨f, fd, ps, D.ok S len fun cdv A outer s H vs Q E hr h => o.owes f cdv A outer s H vs Q E hr h, hm, D.kp, ⟨fun s us ws _ hl => ?_, fun {vs us zs ws} r1 r2 => ?_⟩⟩
  · cases us with
    | cons u us => exact absurd (List.length_eq_zero_iff.mp (show ps.length = 0 from hl.symm)) h0
    | nil =>
      obtain ⟨oc, od, dV, kV, doc, pm, an, cdv, ct, osl, rfl, _, _, dd, _⟩ := D.ex
      rcases dd with ⟨_, rfl⟩ | ⟨z, _⟩
      · exact .of_eq (hb kV doc pm an cdv ct ws hl)
      · exact absurd rfl z
  · cases r1 with
    | nil => exact r2
    | cons _ _ => exact .nil
theorem kw_result_of (T : Txt w K mg) (C_run_with : C8.Cal P w K mg base 25 "run_with" (spRunWith (K := K)) []) : CalK P w K mg base 26 "result_of" spResultOf ["program", "words", "deed"] :=
  T.f_result_of.calK sc_result_of len_result_of (owes_result_of T C_run_with) (by decide) fun kV doc pm an cdv ct ws h => by
    match ws, h with
    | [a, b, c], _ => first | rfl | with_unfolding_all rfl
theorem kw_serial_end (T : Txt w K mg) (C_serial_run : C8.Cal P w K mg base 24 "serial_run" (spSRun (K := K)) []) (C_words : C8.Met P w K mg base 1 (ad K "Unfolding") "words" (spUWords (K := K)) []) : CalK P w K mg base 25 "serial_end" spEnd ["program", "words"] :=
  T.f_serial_end.calK sc_serial_end len_serial_end (owes_serial_end T C_serial_run C_words) (by decide) fun kV doc pm an cdv ct ws h => by
    match ws, h with
    | [a, b], _ => first | rfl | with_unfolding_all rfl
end
end K11
set_option Elab.async false
set_option linter.all false
set_option maxRecDepth 100000
set_option maxHeartbeats 4000000
namespace K11
open PySem PySem.Spec PyProof.Rows L2
section
variable {P : Program} {w : World} {K : PySem.W.Frag} {mg : Str → Option Value} {base : Heap}
def spLOp : Sp := fun vs H Q _ => ∃ (o : Str) (a b : Int), vs = [.str o, .int a, .int b] ∧ InP a ∧ InP b ∧ ∀ H', Same H H' → Q (.int (opd o a b)) H'
theorem sc_law_operated : FnScope ["_law_op", "_law_a", "_law_b"] ["_law_op", "_law_a", "_law_b"] (defScope s_law_operated) := ⟨rfl, rfl, rfl, by decide +kernel, rfl, by decide +kernel, by decide +kernel⟩
theorem ok_law_operated (T : Txt w K mg) : C8.Cal P w K mg base 1 "_law_operated" spLOp [] := by
  refine T.f_law_operated.cal sc_law_operated (fun vs H Q E h => by obtain ⟨_, _, _, rfl, _⟩ := h; rfl) fun f cdv A outer s H vs Q E hr h => ?_
  obtain ⟨o, a, b, rfl, ⟨ha0, ha1⟩, ⟨hb0, hb1⟩, q⟩ := h
  refine ⟨_, (pss_cons (ps_if (pt_cmpR op_eq (pv 0) pe_str (nomark _)) (pss_one (ps_ret (pe_op op_mod (pe_callTy call_int1 (by rfl) T.z_int (by decide +kernel) (pa_cons (pe_op op_add (pv 1) (pv 2)) pa_nil)) pe_int))) pss_nil) 
    (pss_cons (ps_if (pt_cmpR op_eq (pv 0) pe_str (nomark _)) (pss_one (ps_ret (pe_op op_mod (pe_callTy call_int1 (by rfl) T.z_int (by decide +kernel) (pa_cons (pe_op op_sub (pv 1) (pv 2)) pa_nil)) pe_int))) pss_nil) 
    (pss_cons (ps_if (pt_cmpR op_eq (pv 0) pe_str (nomark _)) (pss_one (ps_ret (pe_op op_mod (pe_callTy call_int1 (by rfl) T.z_int (by decide +kernel) (pa_cons (pe_op op_mul (pv 1) (pv 2)) pa_nil)) pe_int))) pss_nil) 
    (pss_cons (ps_if (PW.pt (pw_or (pt_cmpR op_eq (pv 0) pe_str (nomark _)) (pw_or1 (pt_cmpR op_eq (pv 0) pe_str (nomark _))))) (pss_one (ps_ret (pe_ix (kix_list K rfl) (pe_lst (pa_cons (pv 1) (pa_cons (pv 2) pa_nil))) (pe_callTy call_int1 (by rfl) T.z_int (by decide +kernel) (pa_cons (pe_cmpR op_eq (pe_cmpR op_lt (pv 1) (pv 2) (nomark _)) (pe_cmpR op_eq (pv 0) pe_str (nomark _)) (nomark _)) pa_nil)) (fun _ _ => rfl)))) pss_nil) 
    (pss_cons (ps_if (pt_cmpR op_eq (pv 0) pe_str (nomark _)) (pss_one (ps_ret (pe_callTy call_int1 (by rfl) T.z_int (by decide +kernel) (pa_cons (pe_cmpR op_lt (pv 1) (pv 2) (nomark _)) pa_nil)))) pss_nil) 
    (pss_one (ps_ret (pe_callTy call_int1 (by rfl) T.z_int (by decide +kernel) (pa_cons (pe_cmpR op_eq (pv 1) (pv 2) (nomark _)) pa_nil))))))))), ?_⟩
  have ne : ∀ {x : Str}, ¬ o = x → ¬ V.str o = V.str x := fun h z => h (V.str.inj z)
  refine ⟨_, rfl, rfl, _, rfl, ?_⟩
  by_cases c1 : o = "+"
  · refine iteD (by rw [c1]) ⟨_, rfl, _, rfl, _, _, rfl, rfl, .inl ⟨_, rfl, _, _, rfl, rfl, (by show (0 : Int) < 1000003; decide), ?_⟩⟩
    unfold opd at q
    rw [if_pos c1] at q
    exact q _ (Same.refl _)
  refine iteDF (ne c1) ⟨_, rfl, rfl, _, rfl, ?_⟩
  by_cases c2 : o = "-"
  · refine iteD (by rw [c2]) ⟨_, rfl, _, rfl, _, _, rfl, rfl, .inl ⟨_, rfl, _, _, rfl, rfl, (by show (0 : Int) < 1000003; decide), ?_⟩⟩
    unfold opd at q
    rw [if_neg c1, if_pos c2] at q
    exact q _ (Same.refl _)
  refine iteDF (ne c2) ⟨_, rfl, rfl, _, rfl, ?_⟩
  by_cases c3 : o = "*"
  · refine iteD (by rw [c3]) ⟨_, rfl, _, rfl, _, _, rfl, rfl, .inl ⟨by omega, by omega⟩, .inl ⟨_, rfl, _, _, rfl, rfl, (by show (0 : Int) < 1000003; decide), ?_⟩⟩
    unfold opd at q
    rw [if_neg c1, if_neg c2, if_pos c3] at q
    exact q _ (Same.refl _)
  refine iteDF (ne c3) ?_
  have pick : ∀ (bm : Bool) (v : Int), (if decide (V.bl (decide (a < b)) = V.bl bm) then b else a) = v → atI [V.int a, V.int b] (if decide (V.bl (decide (a < b)) = V.bl bm) then 1 else 0) = some (.int v) := fun bm v h => by
    cases e : decide (V.bl (decide (a < b)) = V.bl bm) with
    | true => rw [e] at h; rw [← h]; exact at1
    | false => rw [e] at h; rw [← h]; exact at0
  unfold opd at q
  rw [if_neg c1, if_neg c2, if_neg c3] at q
  by_cases c4 : o = "max"
  · rw [if_pos c4] at q
    refine ⟨_, rfl, rfl, _, rfl, iteD (by rw [c4]) (iteT ⟨_, rfl, _, rfl, le_line (by show 2 ≤ 1000; decide), fun p hp => ?_⟩)⟩
    refine ⟨_, rfl, _, rfl, _, _, rfl, rfl, _, rfl, rfl, rfl, .inr ⟨_, rfl, _, _, _, _, rfl, rfl, SqL.of upd_same, pick _ (if b > a then b else a) ?_, q _ (same_new hp _)⟩⟩
    rw [c4]
    by_cases z : a < b
    · rw [if_pos z, decide_eq_true z]; rfl
    · rw [if_neg z, decide_eq_false z]; rfl
  rw [if_neg c4] at q
  by_cases c5 : o = "min"
  · rw [if_pos c5] at q
    refine ⟨_, rfl, rfl, _, rfl, iteDF (ne c4) ⟨_, rfl, rfl, _, rfl, iteD (by rw [c5]) ⟨_, rfl, _, rfl, le_line (by show 2 ≤ 1000; decide), fun p hp => ?_⟩⟩⟩
    refine ⟨_, rfl, _, rfl, _, _, rfl, rfl, _, rfl, rfl, rfl, .inr ⟨_, rfl, _, _, _, _, rfl, rfl, SqL.of upd_same, pick _ (if b < a then b else a) ?_, q _ (same_new hp _)⟩⟩
    rw [c5]
    by_cases z : a < b
    · rw [if_neg (by omega : ¬ b < a), decide_eq_true z]; rfl
    · rw [decide_eq_false z]
      by_cases z2 : b < a
      · rw [if_pos z2]; rfl
      · rw [if_neg z2, show a = b by omega]; rfl
  rw [if_neg c5] at q
  refine ⟨_, rfl, rfl, _, rfl, iteDF (ne c4) ⟨_, rfl, rfl, _, rfl, iteDF (ne c5) ⟨_, rfl, rfl, _, rfl, ?_⟩⟩⟩
  by_cases c6 : o = "<"
  · rw [if_pos c6] at q
    refine iteD (by rw [c6]) ⟨_, rfl, _, rfl, _, _, rfl, rfl, .inr ⟨_, rfl, ?_⟩⟩
    by_cases c : a < b
    · rw [if_pos c] at q
      rw [decide_eq_true c]
      exact q _ (Same.refl _)
    · rw [if_neg c] at q
      rw [decide_eq_false c]
      exact q _ (Same.refl _)
  · rw [if_neg c6] at q
    refine iteDF (ne c6) ⟨_, rfl, _, rfl, rfl, .inr ⟨_, rfl, ?_⟩⟩
    by_cases c : a = b
    · rw [if_pos c] at q
      rw [decide_eq_true (congrArg V.int c)]
      exact q _ (Same.refl _)
    · rw [if_neg c] at q
      rw [decide_eq_false (fun z => c (V.int.inj z))]
      exact q _ (Same.refl _)
def spLVal (n : Nat) : Sp := fun vs H Q _ => ∃ (v : V) (s e : Addr) (x : Exp) (st env : Sto) (L : List Str), vs = [v, .ref s, .ref e] ∧ DE H x v ∧ ST H st s ∧ ST H env e ∧ BV st ∧ BV env ∧ EnvOk env L ∧ WFE L x ∧ x.dep < n ∧ ∀ H', Same H H' → Q (.int (evE st env x)) H'
theorem sc_law_value : FnScope ["_law_expression_here", "_law_words_here", "_law_local_values", "_law_left"] ["_law_expression_here", "_law_words_here", "_law_local_values"] (defScope s_law_value) := ⟨rfl, rfl, rfl, by decide +kernel, rfl, by decide +kernel, by decide +kernel⟩
theorem law_value_1 {k n : Nat} (T : Txt w K mg) (hk : 1 ≤ k) (C_law_operated : C8.Cal P w K mg base 1 "_law_operated" spLOp []) (C_law_value : C8.Cal P w K mg base k "_law_value" (spLVal n) []) : C8.Cal P w K mg base (k + 1) "_law_value" (spLVal (n + 1)) [] := by
  refine T.f_law_value.cal sc_law_value (fun vs H Q E h => by obtain ⟨_, _, _, _, _, _, _, rfl, _⟩ := h; rfl) fun f cdv A outer s H vs Q E hr h => ?_
  obtain ⟨v, ss, es, x, st, env, L, rfl, de, hst, henv, bs, be, eo, wf, hd, q⟩ := h
  refine ⟨_, (pss_cons (ps_if (pt_cmpR op_eq (pe_ix (kix_tup K rfl) (pv 0) pe_int (fun _ _ => rfl)) pe_str (nomark _)) (pss_one (ps_ret (pe_ix (kix_tup K rfl) (pv 0) pe_int (fun _ _ => rfl)))) pss_nil) 
    (pss_cons (ps_if (pt_cmpR op_eq (pe_ix (kix_tup K rfl) (pv 0) pe_int (fun _ _ => rfl)) pe_str (nomark _)) (pss_one (ps_ret (pe_dget2 (hu_of hr) (pv 1) (pe_ix (kix_tup K rfl) (pv 0) pe_int (fun _ _ => rfl)) pe_int ⟨rfl, rfl, rfl, rfl⟩))) pss_nil) 
    (pss_cons (ps_if (pt_cmpR op_eq (pe_ix (kix_tup K rfl) (pv 0) pe_int (fun _ _ => rfl)) pe_str (nomark _)) (pss_one (ps_ret (pe_dget (hu_of hr) (pv 2) (pe_ix (kix_tup K rfl) (pv 0) pe_int (fun _ _ => rfl)) (fun _ _ => rfl)))) pss_nil) 
    (pss_cons (ps_set (i := 3) sc_law_value.nd rfl (Or.inl rfl) (C8.pe_c C_law_value hr (by omega) rfl (pa_cons (pe_ix (kix_tup K rfl) (pv 0) pe_int (fun _ _ => rfl)) (pa_cons (pv 1) (pa_cons (pv 2) pa_nil))))) 
    (pss_one (ps_ret (C8.pe_c C_law_operated hr (by omega) rfl (pa_cons (pe_ix (kix_tup K rfl) (pv 0) pe_int (fun _ _ => rfl)) (pa_cons (pv 3) (pa_cons (C8.pe_c C_law_value hr (by omega) rfl (pa_cons (pe_ix (kix_tup K rfl) (pv 0) pe_int (fun _ _ => rfl)) (pa_cons (pv 1) (pa_cons (pv 2) pa_nil)))) pa_nil)))))))))), ?_⟩
  cases x with
  | num n =>
    obtain ⟨a, rfl, ha⟩ := de
    refine ⟨_, rfl, _, _, _, _, rfl, rfl, SqT.of ha, at0, rfl, _, rfl, iteD (by decide) ?_⟩
    exact ⟨_, rfl, _, _, _, _, rfl, rfl, SqT.of ha, at1, q _ (Same.refl _)⟩
  | word y =>
    obtain ⟨a, rfl, ha⟩ := de
    obtain ⟨kvs, hs, al⟩ := hst
    refine ⟨_, rfl, _, _, _, _, rfl, rfl, SqT.of ha, at0, rfl, _, rfl, iteDF (by decide) ?_⟩
    refine ⟨_, rfl, _, _, _, _, rfl, rfl, SqT.of ha, at0, rfl, _, rfl, iteD (by decide) ?_⟩
    refine ⟨_, rfl, ss, rfl, .inl ⟨kvs, .inl hs⟩, _, rfl, _, _, _, _, rfl, rfl, SqT.of ha, at1, _, dgetN_k hs rfl, ?_⟩
    have e : (valV kvs (Sum.inr y)).getD (.int 0) = .int (evE st env (.word y)) := by
      show _ = V.int ((alook st y).getD 0)
      cases z : alook st y with
      | none => rw [al.none inr_inj y z]; rfl
      | some x =>
        obtain ⟨u, h1, h2⟩ := al.look inr_inj y z
        rw [h1, h2]; rfl
    rw [e]
    exact q _ (Same.refl _)
  | loc y =>
    obtain ⟨a, rfl, ha⟩ := de
    obtain ⟨kvs, hs, al⟩ := henv
    refine ⟨_, rfl, _, _, _, _, rfl, rfl, SqT.of ha, at0, rfl, _, rfl, iteDF (by decide) ?_⟩
    refine ⟨_, rfl, _, _, _, _, rfl, rfl, SqT.of ha, at0, rfl, _, rfl, iteDF (by decide) ?_⟩
    refine ⟨_, rfl, _, _, _, _, rfl, rfl, SqT.of ha, at0, rfl, _, rfl, iteD (by decide) ?_⟩
    obtain ⟨x, z⟩ := eo y wf.2
    obtain ⟨u, h1, h2⟩ := al.look inr_inj y z
    refine ⟨_, rfl, _, rfl, _, _, _, _, rfl, rfl, SqT.of ha, at1, es, u, rfl, dget_k hs h1, ?_⟩
    have e : evE st env (.loc y) = x := by
      show (alook env y).getD 0 = x
      rw [z]; rfl
    rw [e] at q
    rw [h2]
    exact q _ (Same.refl _)
  | op o l r =>
    obtain ⟨a, vl, vr, rfl, ha, dl, dr⟩ := de
    have h1 : l.dep < n := by
      have := hd
      simp only [Exp.dep] at this
      omega
    have h2 : r.dep < n := by
      have := hd
      simp only [Exp.dep] at this
      omega
    refine ⟨_, rfl, _, _, _, _, rfl, rfl, SqT.of ha, at0, rfl, _, rfl, iteDF (by decide) ?_⟩
    refine ⟨_, rfl, _, _, _, _, rfl, rfl, SqT.of ha, at0, rfl, _, rfl, iteDF (by decide) ?_⟩
    refine ⟨_, rfl, _, _, _, _, rfl, rfl, SqT.of ha, at0, rfl, _, rfl, iteDF (by decide) ?_⟩
    refine ⟨_, rfl, _, _, _, _, rfl, rfl, SqT.of ha, at2, _, rfl, _, rfl, vl, ss, es, l, st, env, L, rfl, dl, hst, henv, bs, be, eo, wf.2.1, h1, fun H1 s1 => ?_⟩
    have ha1 := s1 _ _ ha
    refine ⟨_, rfl, _, _, _, _, rfl, rfl, SqT.of ha1, at1, _, rfl, _, rfl, _, _, _, _, rfl, rfl, SqT.of ha1, at3, _, rfl, _, rfl, vr, ss, es, r, st, env, L, rfl, dr.mono (Tk.same s1), hst.same s1, henv.same s1, bs, be, eo, wf.2.2, h2, fun H2 s2 => ?_⟩
    exact ⟨o, _, _, rfl, evE_in bs be wf.2.1, evE_in bs be wf.2.2, fun H3 s3 => q _ (s1.trans (s2.trans s3))⟩
theorem ok_law_value (T : Txt w K mg) (C_law_operated : C8.Cal P w K mg base 1 "_law_operated" spLOp []) : ∀ n : Nat, C8.Cal P w K mg base (1 + n) "_law_value" (spLVal n) []
  | 0 => T.f_law_value.none fun vs H Q E h => by
    obtain ⟨_, _, _, _, _, _, _, _, _, _, _, _, _, _, _, h, _⟩ := h
    omega
  | n + 1 => law_value_1 (k := 1 + n) T (by omega) C_law_operated (ok_law_value T C_law_operated n)
end
end K11
set_option Elab.async false
set_option linter.all false
set_option maxRecDepth 100000
set_option maxHeartbeats 4000000
namespace K11
open PySem PySem.Spec PyProof.Rows L2
/-- the deeds of the law, at values: name and result -/
def DL (H : Hp) (ds : List (Nm × Int)) (vs : List V) : Prop := Paired (fun (d : Nm × Int) v => ∃ t na kd e1 e2 e3 e4, v = V.ref t ∧ H t = some (.tup [.ref na, kd, e1, e2, e3, .int d.2, e4]) ∧ NM H d.1 na) ds vs
theorem DL.mono {H H' : Hp} (k : Tk H H') {ds : List (Nm × Int)} {vs : List V} (h : DL H ds vs) : DL H' ds vs := Paired.mapP h fun _ _ ⟨t, na, kd, e1, e2, e3, e4, a, b, c⟩ => ⟨t, na, kd, e1, e2, e3, e4, a, k _ _ b, c.mono k⟩
def LD (H : Hp) (ds : List (Nm × Int)) (a : Addr) : Prop := ∃ vs, H a = some (.lst vs) ∧ DL H ds vs
section
variable {P : Program} {w : World} {K : PySem.W.Frag} {mg : Str → Option Value} {base : Heap}
def spLRead (n : Nat) : Sp := fun vs H Q _ => ∃ (v : V) (x : Exp), vs = [v] ∧ DE H x v ∧ x.dep < n ∧ n ≤ 5 ∧ ∀ H' a (ws : List Str), Same H H' → H' a = some (.lst (ws.map V.str)) → ws.length ≤ 2 ^ x.dep → Q (.ref a) H'
theorem sc_law_read_words : FnScope ["_law_expression_here", "_law_name"] ["_law_expression_here"] (defScope s_law_read_words) := ⟨rfl, rfl, rfl, by decide +kernel, rfl, by decide +kernel, by decide +kernel⟩
theorem law_read_1 {k n : Nat} (T : Txt w K mg) (C_law_read_words : C8.Cal P w K mg base k "_law_read_words" (spLRead n) []) : C8.Cal P w K mg base (k + 1) "_law_read_words" (spLRead (n + 1)) [] := by
  refine T.f_law_read_words.cal sc_law_read_words (fun vs H Q E h => by obtain ⟨_, _, rfl, _⟩ := h; rfl) fun f cdv A outer s H vs Q E hr h => ?_
  obtain ⟨v, x, rfl, de, hd, h5, q⟩ := h
  refine ⟨_, (pss_cons (ps_if (pt_cmpR op_eq (pe_ix (kix_tup K rfl) (pv 0) pe_int (fun _ _ => rfl)) pe_str (nomark _)) (pss_one (ps_ret (pe_lst (pa_cons (pe_ix (kix_tup K rfl) (pv 0) pe_int (fun _ _ => rfl)) pa_nil)))) pss_nil) 
    (pss_cons (ps_if (pt_cmpR op_ne (pe_ix (kix_tup K rfl) (pv 0) pe_int (fun _ _ => rfl)) pe_str (nomark _)) (pss_one (ps_ret (pe_lst pa_nil))) pss_nil) 
    (pss_one (ps_ret (pe_callB (kcr_srt K rfl hr.units) (by rfl) T.z_sorted (by decide +kernel) (pa_cons (pe_lc (own := [("_law_name", 1)]) rfl sc_law_read_words.nd (pi_list (pe_op op_cat (C8.pe_c C_law_read_words hr (by omega) rfl (pa_cons (pe_ix (kix_tup K rfl) (pv 0) pe_int (fun _ _ => rfl)) pa_nil)) (C8.pe_c C_law_read_words hr (by omega) rfl (pa_cons (pe_ix (kix_tup K rfl) (pv 0) pe_int (fun _ _ => rfl)) pa_nil)))) (blkOk_by (N := ["_law_expression_here", "_law_name"]) (sc := defScope s_law_read_words) (by decide +kernel)) (fun _ _ _ _ _ => (pg_name (i := 1) sc_law_read_words.nd rfl (Or.inl rfl))) (fun _ _ _ _ _ => pts_nil) (fun _ _ _ _ _ => (pe_callTy SkE.call_str_str (by rfl) T.z_str (by decide +kernel) (pa_cons (pv 1) pa_nil)))) pa_nil)))))), ?_⟩
  cases x with
  | num n =>
    obtain ⟨a, rfl, ha⟩ := de
    refine ⟨_, rfl, _, _, _, _, rfl, rfl, SqT.of ha, at0, rfl, _, rfl, iteDF (by decide) ⟨_, rfl, _, _, _, _, rfl, rfl, SqT.of ha, at0, rfl, _, rfl, iteNF (by decide) ⟨Nat.zero_le _, fun p hp => q _ p [] (same_new hp _) upd_same (Nat.zero_le _)⟩⟩⟩
  | word y =>
    obtain ⟨a, rfl, ha⟩ := de
    exact ⟨_, rfl, _, _, _, _, rfl, rfl, SqT.of ha, at0, rfl, _, rfl, iteD (by decide) ⟨_, rfl, _, _, _, _, rfl, rfl, SqT.of ha, at1, le_line (by show 1 ≤ 1000; decide), fun p hp => q _ p [y] (same_new hp _) upd_same (Nat.le_refl _)⟩⟩
  | loc y =>
    obtain ⟨a, rfl, ha⟩ := de
    refine ⟨_, rfl, _, _, _, _, rfl, rfl, SqT.of ha, at0, rfl, _, rfl, iteDF (by decide) ⟨_, rfl, _, _, _, _, rfl, rfl, SqT.of ha, at0, rfl, _, rfl, iteNF (by decide) ⟨Nat.zero_le _, fun p hp => q _ p [] (same_new hp _) upd_same (Nat.zero_le _)⟩⟩⟩
  | op o l r =>
    obtain ⟨a, vl, vr, rfl, ha, dl, dr⟩ := de
    have h1 : l.dep < n := by
      have := hd
      simp only [Exp.dep] at this
      omega
    have h2 : r.dep < n := by
      have := hd
      simp only [Exp.dep] at this
      omega
    refine ⟨_, rfl, _, _, _, _, rfl, rfl, SqT.of ha, at0, rfl, _, rfl, iteDF (by decide) ⟨_, rfl, _, _, _, _, rfl, rfl, SqT.of ha, at0, rfl, _, rfl, iteN (by decide) ?_⟩⟩
    refine ⟨_, rfl, _, _, _, _, rfl, rfl, SqT.of ha, at2, vl, l, rfl, dl, h1, by omega, fun H1 a1 w1 s1 e1 l1 => ?_⟩
    have ha1 := s1 _ _ ha
    refine ⟨_, rfl, _, _, _, _, rfl, rfl, SqT.of ha1, at3, vr, r, rfl, dr.mono (Tk.same s1), h2, by omega, fun H2 a2 w2 s2 e2 l2 => ?_⟩
    have e16 : ∀ m, m < 5 → 2 ^ m ≤ 16 := by decide
    have p1 := e16 l.dep (by omega)
    have p2 := e16 r.dep (by omega)
    have lo : w1.length + w2.length ≤ 2 ^ (Exp.op o l r).dep := by
      have m1 : 2 ^ l.dep ≤ 2 ^ (max l.dep r.dep) := Nat.pow_le_pow_right (by decide) (Nat.le_max_left _ _)
      have m2 : 2 ^ r.dep ≤ 2 ^ (max l.dep r.dep) := Nat.pow_le_pow_right (by decide) (Nat.le_max_right _ _)
      show _ ≤ 2 ^ (max l.dep r.dep + 1)
      rw [Nat.pow_succ]
      omega
    refine ⟨a1, a2, w1.map V.str, w2.map V.str, rfl, rfl, s2 _ _ e1, e2, le_line (by rw [List.length_map, List.length_map]; omega), fun p3 hp3 => ?_⟩
    have s3 := same_new hp3 (.lst (w1.map V.str ++ w2.map V.str))
    have e3 : upd H2 p3 (.lst (w1.map V.str ++ w2.map V.str)) p3 = some (.lst ((w1 ++ w2).map V.str)) := by rw [upd_same, List.map_append]
    generalize upd H2 p3 (.lst (w1.map V.str ++ w2.map V.str)) = H3 at s3 e3
    refine ⟨p3, rfl, ⟨_, SqL.of e3⟩, fun D hD => lc_list (xs := (w1 ++ w2).map V.str) (fun i H' => Same H3 H' ∧ H' D = some (.lst (((w1 ++ w2).take i).map V.str))) ⟨same_new hD _, upd_same⟩ (fun i H' _ h => SqL.of (h.1 _ _ e3)) (fun i x H' hx h => ?_) fun H' h => ?_⟩
    · obtain ⟨s4, hacc⟩ := h
      rw [List.getElem?_map] at hx
      cases ex : (w1 ++ w2)[i]? with
      | none => rw [ex] at hx; cases hx
      | some y =>
        rw [ex] at hx
        cases hx
        have hi : i < (w1 ++ w2).length := (List.getElem?_eq_some_iff.mp ex).1
        rw [List.length_append] at hi
        have et : (w1 ++ w2).take (i + 1) = (w1 ++ w2).take i ++ [y] := by rw [List.take_succ, ex]; rfl
        refine ⟨rfl, _, rfl, y, rfl, _, hacc, lt_line (by rw [List.length_map, List.length_take]; omega), same_put hD s4 _, ?_⟩
        rw [upd_same, et, List.map_append]
        rfl
    · obtain ⟨s4, hacc⟩ := h
      rw [List.length_map, List.take_length] at hacc
      refine ⟨D, w1 ++ w2, rfl, SqL.of hacc, fun p5 hp5 => ?_⟩
      exact q _ p5 (srt (w1 ++ w2)) (s1.trans (s2.trans (s3.trans (s4.trans (same_new hp5 _))))) upd_same (by rw [len_srt, List.length_append]; exact lo)
theorem ok_law_read_words (T : Txt w K mg) : ∀ n : Nat, C8.Cal P w K mg base n "_law_read_words" (spLRead n) []
  | 0 => T.f_law_read_words.none fun vs H Q E h => by
    obtain ⟨_, _, _, _, h, _⟩ := h
    omega
  | n + 1 => law_read_1 T (ok_law_read_words T n)
def spLOnce : Sp := fun vs H Q _ => ∃ (a : Addr) (xs : List V), vs = [.ref a] ∧ H a = some (.lst xs) ∧ (∀ x ∈ xs, ∀ y ∈ xs, scal x y = true) ∧ xs.length ≤ 100 ∧ ∀ H' b ys, Same H H' → H' b = some (.lst ys) → Q (.ref b) H'
theorem sc_law_once : FnScope ["_law_row", "_law_kept", "_law_k"] ["_law_row"] (defScope s_law_once) := ⟨rfl, rfl, rfl, by decide +kernel, rfl, by decide +kernel, by decide +kernel⟩
theorem ok_law_once (T : Txt w K mg) : C8.Cal P w K mg base 1 "_law_once" spLOnce [] := by
  refine T.f_law_once.cal sc_law_once (fun vs H Q E h => by obtain ⟨_, _, rfl, _⟩ := h; rfl) fun f cdv A outer s H vs Q E hr h => ?_
  obtain ⟨a, xs, rfl, ha, hsc, h100, q⟩ := h
  refine ⟨_, (pss_cons (ps_set (i := 1) sc_law_once.nd rfl (Or.inl rfl) (pe_lst pa_nil)) 
    (pss_cons (ps_for PassesOwn.never rfl (pi_range1 rfl T.z_range (pa_cons (pe_callB (klen_seq K rfl) (by rfl) T.z_len (by decide +kernel) (pa_cons (pv 0) pa_nil)) pa_nil)) (pg_name (i := 2) sc_law_once.nd rfl (Or.inl rfl)) (pss_one (ps_if (PW.pt (pw_or (pt_cmpR op_eq (pv 2) pe_int (nomark _)) (pw_or1 (pt_cmpR op_ne (pe_ix (kix_list K rfl) (pv 0) (pv 2) (fun _ _ => rfl)) (pe_ix (kix_list K rfl) (pv 0) (pe_op op_sub (pv 2) pe_int) (fun _ _ => rfl)) (nomark _))))) (pss_one (ps_expr (pe_bm PySem.F.plainAttrs_list PySem.F.slot_list_append PySem.F.type_list_append mt_append (pv 1) (pa_cons (pe_ix (kix_list K rfl) (pv 0) (pv 2) (fun _ _ => rfl)) pa_nil)))) pss_nil))) 
    (pss_one (ps_ret (pv 1))))), ?_⟩
  refine ⟨Nat.zero_le _, fun D hD => ⟨_, rfl, a, xs, rfl, .inl (SqL.of ((same_new hD (.lst [])) _ _ ha)), (xs.length : Int), rfl, by omega, by omega, ?_⟩⟩
  rw [show ((xs.length : Int)).toNat = xs.length by omega]
  have nDa : D ≠ a := fun z => by rw [z, ha] at hD; cases hD
  refine for_range (lo := 0) (n := xs.length) (fun i σ H' => (∃ c, σ = [some (.ref a), some (.ref D), c]) ∧ Same H H' ∧ ∃ acc, H' D = some (.lst acc) ∧ acc.length ≤ i) ⟨⟨_, rfl⟩, same_new hD _, [], upd_same, Nat.le_refl _⟩ (fun i σ H' hi h => ?_) fun σ H' h => ?_
  · obtain ⟨⟨c, rfl⟩, s1, acc, hacc, hl⟩ := h
    have ha1 := s1 _ _ ha
    have z0 : (0 : Int) + (i : Nat) = (i : Int) := by omega
    rw [z0]
    have hx : xs[i]? = some xs[i] := List.getElem?_eq_getElem hi
    have hx2 := atI_nat hx
    have put : ∃ l ys y, (V.ref D) = .ref l ∧ [xs[i]] = [y] ∧ H' l = some (.lst ys) ∧ ys.length < sizeLine ∧ (∃ c, [some (V.ref a), some (.ref D), some (.int (i : Int))] = [some (V.ref a), some (.ref D), c]) ∧ Same H (upd H' l (.lst (ys ++ [y]))) ∧ ∃ acc, upd H' l (.lst (ys ++ [y])) D = some (.lst acc) ∧ acc.length ≤ i + 1 :=
      ⟨D, acc, xs[i], rfl, rfl, hacc, lt_line (by omega), ⟨_, rfl⟩, same_put hD s1 _, _, upd_same, by rw [List.length_append]; show acc.length + 1 ≤ i + 1; omega⟩
    refine ⟨_, rfl, rfl, _, rfl, ?_⟩
    by_cases c0 : i = 0
    · refine iteD (by rw [c0]; rfl) (iteT ⟨_, rfl, .inl ⟨rfl, _, SqL.of hacc⟩, _, rfl, _, rfl, _, _, _, _, rfl, rfl, SqL.of ha1, hx2, put⟩)
    · obtain ⟨j, rfl⟩ : ∃ j, i = j + 1 := ⟨i - 1, by omega⟩
      have hj : xs[j]? = some xs[j] := List.getElem?_eq_getElem (by omega)
      refine iteDF (fun z => by have := V.int.inj z; omega) ⟨_, rfl, _, rfl, _, _, _, _, rfl, rfl, SqL.of ha1, hx2, _, rfl, _, rfl, _, _, rfl, rfl, _, _, _, _, rfl, rfl, SqL.of ha1, ?_, hsc _ (List.mem_of_getElem? hx) _ (List.mem_of_getElem? hj), _, rfl, ?_⟩
      · rw [show ((j + 1 : Nat) : Int) - 1 = (j : Int) by omega]
        exact atI_nat hj
      · by_cases e : xs[j + 1] = xs[j]
        · rw [decide_eq_true e]
          exact iteF ⟨⟨_, rfl⟩, s1, acc, hacc, by omega⟩
        · rw [decide_eq_false e]
          exact iteT ⟨_, rfl, .inl ⟨rfl, _, SqL.of hacc⟩, _, rfl, _, rfl, _, _, _, _, rfl, rfl, SqL.of ha1, hx2, put⟩
  · obtain ⟨⟨c, rfl⟩, s1, acc, hacc, hl⟩ := h
    exact ⟨_, rfl, q _ D acc s1 hacc⟩
def spLDeed : Sp := fun vs H Q _ => ∃ (da na ra sa ja ba : Addr) (kd : Str) (r : Int) (ds : List (Nm × Int)) (n : Nm) (ws : List Str) (sv jv : List V) (ks : List Int),
  vs = [.ref da, .ref na, .str kd, .ref ra, .ref sa, .ref ja, .int r, .ref ba] ∧ LD H ds da ∧ ds.length + 10 < sizeLine ∧ NM H n na ∧ H ra = some (.lst (ws.map V.str)) ∧ ws.length ≤ 30 ∧ H sa = some (.lst sv) ∧ H ja = some (.lst jv) ∧ H ba = some (.lst (ks.map V.int)) ∧ ks.length ≤ 30 ∧
  ∀ H', Kp [da] H H' → LD H' (ds ++ [(n, r)]) da → Q (.int (ds.length : Nat)) H'
theorem sc_law_deed : FnScope ["_law_deeds", "_law_name", "_law_kind", "_law_reads", "_law_sets", "_law_joins", "_law_result", "_law_behind", "_law_k"] ["_law_deeds", "_law_name", "_law_kind", "_law_reads", "_law_sets", "_law_joins", "_law_result", "_law_behind"] (defScope s_law_deed) := ⟨rfl, rfl, rfl, by decide +kernel, rfl, by decide +kernel, by decide +kernel⟩
theorem ok_law_deed (T : Txt w K mg) (C_law_once : C8.Cal P w K mg base 1 "_law_once" spLOnce []) : C8.Cal P w K mg base 2 "_law_deed" spLDeed [] := by
  refine T.f_law_deed.cal sc_law_deed (fun vs H Q E h => by obtain ⟨_, _, _, _, _, _, _, _, _, _, _, _, _, _, rfl, _⟩ := h; rfl) fun f cdv A outer s H vs Q E hr h => ?_
  obtain ⟨da, na, ra, sa, ja, ba, kd, r, ds, n, ws, sv, jv, ks, rfl, ⟨dv, hda, hdl⟩, hz, hn, hra, lw, hsa, hja, hba, lk, q⟩ := h
  refine ⟨_, (pss_cons (ps_set (i := 3) sc_law_deed.nd rfl (Or.inl rfl) (pe_callTy (ktuple_of K rfl) (by rfl) T.z_tuple (by decide +kernel) (pa_cons (C8.pe_c C_law_once hr (by omega) rfl (pa_cons (pv 3) pa_nil)) pa_nil))) 
    (pss_cons (ps_set (i := 7) sc_law_deed.nd rfl (Or.inl rfl) (pe_callTy (ktuple_of K rfl) (by rfl) T.z_tuple (by decide +kernel) (pa_cons (C8.pe_c C_law_once hr (by omega) rfl (pa_cons (pe_callB cr_sorted (by rfl) T.z_sorted (by decide +kernel) (pa_cons (pe_lc (own := [("_law_k", 8)]) rfl sc_law_deed.nd (pi_list (pv 7)) (blkOk_by (N := ["_law_deeds", "_law_name", "_law_kind", "_law_reads", "_law_sets", "_law_joins", "_law_result", "_law_behind", "_law_k"]) (sc := defScope s_law_deed) (by decide +kernel)) (fun _ _ _ _ _ => (pg_name (i := 8) sc_law_deed.nd rfl (Or.inl rfl))) (fun _ _ _ _ _ => pts_one (pt_cmpR op_ge (pv 8) pe_int (nomark _))) (fun _ _ _ _ _ => (pe_callTy call_int1 (by rfl) T.z_int (by decide +kernel) (pa_cons (pv 8) pa_nil)))) pa_nil)) pa_nil)) pa_nil))) 
    (pss_cons (ps_expr (pe_bm PySem.F.plainAttrs_list PySem.F.slot_list_append PySem.F.type_list_append mt_append (pv 0) (pa_cons (pe_tup (pa_cons (pv 1) (pa_cons (pv 2) (pa_cons (pv 3) (pa_cons (pe_callTy (ktuple_of K rfl) (by rfl) T.z_tuple (by decide +kernel) (pa_cons (pv 4) pa_nil)) (pa_cons (pe_callTy (ktuple_of K rfl) (by rfl) T.z_tuple (by decide +kernel) (pa_cons (pv 5) pa_nil)) (pa_cons (pv 6) (pa_cons (pv 7) pa_nil)))))))) pa_nil))) 
    (pss_one (ps_ret (pe_op op_sub (pe_callB (klen_seq K rfl) (by rfl) T.z_len (by decide +kernel) (pa_cons (pv 0) pa_nil)) pe_int)))))), ?_⟩
  refine ⟨_, rfl, ra, ws.map V.str, rfl, hra, ?_, by rw [List.length_map]; omega, fun H1 b1 y1 s1 e1 => ?_⟩
  · intro x hx y hy
    obtain ⟨a, _, rfl⟩ := List.mem_map.mp hx
    obtain ⟨b, _, rfl⟩ := List.mem_map.mp hy
    rfl
  refine ⟨b1, y1, rfl, .inl ⟨SqL.of e1, fun l2 hl2 => ?_⟩⟩
  have s2 := s1.trans (same_new hl2 (.tup y1))
  generalize upd H1 l2 (.tup y1) = H2 at s2
  have hba2 := s2 _ _ hba
  refine ⟨_, rfl, ba, rfl, ⟨_, SqL.of hba2⟩, fun D hD => lc_list (xs := ks.map V.int) (fun i H' => Same H2 H' ∧ ∃ js : List Int, H' D = some (.lst (js.map V.int)) ∧ js.length ≤ i) ⟨same_new hD _, [], upd_same, Nat.le_refl _⟩ (fun i H' _ h => SqL.of (h.1 _ _ hba2)) (fun i x H' hx h => ?_) fun H3 h => ?_⟩
  · obtain ⟨s3, js, hacc, hl⟩ := h
    rw [List.getElem?_map] at hx
    have hi : i < ks.length := by
      cases ex : ks[i]? with
      | none => rw [ex] at hx; cases hx
      | some y => exact (List.getElem?_eq_some_iff.mp ex).1
    cases ex : ks[i]? with
    | none => rw [ex] at hx; cases hx
    | some y =>
      rw [ex] at hx
      cases hx
      refine ⟨rfl, _, rfl, _, _, rfl, rfl, _, rfl, ?_⟩
      by_cases c : (0 : Int) ≤ y
      · refine iteD c ⟨_, rfl, .inl ⟨_, rfl, _, hacc, lt_line (by rw [List.length_map]; omega), same_put hD s3 _, js ++ [y], ?_, by rw [List.length_append]; show js.length + 1 ≤ i + 1; omega⟩⟩
        rw [upd_same, List.map_append]
        rfl
      · exact iteDF c ⟨s3, js, hacc, by omega⟩
  obtain ⟨s3, js, hacc, hl⟩ := h
  rw [List.length_map] at hl
  refine ⟨D, js, rfl, SqL.of hacc, by omega, fun js' p4 pm _ hp4 => ?_⟩
  have s4 := same_new hp4 (.lst (js'.map V.int))
  have s24 := s2.trans (s3.trans s4)
  have e4 : upd H3 p4 (.lst (js'.map V.int)) p4 = some (.lst (js'.map V.int)) := upd_same
  generalize upd H3 p4 (.lst (js'.map V.int)) = H4 at s24 e4
  refine ⟨p4, js'.map V.int, rfl, e4, ?_, by rw [List.length_map, pm.length_eq]; omega, fun H5 b5 y5 s5 e5 => ?_⟩
  · intro x hx y hy
    obtain ⟨a, _, rfl⟩ := List.mem_map.mp hx
    obtain ⟨b, _, rfl⟩ := List.mem_map.mp hy
    rfl
  refine ⟨b5, y5, rfl, .inl ⟨SqL.of e5, fun l6 hl6 => ?_⟩⟩
  have s6 := s24.trans (s5.trans (same_new hl6 (.tup y5)))
  generalize upd H5 l6 (.tup y5) = H6 at s6
  refine ⟨_, rfl, .inl ⟨rfl, _, SqL.of (s6 _ _ hda)⟩, _, rfl, _, rfl, _, rfl, _, rfl, sa, sv, rfl, .inl ⟨SqL.of (s6 _ _ hsa), fun l7 hl7 => ?_⟩⟩
  have s7 := s6.trans (same_new hl7 (.tup sv))
  generalize upd H6 l7 (.tup sv) = H7 at s7
  refine ⟨_, rfl, ja, jv, rfl, .inl ⟨SqL.of (s7 _ _ hja), fun l8 hl8 => ?_⟩⟩
  have s8 := s7.trans (same_new hl8 (.tup jv))
  generalize upd H7 l8 (.tup jv) = H8 at s8
  refine ⟨_, rfl, _, rfl, le_line (by show 7 ≤ 1000; decide), fun t ht => ?_⟩
  have s9 := s8.trans (same_new ht (.tup [V.ref na, V.str kd, V.ref l2, V.ref l7, V.ref l8, V.int r, V.ref l6]))
  have e9 : upd H8 t (.tup [V.ref na, V.str kd, V.ref l2, V.ref l7, V.ref l8, V.int r, V.ref l6]) t = some (.tup [V.ref na, V.str kd, V.ref l2, V.ref l7, V.ref l8, V.int r, V.ref l6]) := upd_same
  generalize upd H8 t (.tup [V.ref na, V.str kd, V.ref l2, V.ref l7, V.ref l8, V.int r, V.ref l6]) = H9 at s9 e9
  have hd9 := s9 _ _ hda
  have ll : ds.length = dv.length := Paired.length hdl
  have k10 : Tk H9 (upd H9 da (.lst (dv ++ [V.ref t]))) := tk_upd fun vs e => by rw [hd9] at e; cases e
  refine ⟨da, dv, _, rfl, rfl, hd9, by omega, _, rfl, da, _, rfl, .inl (SqL.of upd_same), _, _, rfl, rfl, ?_⟩
  show Q (.int ((((dv ++ [V.ref t]).length : Nat) : Int) - 1)) _
  rw [show (((dv ++ [V.ref t]).length : Nat) : Int) - 1 = (ds.length : Nat) by rw [List.length_append, List.length_singleton, ll]; omega]
  refine q _ ((Kp.same s9).trans (Kp.upd (by simp))) ⟨_, upd_same, paired_app (hdl.mono ((Tk.same s9).trans k10)) (.cons ⟨t, na, _, _, _, _, _, rfl, k10 _ _ e9, (hn.mono (Tk.same s9)).mono k10⟩ .nil)⟩
end
end K11
set_option Elab.async false
set_option linter.all false
set_option maxRecDepth 100000
set_option maxHeartbeats 4000000
namespace K11
open PySem PySem.Spec PyProof.Rows L2
theorem LD.len {H : Hp} {ds : List (Nm × Int)} {a : Addr} (h : LD H ds a) : ∃ vs, H a = some (.lst vs) ∧ DL H ds vs ∧ vs.length = ds.length := h.elim fun vs q => ⟨vs, q.1, q.2, (Paired.length q.2).symm⟩
theorem LD.tk {H H' : Hp} {ds : List (Nm × Int)} {a : Addr} (h : LD H ds a) (k : Kp [a] H H') : Tk H H' := fun b vs e => k b _ e fun z => by
  rw [List.mem_singleton] at z
  obtain ⟨xs, q, _⟩ := h
  rw [← z, e] at q
  cases q
theorem LD.same {H H' : Hp} {ds : List (Nm × Int)} {a : Addr} (h : LD H ds a) (s : Same H H') : LD H' ds a := h.elim fun vs q => ⟨vs, s _ _ q.1, q.2.mono (Tk.same s)⟩
theorem LD.st {H H' : Hp} {ds : List (Nm × Int)} {a b : Addr} {st : Sto} (h : LD H ds a) (k : Kp [a] H H') (hs : ST H st b) : ST H' st b := hs.kp k fun z => by
  rw [List.mem_singleton] at z
  obtain ⟨xs, q, _⟩ := h
  obtain ⟨kv, q2, _⟩ := hs
  rw [← z, q2] at q
  cases q
theorem LD.put {H H' : Hp} {ds : List (Nm × Int)} {a b : Addr} {kv kv2 : List (Key × V)} (h : LD H ds a) (e : H b = some (.dK kv)) (he : H' = upd H b (.dK kv2)) : LD H' ds a := by
  subst he
  obtain ⟨vs, q1, q2⟩ := h
  refine ⟨vs, ?_, q2.mono (tk_upd fun ws z => by rw [e] at z; cases z)⟩
  rw [upd_ne]
  · exact q1
  · intro z
    rw [z, e] at q1
    cases q1
theorem DL.get {H : Hp} : ∀ {ds : List (Nm × Int)} {vs : List V}, DL H ds vs → ∀ {i : Nat} {d : Nm × Int}, ds[i]? = some d → ∃ t na kd e1 e2 e3 e4, vs[i]? = some (.ref t) ∧ H t = some (.tup [.ref na, kd, e1, e2, e3, .int d.2, e4]) ∧ NM H d.1 na
  | _, _, .nil, i, d, e => by simp at e
  | _, _, .cons ⟨t, na, kd, e1, e2, e3, e4, ev, h, hn⟩ r, 0, d, e => by
    simp at e
    subst e
    subst ev
    exact ⟨t, na, kd, e1, e2, e3, e4, rfl, h, hn⟩
  | _, _, .cons _ r, i + 1, d, e => by
    obtain ⟨t, na, kd, e1, e2, e3, e4, a, b, c⟩ := DL.get (i := i) r (by simpa using e)
    exact ⟨t, na, kd, e1, e2, e3, e4, by simpa using a, b, c⟩
theorem parts_len1 : ∀ (k lo hi : Nat), lo < hi → hi < lo + k → 0 < (parts k lo hi).length := fun k lo hi h1 h2 => List.length_pos_of_mem (pr_mem k lo hi h1 h2)
theorem parts_last : ∀ (k lo hi : Nat), lo < hi → hi < lo + k → ∃ a, parts k lo hi = a ++ [pr lo hi]
  | 0, _, _, h1, h2 => by omega
  | k + 1, lo, hi, h1, h2 => by
    unfold parts pr
    split
    · have e : hi = lo + 1 := by omega
      subst e
      rw [if_pos rfl, show lo + 1 - lo = 1 by omega]
      exact ⟨[], by simp⟩
    · rw [if_neg (by omega)]
      exact ⟨_, rfl⟩
section
variable {P : Program} {w : World} {K : PySem.W.Frag} {mg : Str → Option Value} {base : Heap}
def spLFold (k : Nat) : Sp := fun vs H Q _ => ∃ (da na wa ea : Addr) (v : V) (f : Int) (lo hi : Nat) (y o i : Str) (e l : Exp) (ds : List (Nm × Int)) (n : Nm) (st env : Sto) (L : List Str),
  vs = [.ref da, v, .ref na, .int f, .int (lo : Int), .int (hi : Int), .ref wa, .ref ea] ∧ DS H (.fold y o i e l) v ∧ LD H ds da ∧ NM H n na ∧ n.length ≤ 40 ∧ lo < hi ∧ hi < lo + k ∧ hi < 7 ∧ k ≤ 7 ∧ ST H st wa ∧ ST H env ea ∧ BV st ∧ BV env ∧ EnvOk env L ∧ WFE (L ++ [i]) l ∧ l.dep < 3 ∧ env.length ≤ 200 ∧
  ds.length + 10 + 2 * (hi - lo) < sizeLine ∧ ∀ H', Kp [da] H H' → LD H' (ds ++ (parts k lo hi).map fun p => (n ++ p, partR st env o i l p)) da → Q (.int ((ds.length + (parts k lo hi).length - 1 : Nat) : Int)) H'
theorem sc_law_fold_run : FnScope ["_law_deeds", "_law_statement_here", "_law_name", "_law_first", "_law_low", "_law_high", "_law_words_here", "_law_local_values", "_law_inner", "_law_value_here", "_law_middle", "_law_left", "_law_right"] ["_law_deeds", "_law_statement_here", "_law_name", "_law_first", "_law_low", "_law_high", "_law_words_here", "_law_local_values"] (defScope s_law_fold_run) := ⟨rfl, rfl, rfl, by decide +kernel, rfl, by decide +kernel, by decide +kernel⟩
theorem law_fold_1 {k kl : Nat} (T : Txt w K mg) (hkl : 5 ≤ kl) (C_law_value : C8.Cal P w K mg base 4 "_law_value" (spLVal 3) []) (C_law_read_words : C8.Cal P w K mg base 3 "_law_read_words" (spLRead 3) []) (C_law_operated : C8.Cal P w K mg base 1 "_law_operated" spLOp [])
    (C_law_deed : C8.Cal P w K mg base 2 "_law_deed" spLDeed []) (C_law_fold_run : C8.Cal P w K mg base kl "_law_fold_run" (spLFold k) []) : C8.Cal P w K mg base (kl + 1) "_law_fold_run" (spLFold (k + 1)) [] := by
  refine T.f_law_fold_run.cal sc_law_fold_run (fun vs H Q E h => by obtain ⟨_, _, _, _, _, _, _, _, _, _, _, _, _, _, _, _, _, _, rfl, _⟩ := h; rfl) fun fa cdv A outer s H vs Q E hr h => ?_
  obtain ⟨da, na, wa, ea, v, f, lo, hi, y, o, i, e, l, ds, n, st, env, L, rfl, ⟨sa, ve, vl, rfl, hsa, hde, hdl⟩, hD, hn, nl, hlt, hk, h7, k7, hst, henv, bs, be, eo, wl, hl, el, hz, q⟩ := h
  refine ⟨_, (pss_cons (ps_if (pt_cmpR op_eq (pv 5) (pe_op op_add (pv 4) pe_int) (nomark _)) 
      (pss_cons (ps_set (i := 8) sc_law_fold_run.nd rfl (Or.inl rfl) (pe_callTy call_dictD (by rfl) T.z_dict (by decide +kernel) (pa_cons (pv 7) pa_nil))) 
      (pss_cons (ps_dput (hu_of hr) (pv 8) (pe_ix (kix_tup K rfl) (pv 1) pe_int (fun _ _ => rfl)) (pv 4) rfl) 
      (pss_cons (ps_set (i := 9) sc_law_fold_run.nd rfl (Or.inl rfl) (C8.pe_c C_law_value hr (by omega) rfl (pa_cons (pe_ix (kix_tup K rfl) (pv 1) pe_int (fun _ _ => rfl)) (pa_cons (pv 6) (pa_cons (pv 8) pa_nil))))) 
      (pss_one (ps_ret (C8.pe_c C_law_deed hr (by omega) rfl (pa_cons (pv 0) (pa_cons (pe_op op_catN (pv 2) (pe_tup (pa_cons (pv 4) pa_nil))) (pa_cons pe_str (pa_cons (C8.pe_c C_law_read_words hr (by omega) rfl (pa_cons (pe_ix (kix_tup K rfl) (pv 1) pe_int (fun _ _ => rfl)) pa_nil)) (pa_cons (pe_lst pa_nil) (pa_cons (pe_lst pa_nil) (pa_cons (pv 9) (pa_cons (pe_lst (pa_cons (pv 3) pa_nil)) pa_nil)))))))))))))) pss_nil) 
    (pss_cons (ps_set (i := 10) sc_law_fold_run.nd rfl (Or.inl rfl) (pe_op op_fdiv (pe_op op_add (pv 4) (pv 5)) pe_int)) 
    (pss_cons (ps_set (i := 11) sc_law_fold_run.nd rfl (Or.inl rfl) (C8.pe_c C_law_fold_run hr (by omega) rfl (pa_cons (pv 0) (pa_cons (pv 1) (pa_cons (pv 2) (pa_cons (pv 3) (pa_cons (pv 4) (pa_cons (pv 10) (pa_cons (pv 6) (pa_cons (pv 7) pa_nil)))))))))) 
    (pss_cons (ps_set (i := 12) sc_law_fold_run.nd rfl (Or.inl rfl) (C8.pe_c C_law_fold_run hr (by omega) rfl (pa_cons (pv 0) (pa_cons (pv 1) (pa_cons (pv 2) (pa_cons (pv 3) (pa_cons (pv 10) (pa_cons (pv 5) (pa_cons (pv 6) (pa_cons (pv 7) pa_nil)))))))))) 
    (pss_cons (ps_set (i := 9) sc_law_fold_run.nd rfl (Or.inl rfl) (C8.pe_c C_law_operated hr (by omega) rfl (pa_cons (pe_ix (kix_tup K rfl) (pv 1) pe_int (fun _ _ => rfl)) (pa_cons (pe_ix (kix_tup K rfl) (pe_ix (kix_list K rfl) (pv 0) (pv 11) (fun _ _ => rfl)) pe_int (fun _ _ => rfl)) (pa_cons (pe_ix (kix_tup K rfl) (pe_ix (kix_list K rfl) (pv 0) (pv 12) (fun _ _ => rfl)) pe_int (fun _ _ => rfl)) pa_nil))))) 
    (pss_one (ps_ret (C8.pe_c C_law_deed hr (by omega) rfl (pa_cons (pv 0) (pa_cons (pe_op op_catN (pv 2) (pe_tup (pa_cons (pv 4) (pa_cons (pv 5) pa_nil)))) (pa_cons pe_str (pa_cons (pe_lst pa_nil) (pa_cons (pe_lst pa_nil) (pa_cons (pe_lst pa_nil) (pa_cons (pv 9) (pa_cons (pe_lst (pa_cons (pv 11) (pa_cons (pv 12) pa_nil))) pa_nil)))))))))))))))), ?_⟩
  refine ⟨_, rfl, _, rfl, _, _, rfl, rfl, rfl, _, rfl, ?_⟩
  by_cases c : hi = lo + 1
  · subst c
    refine iteD (by show V.int _ = V.int _; congr 1) ?_
    obtain ⟨kve, hke, ale⟩ := henv
    refine ⟨_, rfl, ea, kve, rfl, .inl hke, fun p hp => ?_⟩
    have s1 := same_new hp (.dK kve)
    have hp1 : upd H p (.dK kve) p = some (.dK kve) := upd_same
    generalize upd H p (.dK kve) = H1 at s1 hp1
    have hsa1 := s1 _ _ hsa
    refine ⟨_, rfl, _, rfl, _, rfl, _, _, _, _, rfl, rfl, SqT.of hsa1, at3, _, _, rfl, dput_k hp1 (by rw [ale.len]; exact lt_line (by omega)), ?_⟩
    have ST2 : ST (upd H1 p (.dK (putK kve (Sum.inr i) (.int (lo : Int))))) (aput env i (lo : Int)) p := ⟨_, upd_same, ale.put inr_inj rfl⟩
    have k12 : Kp [p] H1 (upd H1 p (.dK (putK kve (Sum.inr i) (.int (lo : Int))))) := Kp.upd (by simp)
    have k02 : Same H (upd H1 p (.dK (putK kve (Sum.inr i) (.int (lo : Int))))) := fun b ob z => by
      rw [upd_ne (fun e => by rw [e, hp] at z; cases z)]
      exact s1 _ _ z
    generalize upd H1 p (.dK (putK kve (Sum.inr i) (.int (lo : Int)))) = H2 at ST2 k12 k02
    have hsa2 := k02 _ _ hsa
    refine ⟨_, rfl, _, _, _, _, rfl, rfl, SqT.of hsa2, at5, _, rfl, _, rfl, vl, wa, p, l, st, aput env i (lo : Int), L ++ [i], rfl, hdl.mono (Tk.same k02), hst.same k02, ST2, bs, bv_put be i (by omega), eo.put i _, wl, hl, fun H3 s3 => ?_⟩
    have k03 := k02.trans s3
    have hsa3 := k03 _ _ hsa
    refine ⟨_, rfl, _, rfl, _, rfl, le_line (by show 1 ≤ 1000; decide), fun t ht => ?_⟩
    have st4 := same_new ht (.tup [V.int (lo : Int)])
    refine ⟨n, [(lo : Int)], na, t, rfl, rfl, (hn.mono (Tk.same k03)).mono (Tk.same st4), upd_same, by simp, by show n.length + 1 ≤ 1000; omega, fun H4 r4 s4 n4 => ?_⟩
    have k04 := k03.trans (st4.trans s4)
    have hsa4 := k04 _ _ hsa
    refine ⟨_, rfl, _, _, _, _, rfl, rfl, SqT.of hsa4, at5, vl, l, rfl, hdl.mono (Tk.same k04), hl, by decide, fun H5 a5 w5 s5 e5 l5 => ⟨Nat.zero_le _, fun p6 hp6 => ⟨Nat.zero_le _, fun p7 hp7 => ?_⟩⟩⟩
    have s6 := same_new hp6 (.lst [])
    have s7 := same_new hp7 (.lst [])
    refine ⟨_, rfl, _, rfl, le_line (by show 1 ≤ 1000; decide), fun p8 hp8 => ?_⟩
    have s8 := same_new hp8 (.lst [V.int f])
    have k58 := s6.trans (s7.trans s8)
    have k48 := s5.trans k58
    have k08 := k04.trans k48
    have l3 : 2 ^ l.dep ≤ 4 := (by decide : ∀ m, m < 3 → 2 ^ m ≤ 4) _ hl
    refine ⟨da, r4, a5, p6, p7, p8, "leaf", evE st (aput env i (lo : Int)) l, ds, n ++ [(lo : Int)], w5, [], [], [f], rfl, hD.same k08, by omega, n4.mono (Tk.same k48), k58 _ _ e5, by omega, (s7.trans s8) _ _ upd_same, s8 _ _ upd_same, upd_same, by show 1 ≤ 30; decide, fun H9 k9 D9 => ?_⟩
    have ep : parts (k + 1) lo (lo + 1) = [[(lo : Int)]] := by
      unfold parts
      rw [if_pos (by omega), show lo + 1 - lo = 1 by omega]
      simp
    have er : partR st env o i l [(lo : Int)] = evE st (aput env i (lo : Int)) l := by
      show fv st env o i l 7 (lo : Int).toNat ((lo : Int).toNat + 1) = _
      rw [Int.toNat_natCast]
      unfold fv
      rw [if_pos (by omega)]
    rw [ep] at q
    refine q _ ((Kp.same k08).trans k9) ?_
    rw [List.map_cons, List.map_nil, er]
    exact D9
  · refine iteDF (fun z => by have := V.int.inj z; omega) ?_
    have em : ((lo : Int) + hi) / 2 = (((lo + hi) / 2 : Nat) : Int) := by omega
    refine ⟨_, rfl, _, rfl, _, _, rfl, rfl, _, _, rfl, rfl, ⟨by decide, by decide⟩, ?_⟩
    generalize hmid : (lo + hi) / 2 = mid at em
    have m1 : lo < mid := by omega
    have m2 : mid < hi := by omega
    have lp1 := len_parts k lo mid
    have lp2 := len_parts k mid hi
    refine ⟨_, rfl, _, rfl, _, rfl, _, rfl, _, rfl, _, rfl, _, rfl, _, rfl, da, na, wa, ea, .ref sa, f, lo, mid, y, o, i, e, l, ds, n, st, env, L, congrArg (fun z => [V.ref da, V.ref sa, V.ref na, V.int f, V.int (lo : Int), V.int z, V.ref wa, V.ref ea]) em, ⟨sa, ve, vl, rfl, hsa, hde, hdl⟩, hD, hn, nl, m1, by omega, by omega, by omega, hst, henv, bs, be, eo, wl, hl, el, by omega, fun H1 k1 D1 => ?_⟩
    have T1 := hD.tk k1
    have l1 : (ds ++ (parts k lo mid).map fun p => (n ++ p, partR st env o i l p)).length = ds.length + (parts k lo mid).length := by rw [List.length_append, List.length_map]
    refine ⟨_, rfl, _, rfl, _, rfl, _, rfl, _, rfl, _, rfl, _, rfl, _, rfl, da, na, wa, ea, .ref sa, f, mid, hi, y, o, i, e, l, _, n, st, env, L, congrArg (fun z => [V.ref da, V.ref sa, V.ref na, V.int f, V.int z, V.int (hi : Int), V.ref wa, V.ref ea]) em, ⟨sa, ve, vl, rfl, T1 _ _ hsa, hde.mono T1, hdl.mono T1⟩, D1, hn.mono T1, nl, m2, by omega, by omega, by omega, hD.st k1 hst, hD.st k1 henv, bs, be, eo, wl, hl, el, by omega, fun H2 k2 D2 => ?_⟩
    have T2 := T1.trans (D1.tk k2)
    have k02 := k1.trans k2
    obtain ⟨a1, ea1⟩ := parts_last k lo mid m1 (by omega)
    obtain ⟨a2, ea2⟩ := parts_last k mid hi m2 (by omega)
    have z1 : 0 < (parts k lo mid).length := parts_len1 k lo mid m1 (by omega)
    have z2 : 0 < (parts k mid hi).length := parts_len1 k mid hi m2 (by omega)
    generalize hds2 : (ds ++ (parts k lo mid).map fun p => (n ++ p, partR st env o i l p)) ++ (parts k mid hi).map (fun p => (n ++ p, partR st env o i l p)) = ds2 at D2
    have len2 : ds2.length = ds.length + (parts k lo mid).length + (parts k mid hi).length := by rw [← hds2, List.length_append, l1, List.length_map]
    have g1 : ds2[ds.length + (parts k lo mid).length - 1]? = some (n ++ pr lo mid, partR st env o i l (pr lo mid)) := by
      rw [← hds2, ea1]
      rw [List.length_append, List.length_singleton]
      rw [List.getElem?_append_left (by simp), List.getElem?_append_right (by omega), List.map_append, List.getElem?_append_right (by rw [List.length_map]; omega)]
      rw [List.length_map, show ds.length + (a1.length + 1) - 1 - ds.length - a1.length = 0 by omega]
      rfl
    have g2 : ds2[(ds ++ (parts k lo mid).map fun p => (n ++ p, partR st env o i l p)).length + (parts k mid hi).length - 1]? = some (n ++ pr mid hi, partR st env o i l (pr mid hi)) := by
      rw [← hds2, ea2]
      rw [List.length_append (as := a2), List.length_singleton]
      rw [List.getElem?_append_right (by omega), List.map_append, List.getElem?_append_right (by rw [List.length_map]; omega)]
      rw [List.length_map]
      generalize (ds ++ (parts k lo mid).map fun p => (n ++ p, partR st env o i l p)).length = u
      rw [show u + (a2.length + 1) - 1 - u - a2.length = 0 by omega]
      rfl
    obtain ⟨vs2, hv2, dl2, lv2⟩ := D2.len
    obtain ⟨t1, na1, kd1, b1, b2, b3, b4, i1, ht1, _⟩ := dl2.get g1
    obtain ⟨t2, na2, kd2, c1, c2, c3, c4, i2, ht2, _⟩ := dl2.get g2
    have hsa2 := T2 _ _ hsa
    have r1 := partR_pr st env o i l lo mid m1 (by omega)
    have r2 := partR_pr st env o i l mid hi m2 (by omega)
    have i2' := atI_nat i2
    have i1' := atI_nat i1
    have in1 : InP (fv st env o i l 7 lo mid) := fv_in bs be wl 7 lo mid (by omega) (by omega)
    have in2 : InP (fv st env o i l 7 mid hi) := fv_in bs be wl 7 mid hi (by omega) (by omega)
    dsimp only at ht1 ht2
    rw [r1] at ht1
    rw [r2] at ht2
    refine ⟨_, rfl, _, _, _, _, rfl, rfl, SqT.of hsa2, at2, _, rfl, _, rfl, _, _, _, _, rfl, rfl, SqL.of hv2, i1', _, _, _, _, rfl, rfl, SqT.of ht1, at5, _, rfl, _, rfl, _, _, _, _, rfl, rfl, SqL.of hv2, i2', _, _, _, _, rfl, rfl, SqT.of ht2, at5, o, _, _, rfl, in1, in2, fun H3 s3 => ?_⟩
    refine ⟨_, rfl, _, rfl, _, rfl, _, rfl, le_line (by show 2 ≤ 1000; decide), fun t ht => ?_⟩
    have st4 := same_new ht (.tup [V.int (lo : Int), V.int (hi : Int)])
    refine ⟨n, [(lo : Int), (hi : Int)], na, t, rfl, rfl, ((hn.mono T2).mono (Tk.same s3)).mono (Tk.same st4), upd_same, by simp, by show n.length + 2 ≤ 1000; omega, fun H4 r4 s4 n4 => ⟨Nat.zero_le _, fun p5 hp5 => ⟨Nat.zero_le _, fun p6 hp6 => ⟨Nat.zero_le _, fun p7 hp7 => ?_⟩⟩⟩⟩
    have k24 := s3.trans (st4.trans s4)
    have s5 := same_new hp5 (.lst [])
    have s6 := same_new hp6 (.lst [])
    have s7 := same_new hp7 (.lst [])
    refine ⟨_, rfl, _, rfl, _, rfl, le_line (by show 2 ≤ 1000; decide), fun p8 hp8 => ?_⟩
    have s8 := same_new hp8 (.lst [V.int ((ds.length + (parts k lo mid).length - 1 : Nat) : Int), V.int (((ds ++ (parts k lo mid).map fun p => (n ++ p, partR st env o i l p)).length + (parts k mid hi).length - 1 : Nat) : Int)])
    have k68 := s6.trans (s7.trans s8)
    have k48 := s5.trans k68
    have k28 := k24.trans k48
    refine ⟨da, r4, p5, p6, p7, p8, "pair", opd o (fv st env o i l 7 lo mid) (fv st env o i l 7 mid hi), ds2, n ++ [(lo : Int), (hi : Int)], [], [], [], [_, _], rfl, D2.same k28, by omega, n4.mono (Tk.same k48), k68 _ _ upd_same, by decide, (s7.trans s8) _ _ upd_same, s8 _ _ upd_same, upd_same, by show 2 ≤ 30; decide, fun H9 k9 D9 => ?_⟩
    have ep : parts (k + 1) lo hi = parts k lo mid ++ parts k mid hi ++ [[(lo : Int), (hi : Int)]] := by
      show (if hi < lo + 2 then _ else _) = _
      rw [if_neg (by omega), hmid]
    have er : partR st env o i l [(lo : Int), (hi : Int)] = opd o (fv st env o i l 7 lo mid) (fv st env o i l 7 mid hi) := by
      show fv st env o i l 7 (lo : Int).toNat (hi : Int).toNat = _
      rw [Int.toNat_natCast, Int.toNat_natCast]
      show (if hi < lo + 2 then _ else _) = _
      rw [if_neg (by omega), hmid, fv_fuel st env o i l 6 7 lo mid (by omega) (by omega) m1, fv_fuel st env o i l 6 7 mid hi (by omega) (by omega) m2]
    rw [ep] at q
    have eq2 := q H9 (k02.trans ((Kp.same k28).trans k9)) (by
      rw [List.map_append, List.map_append, List.map_cons, List.map_nil, er, ← List.append_assoc, ← List.append_assoc, hds2]
      exact D9)
    rw [show ds.length + (parts k lo mid ++ parts k mid hi ++ [[(lo : Int), (hi : Int)]]).length - 1 = ds2.length by rw [List.length_append, List.length_append, List.length_singleton]; omega] at eq2
    exact eq2
theorem ok_law_fold_run (T : Txt w K mg) (C_law_value : C8.Cal P w K mg base 4 "_law_value" (spLVal 3) []) (C_law_read_words : C8.Cal P w K mg base 3 "_law_read_words" (spLRead 3) []) (C_law_operated : C8.Cal P w K mg base 1 "_law_operated" spLOp [])
    (C_law_deed : C8.Cal P w K mg base 2 "_law_deed" spLDeed []) : ∀ k : Nat, C8.Cal P w K mg base (5 + k) "_law_fold_run" (spLFold k) []
  | 0 => T.f_law_fold_run.none fun vs H Q E h => by
    obtain ⟨_, _, _, _, _, _, _, _, _, _, _, _, _, _, _, _, _, _, _, _, _, _, _, _, h, _⟩ := h
    omega
  | k + 1 => law_fold_1 (kl := 5 + k) T (by omega) C_law_value C_law_read_words C_law_operated C_law_deed (ok_law_fold_run T C_law_value C_law_read_words C_law_operated C_law_deed k)
end
end K11
set_option Elab.async false
set_option linter.all false
set_option maxRecDepth 100000
set_option maxHeartbeats 4000000
namespace K11
open PySem PySem.Spec PyProof.Rows L2
/-- new deeds from c to c', with their results -/
structure NW (pre : Nm → Prop) (c c' : Cf) (new : List (Nm × Int)) : Prop where
  ord : c'.ord = c.ord ++ new.map (·.1)
  dn : ∀ p ∈ new, alook c'.u.done p.1 = some p.2
  pre : ∀ p ∈ new, pre p.1
theorem NW.nil (pre : Nm → Prop) (c : Cf) : NW pre c c [] := ⟨by simp, (fun p h => by cases h), (fun p h => by cases h)⟩
theorem NW.app {p1 p2 pre : Nm → Prop} {c c1 c2 : Cf} {a b : List (Nm × Int)} {m : Nm} (h1 : NW p1 c c1 a) (h2 : NW p2 c1 c2 b) (l : Loc m c1.u c2.u) (hm : ∀ n, p1 n → ¬ m <+: n) (i1 : ∀ n, p1 n → pre n) (i2 : ∀ n, p2 n → pre n) : NW pre c c2 (a ++ b) := by
  refine ⟨by rw [h2.ord, h1.ord, List.map_append, List.append_assoc], fun p hp => ?_, fun p hp => ?_⟩
  · rcases List.mem_append.mp hp with z | z
    · exact ((l _ (hm _ (h1.pre p z))).2.2.1).trans (h1.dn p z)
    · exact h2.dn p z
  · rcases List.mem_append.mp hp with z | z
    · exact i1 _ (h1.pre p z)
    · exact i2 _ (h2.pre p z)
theorem NW.len {pre : Nm → Prop} {c c' : Cf} {new ds : List (Nm × Int)} (h : NW pre c c' new) (e : ds.length = c.ord.length) : (ds ++ new).length = c'.ord.length := by
  rw [h.ord, List.length_append, List.length_append, List.length_map, e]
def inBlk (q : Nm) (i : Nat) (n : Nm) : Prop := ∃ j, j < i ∧ q ++ [(j : Int)] <+: n
theorem ext_uniq {q n : Nm} {i j : Int} (h1 : q ++ [i] <+: n) (h2 : q ++ [j] <+: n) : i = j := by
  have h := List.prefix_of_prefix_length_le h1 h2 (by simp)
  have e := h.eq_of_length (by simp)
  have := List.append_cancel_left e
  simpa using this
theorem blk_apart {q n : Nm} {i : Nat} (h : inBlk q i n) : ¬ q ++ [(i : Int)] <+: n := fun z => by
  obtain ⟨j, hj, h⟩ := h
  have := ext_uniq h z
  omega
section
variable {P : Program} {w : World} {K : PySem.W.Frag} {mg : Str → Option Value} {base : Heap}
def spLStm (n : Nat) : Sp := fun vs H Q _ => ∃ (da na wa ea nda : Addr) (v : V) (last : Int) (q : Nm) (k d : Nat) (x : BI) (c : Cf) (s : Stm) (L T0 T : List Str) (ds : List (Nm × Int)) (el : Sto),
  vs = [.ref da, v, .ref na, .int last, .ref wa, .ref ea, .ref nda] ∧ DS H s v ∧ LD H ds da ∧ ds.length = c.ord.length ∧ NM H (q ++ [(k : Int)]) na ∧ ST H c.u.st wa ∧ ST H x.env ea ∧ ST H el nda ∧ wa ≠ ea ∧ wa ≠ nda ∧ ea ≠ nda ∧ EnvOk el T ∧ el.length + 7 * d ≤ 66 ∧ XOk x d L T0 q ∧ WFS d L T s ∧ BV c.u.st ∧ d < n ∧ c.mu + KS d + 5000 < sizeLine ∧
  ∀ H' new (r : Int) el', Kp [da, wa, nda] H H' → NW (fun m => q ++ [(k : Int)] <+: m) c (pS q k x c s) new → LD H' (ds ++ new) da → ST H' (pS q k x c s).u.st wa → ST H' el' nda → EnvOk el' (after T s) → el'.length ≤ el.length + 1 → Q (.int r) H'
def spLBlk (n : Nat) : Sp := fun vs H Q _ => ∃ (da ba na wa ea nda : Addr) (last : Int) (q : Nm) (d : Nat) (x : BI) (c : Cf) (L T : List Str) (ds : List (Nm × Int)) (el : Sto),
  vs = [.ref da, .ref ba, .ref na, .int last, .ref wa, .ref ea, .ref nda] ∧ DB H x.stms ba ∧ LD H ds da ∧ ds.length = c.ord.length ∧ NM H q na ∧ ST H c.u.st wa ∧ ST H x.env ea ∧ ST H el nda ∧ wa ≠ ea ∧ wa ≠ nda ∧ EnvOk el T ∧ el.length + 7 * d ≤ 60 ∧ XOk x d L T q ∧ BV c.u.st ∧ d < n ∧ c.mu + x.stms.length * KS d + 5000 < sizeLine ∧
  ∀ H' new (r : Int), Kp [da, wa] H H' → NW (inBlk q x.stms.length) c (pB q 0 x c x.stms) new → LD H' (ds ++ new) da → ST H' (pB q 0 x c x.stms).u.st wa → Q (.int r) H'
theorem sc_law_block_run : FnScope ["_law_deeds", "_law_block_here", "_law_name", "_law_last", "_law_words_here", "_law_local_values", "_law_ends", "_law_inner", "_law_k"] ["_law_deeds", "_law_block_here", "_law_name", "_law_last", "_law_words_here", "_law_local_values", "_law_ends"] (defScope s_law_block_run) := ⟨rfl, rfl, rfl, by decide +kernel, rfl, by decide +kernel, by decide +kernel⟩
theorem law_block_1 {kl n : Nat} (T : Txt w K mg) (C_law_statement_run : C8.Cal P w K mg base kl "_law_statement_run" (spLStm n) []) : C8.Cal P w K mg base (kl + 1) "_law_block_run" (spLBlk n) [] := by
  refine T.f_law_block_run.cal sc_law_block_run (fun vs H Q E h => by obtain ⟨_, _, _, _, _, _, _, _, _, _, _, _, _, _, _, rfl, _⟩ := h; rfl) fun fa cdv A outer s H vs Q E hr h => ?_
  obtain ⟨da, ba, na, wa, ea, nda, last, q, d, x, c, L, T0, ds, el, rfl, ⟨sv, hba, hss⟩, hD, el0, hn, hst, henv, hel, nwe, nwd, eo, le90, hX, hbv, hd, hz, q0⟩ := h
  refine ⟨_, (pss_cons (ps_set (i := 7) sc_law_block_run.nd rfl (Or.inl rfl) (pe_callTy call_dictD (by rfl) T.z_dict (by decide +kernel) (pa_cons (pv 6) pa_nil))) 
    (pss_cons (ps_for PassesOwn.never rfl (pi_range1 rfl T.z_range (pa_cons (pe_callB (klen_seq K rfl) (by rfl) T.z_len (by decide +kernel) (pa_cons (pv 1) pa_nil)) pa_nil)) (pg_name (i := 8) sc_law_block_run.nd rfl (Or.inl rfl)) (pss_one (ps_set (i := 3) sc_law_block_run.nd rfl (Or.inl rfl) (C8.pe_c C_law_statement_run hr (by omega) rfl (pa_cons (pv 0) (pa_cons (pe_ix (kix_tup K rfl) (pv 1) (pv 8) (fun _ _ => rfl)) (pa_cons (pe_op op_catN (pv 2) (pe_tup (pa_cons (pv 8) pa_nil))) (pa_cons (pv 3) (pa_cons (pv 4) (pa_cons (pv 5) (pa_cons (pv 7) pa_nil))))))))))) 
    (pss_one (ps_ret (pv 3))))), ?_⟩
  obtain ⟨kve, hke, ale⟩ := hel
  refine ⟨_, rfl, nda, kve, rfl, .inl hke, fun p hp => ?_⟩
  have s1 := same_new hp (.dK kve)
  have hp1 : upd H p (.dK kve) p = some (.dK kve) := upd_same
  generalize upd H p (.dK kve) = H1 at s1 hp1
  have lss : x.stms.length = sv.length := hss.length.symm
  have few := hX.few
  have lq := hX.lq
  refine ⟨_, rfl, ba, sv, rfl, .inr (SqT.of (s1 _ _ hba)), (sv.length : Int), rfl, by omega, by omega, ?_⟩
  rw [show ((sv.length : Int)).toNat = sv.length by omega]
  have wne : wa ≠ p := fun z => by obtain ⟨_, e, _⟩ := hst; rw [z, hp] at e; cases e
  have ene : ea ≠ p := fun z => by obtain ⟨_, e, _⟩ := henv; rw [z, hp] at e; cases e
  have dne : da ≠ p := fun z => by obtain ⟨_, e, _⟩ := hD; rw [z, hp] at e; cases e
  have dea : da ≠ ea := fun z => by obtain ⟨_, e, _⟩ := hD; obtain ⟨_, e2, _⟩ := henv; rw [z, e2] at e; cases e
  have hD1 := hD.same s1
  have hst1 := hst.same s1
  refine for_range (lo := 0) (n := sv.length) (fun i σ H' => (∃ (l : Int) (c8 : Option V), σ = [some (.ref da), some (.ref ba), some (.ref na), some (.int l), some (.ref wa), some (.ref ea), some (.ref nda), some (.ref p), c8]) ∧ Kp [da, wa, p] H1 H' ∧ ∃ new el', NW (inBlk q i) c (pB q 0 x c (x.stms.take i)) new ∧ LD H' (ds ++ new) da ∧ ST H' (pB q 0 x c (x.stms.take i)).u.st wa ∧ ST H' el' p ∧ EnvOk el' (tick T0 x.stms i) ∧ el'.length ≤ el.length + i ∧ BV (pB q 0 x c (x.stms.take i)).u.st)
    ⟨⟨_, _, rfl⟩, Kp.refl _ _, [], el, (by rw [List.take_zero]; exact NW.nil _ _), (by rw [List.append_nil]; exact hD1), (by rw [List.take_zero]; exact hst1), ⟨kve, hp1, ale⟩, (by rw [tick_zero]; exact eo), Nat.le_refl _, (by rw [List.take_zero]; exact hbv)⟩ (fun i σ H' hi h => ?_) fun σ H' h => ?_
  · obtain ⟨⟨l, c8, rfl⟩, k1, new, el', nw, D', st', en', eo', le', bv'⟩ := h
    have hi2 : i < x.stms.length := by omega
    have hst2 : x.stms[i]? = some x.stms[i] := List.getElem?_eq_getElem hi2
    generalize x.stms[i] = s0 at hst2
    have wf := hX.wf.at hst2
    have mu1 := mu_pB (x.stms.take i) (q := q) (k := 0) (x := x) (c := c) (hX.wf.take i)
    rw [List.length_take, Nat.min_eq_left (Nat.le_of_lt hi2)] at mu1
    have mu2 : (pB q 0 x c (x.stms.take i)).mu + KS d + 5000 < sizeLine := by
      have : (i + 1) * KS d ≤ x.stms.length * KS d := Nat.mul_le_mul hi2 (Nat.le_refl _)
      have e : (i + 1) * KS d = i * KS d + KS d := Nat.succ_mul ..
      omega
    have T1 : Tk H1 H' := fun b vs e => k1 _ _ e fun z => by
      simp only [List.mem_cons, List.not_mem_nil, or_false] at z
      rcases z with rfl | rfl | rfl
      · obtain ⟨_, e2, _⟩ := hD1; rw [e] at e2; cases e2
      · obtain ⟨_, e2, _⟩ := hst1; rw [e] at e2; cases e2
      · rw [e] at hp1; cases hp1
    have T01 := (Tk.same s1).trans T1
    have hba1 := T01 _ _ hba
    have env1 : ST H' x.env ea := (henv.same s1).kp k1 fun z => by
      simp only [List.mem_cons, List.not_mem_nil, or_false] at z
      rcases z with z | z | z
      · exact dea z.symm
      · exact nwe z.symm
      · exact ene z
    have z0 : (0 : Int) + (i : Nat) = (i : Int) := by omega
    rw [z0]
    obtain ⟨sv0, hv0, ds0⟩ := (hss.mono T01).at hst2
    have ln := nw.len el0
    have nx := pB_take (q := q) (x := x) (c := c) hst2
    have tk := tick_succ T0 x.stms i s0 hst2
    refine ⟨_, rfl, _, rfl, _, rfl, _, _, _, _, rfl, rfl, SqT.of hba1, atI_nat hv0, _, rfl, _, rfl, le_line (by show 1 ≤ 1000; decide), fun t ht => ?_⟩
    have s3 := same_new ht (.tup [V.int (i : Nat)])
    refine ⟨q, [(i : Int)], na, t, rfl, rfl, (hn.mono T01).mono (Tk.same s3), upd_same, by simp, by simp; omega, fun H3 na2 s4 hn2 => ?_⟩
    have s34 := s3.trans s4
    refine ⟨_, rfl, _, rfl, _, rfl, _, rfl, da, na2, wa, ea, p, sv0, l, q, i, d, x, pB q 0 x c (x.stms.take i), s0, L, T0, tick T0 x.stms i, ds ++ new, el', rfl, ds0.mono (Tk.same s34), D'.same s34, ln, hn2, st'.same s34, env1.same s34, en'.same s34, nwe, wne, ene, eo', by omega, hX, wf, bv', hd, mu2, fun H4 new2 r el2 k4 nw2 D4 st4 en4 eo4 le4 => ?_⟩
    refine ⟨⟨_, _, rfl⟩, k1.trans ((Kp.same s34).trans k4), new ++ new2, el2, ?_, ?_, ?_, en4, ?_, by omega, ?_⟩
    · rw [nx]
      exact nw.app nw2 (loc_pS q i x _ s0) (fun n h => blk_apart h) (fun n ⟨j, hj, h⟩ => ⟨j, by omega, h⟩) (fun n h => ⟨i, by omega, h⟩)
    · rw [← List.append_assoc]; exact D4
    · rw [nx]; exact st4
    · rw [tk]; exact eo4
    · rw [nx]; exact bv_pS s0 wf bv' hX.bv hX.eo
  · obtain ⟨⟨l, c8, rfl⟩, k1, new, el', nw, D', st', _⟩ := h
    refine ⟨_, rfl, q0 H' new l ?_ ?_ D' ?_⟩
    rotate_left
    · rw [← lss, List.take_length] at nw; exact nw
    · rw [← lss, List.take_length] at st'; exact st'
    intro b o e nb
    refine k1 b o (s1 _ _ e) fun z => ?_
    simp only [List.mem_cons, List.not_mem_nil, or_false] at z nb
    rcases z with z | z | z
    · exact nb (.inl z)
    · exact nb (.inr z)
    · rw [z, hp] at e; cases e
end
end K11
set_option Elab.async false
set_option linter.all false
set_option maxRecDepth 100000
set_option maxHeartbeats 4000000
namespace K11
open PySem PySem.Spec PyProof.Rows L2
theorem kix_seq {X : Cx} (K : PySem.W.Frag) (e : X.K = K) : IxR X (fun x y H Q => ∃ p xs i v, x = V.ref p ∧ y = .int i ∧ (SqL K H p xs ∨ SqT K H p xs) ∧ atI xs i = some v ∧ Q v H) := by
  subst e
  intro value slice pins s σ H x y v u Q I rx ry h
  obtain ⟨p, xs, i, z, h1, h2, h3 | h3, h4, h5⟩ := h
  · exact ix_list value slice pins s σ H x y v u Q I rx ry ⟨p, xs, i, z, h1, h2, h3, h4, h5⟩
  · exact ix_tup value slice pins s σ H x y v u Q I rx ry ⟨p, xs, i, z, h1, h2, h3, h4, h5⟩
theorem NW.one {c : Cf} {n : Nm} {r : Int} (pre : Nm → Prop) (h : pre n) : NW pre c (c.dn n r) [(n, r)] := ⟨rfl, fun p hp => by
  rw [List.mem_singleton.mp hp]
  exact alook_self _ _ _, fun p hp => by rw [List.mem_singleton.mp hp]; exact h⟩
theorem st_dn (c : Cf) (n : Nm) (r : Int) : (c.dn n r).u.st = c.u.st := rfl
section
variable {P : Program} {w : World} {K : PySem.W.Frag} {mg : Str → Option Value} {base : Heap}
def spLBlks (n : Nat) : Sp := fun vs H Q _ => ∃ (da bla na wa ra nda : Addr) (first : Int) (nm : Nm) (m d : Nat) (f : Nat → BI) (cs : Nat → Cf) (T : List Str) (ds : List (Nm × Int)) (el : Sto) (bv rv : List V),
  vs = [.ref da, .ref bla, .ref na, .int first, .ref wa, .ref ra, .ref nda] ∧ (H bla = some (.lst bv) ∨ H bla = some (.tup bv)) ∧ bv.length = m ∧ (∀ i, i < m → ∃ b, bv[i]? = some (.ref b) ∧ DB H (f i).stms b) ∧ H ra = some (.lst rv) ∧ (∀ i, i < m → ∃ e, rv[i]? = some (.ref e) ∧ ST H (f i).env e ∧ wa ≠ e) ∧
  bla ≠ da ∧ ra ≠ da ∧ LD H ds da ∧ ds.length = (cs 0).ord.length ∧ NM H nm na ∧ nm.length ≤ 30 ∧ ST H (cs 0).u.st wa ∧ ST H el nda ∧ wa ≠ nda ∧ EnvOk el T ∧ el.length + 7 * d ≤ 60 ∧ Walk nm m f cs ∧ (∀ i, i < m → ∃ Li, XOk (f i) d Li T (nm ++ [(i : Int)])) ∧ BV (cs 0).u.st ∧ d < n ∧ m ≤ 6 ∧ (cs 0).mu + 36 * KS d + 5000 < sizeLine ∧
  ∀ H' new (r : Int), Kp [da, wa] H H' → NW (fun p => nm <+: p) (cs 0) ((cs m).dn (nm ++ [-1]) 0) new → LD H' (ds ++ new) da → ST H' (cs m).u.st wa → Q (.int r) H'
theorem sc_law_blocks_run : FnScope ["_law_deeds", "_law_blocks", "_law_name", "_law_first", "_law_words_here", "_law_local_rows", "_law_ends", "_law_behind", "_law_b", "_law_last"] ["_law_deeds", "_law_blocks", "_law_name", "_law_first", "_law_words_here", "_law_local_rows", "_law_ends"] (defScope s_law_blocks_run) := ⟨rfl, rfl, rfl, by decide +kernel, rfl, by decide +kernel, by decide +kernel⟩
theorem law_blocks_1 {kl n : Nat} (T : Txt w K mg) (hkl : 2 ≤ kl) (C_law_deed : C8.Cal P w K mg base 2 "_law_deed" spLDeed []) (C_law_block_run : C8.Cal P w K mg base kl "_law_block_run" (spLBlk n) []) : C8.Cal P w K mg base (kl + 1) "_law_blocks_run" (spLBlks n) [] := by
  refine T.f_law_blocks_run.cal sc_law_blocks_run (fun vs H Q E h => by obtain ⟨_, _, _, _, _, _, _, _, _, _, _, _, _, _, _, _, _, rfl, _⟩ := h; rfl) fun fa cdv A outer s H vs Q E hr h => ?_
  obtain ⟨da, bla, na, wa, ra, nda, first, nm, m, d, f, cs, T0, ds, el, bv, rv, rfl, hbl, lbv, hbs, hra, hrs, nbd, nrd, hD, ld0, hn, nl, hst, hel, nwd, eo, le90, hW, hX, hbv, hd, m6, hz, q0⟩ := h
  refine ⟨_, (pss_cons (ps_set (i := 7) sc_law_blocks_run.nd rfl (Or.inl rfl) (pe_lst pa_nil)) 
    (pss_cons (ps_for PassesOwn.never rfl (pi_range1 rfl T.z_range (pa_cons (pe_callB (klen_seq K rfl) (by rfl) T.z_len (by decide +kernel) (pa_cons (pv 1) pa_nil)) pa_nil)) (pg_name (i := 8) sc_law_blocks_run.nd rfl (Or.inl rfl)) 
      (pss_cons (ps_set (i := 9) sc_law_blocks_run.nd rfl (Or.inl rfl) (C8.pe_c C_law_block_run hr (by omega) rfl (pa_cons (pv 0) (pa_cons (pe_ix (kix_seq K rfl) (pv 1) (pv 8) (fun _ _ => rfl)) (pa_cons (pe_op op_catN (pv 2) (pe_tup (pa_cons (pv 8) pa_nil))) (pa_cons (pv 3) (pa_cons (pv 4) (pa_cons (pe_ix (kix_list K rfl) (pv 5) (pv 8) (fun _ _ => rfl)) (pa_cons (pv 6) pa_nil))))))))) 
      (pss_one (ps_expr (pe_bm PySem.F.plainAttrs_list PySem.F.slot_list_append PySem.F.type_list_append mt_append (pv 7) (pa_cons (pv 9) pa_nil)))))) 
    (pss_cons (ps_if (pt_cmpR op_eq (pe_callB (klen_seq K rfl) (by rfl) T.z_len (by decide +kernel) (pa_cons (pv 7) pa_nil)) pe_int (nomark _)) (pss_one (ps_set (i := 7) sc_law_blocks_run.nd rfl (Or.inl rfl) (pe_lst (pa_cons (pv 3) pa_nil)))) pss_nil) 
    (pss_one (ps_ret (C8.pe_c C_law_deed hr (by omega) rfl (pa_cons (pv 0) (pa_cons (pe_op op_catN (pv 2) (pe_tup (pa_cons (pe_un un_neg pe_int) pa_nil))) (pa_cons pe_str (pa_cons (pe_lst pa_nil) (pa_cons (pe_lst pa_nil) (pa_cons (pe_lst pa_nil) (pa_cons pe_int (pa_cons (pv 7) pa_nil)))))))))))))), ?_⟩
  refine ⟨Nat.zero_le _, fun bh hbh => ?_⟩
  have s1 := same_new hbh (.lst [])
  have hb1 : upd H bh (.lst []) bh = some (.lst []) := upd_same
  generalize upd H bh (.lst []) = H1 at s1 hb1
  have hbl1 : H1 bla = some (.lst bv) ∨ H1 bla = some (.tup bv) := hbl.elim (fun e => .inl (s1 _ _ e)) fun e => .inr (s1 _ _ e)
  have nbl : bla ≠ bh := fun z => by rw [z] at hbl; rcases hbl with e | e <;> rw [hbh] at e <;> cases e
  have nra : ra ≠ bh := fun z => by rw [z, hbh] at hra; cases hra
  have nda2 : da ≠ bh := fun z => by obtain ⟨_, e, _⟩ := hD; rw [z, hbh] at e; cases e
  have nwa : wa ≠ bh := fun z => by obtain ⟨_, e, _⟩ := hst; rw [z, hbh] at e; cases e
  have nblw : bla ≠ wa := fun z => by obtain ⟨_, e, _⟩ := hst; rw [z] at hbl; rcases hbl with e2 | e2 <;> rw [e] at e2 <;> cases e2
  have nraw : ra ≠ wa := fun z => by obtain ⟨_, e, _⟩ := hst; rw [z, e] at hra; cases hra
  have hD1 := hD.same s1
  have hst1 := hst.same s1
  refine ⟨_, rfl, bla, bv, rfl, hbl1.elim (fun e => .inl (SqL.of e)) (fun e => .inr (SqT.of e)), (bv.length : Int), rfl, by omega, by omega, ?_⟩
  rw [show ((bv.length : Int)).toNat = m by omega]
  refine for_range (lo := 0) (n := m) (fun i σ H' => (∃ (c8 c9 : Option V), σ = [some (.ref da), some (.ref bla), some (.ref na), some (.int first), some (.ref wa), some (.ref ra), some (.ref nda), some (.ref bh), c8, c9]) ∧ Kp [da, wa, bh] H1 H' ∧ ∃ new, NW (inBlk nm i) (cs 0) (cs i) new ∧ LD H' (ds ++ new) da ∧ ST H' (cs i).u.st wa ∧ BV (cs i).u.st ∧ (cs i).mu ≤ (cs 0).mu + i * (6 * KS d) ∧ ∃ ks : List Int, H' bh = some (.lst (ks.map V.int)) ∧ ks.length = i)
    ⟨⟨_, _, rfl⟩, Kp.refl _ _, [], NW.nil _ _, (by rw [List.append_nil]; exact hD1), hst1, hbv, by omega, [], hb1, rfl⟩ (fun i σ H' hi h => ?_) fun σ H' h => ?_
  · obtain ⟨⟨c8, c9, rfl⟩, k1, new, nw, D', st', bv', mu', ks, hks, lks⟩ := h
    have T1 : Tk H1 H' := fun b vs e => k1 _ _ e fun z => by
      simp only [List.mem_cons, List.not_mem_nil, or_false] at z
      rcases z with rfl | rfl | rfl
      · obtain ⟨_, e2, _⟩ := hD1; rw [e] at e2; cases e2
      · obtain ⟨_, e2, _⟩ := hst1; rw [e] at e2; cases e2
      · rw [e] at hb1; cases hb1
    have T01 := (Tk.same s1).trans T1
    have z0 : (0 : Int) + (i : Nat) = (i : Int) := by omega
    rw [z0]
    obtain ⟨b, hb, db⟩ := hbs i hi
    obtain ⟨e, he, ste, nwe⟩ := hrs i hi
    obtain ⟨Li, xo⟩ := hX i hi
    have keep : ∀ a o, H1 a = some o → a ≠ da → a ≠ wa → a ≠ bh → H' a = some o := fun a o z n1 n2 n3 => k1 _ _ z fun y => by
      simp only [List.mem_cons, List.not_mem_nil, or_false] at y
      rcases y with y | y | y
      · exact n1 y
      · exact n2 y
      · exact n3 y
    have hbl2 : SqL K H' bla bv ∨ SqT K H' bla bv := hbl1.elim (fun e => .inl (SqL.of (keep _ _ e nbd nblw nbl))) fun e => .inr (SqT.of (keep _ _ e nbd nblw nbl))
    have hra2 := keep _ _ (s1 _ _ hra) nrd nraw nra
    have ed : e ≠ da := fun z => by obtain ⟨_, e1, _⟩ := hD; obtain ⟨_, e2, _⟩ := ste; rw [z, e1] at e2; cases e2
    have eb : e ≠ bh := fun z => by obtain ⟨_, e2, _⟩ := ste; rw [z, hbh] at e2; cases e2
    have ste2 : ST H' (f i).env e := (ste.same s1).kp k1 fun y => by
      simp only [List.mem_cons, List.not_mem_nil, or_false] at y
      rcases y with y | y | y
      · exact ed y
      · exact nwe y.symm
      · exact eb y
    have nd : nda ≠ da := fun z => by obtain ⟨_, e1, _⟩ := hD; obtain ⟨_, e2, _⟩ := hel; rw [z, e1] at e2; cases e2
    have nb : nda ≠ bh := fun z => by obtain ⟨_, e2, _⟩ := hel; rw [z, hbh] at e2; cases e2
    have hel2 : ST H' el nda := (hel.same s1).kp k1 fun y => by
      simp only [List.mem_cons, List.not_mem_nil, or_false] at y
      rcases y with y | y | y
      · exact nd y
      · exact nwd y.symm
      · exact nb y
    have l6 : (f i).stms.length * KS d ≤ 6 * KS d := Nat.mul_le_mul xo.few (Nat.le_refl _)
    have i6 : (i + 1) * (6 * KS d) ≤ 6 * (6 * KS d) := Nat.mul_le_mul (by omega) (Nat.le_refl _)
    have ie : (i + 1) * (6 * KS d) = i * (6 * KS d) + 6 * KS d := Nat.succ_mul ..
    refine ⟨_, rfl, _, rfl, _, rfl, _, _, _, _, rfl, rfl, hbl2, atI_nat hb, _, rfl, _, rfl, le_line (by show 1 ≤ 1000; decide), fun t ht => ?_⟩
    have s3 := same_new ht (.tup [V.int (i : Nat)])
    refine ⟨nm, [(i : Int)], na, t, rfl, rfl, (hn.mono T01).mono (Tk.same s3), upd_same, by simp, by simp; omega, fun H3 na2 s4 hn2 => ?_⟩
    have s34 := s3.trans s4
    refine ⟨_, rfl, _, rfl, _, rfl, _, rfl, _, _, _, _, rfl, rfl, SqL.of (s34 _ _ hra2), atI_nat he, _, rfl, da, b, na2, wa, e, nda, first, nm ++ [(i : Int)], d, f i, cs i, Li, T0, ds ++ new, el, rfl, (db.mono T01).mono (Tk.same s34), D'.same s34, nw.len ld0, hn2, st'.same s34, ste2.same s34, hel2.same s34, nwe, nwd, eo, le90, xo, bv', hd, by omega, fun H4 new2 r k4 nw2 D4 st4 => ?_⟩
    have nx := hW.step i hi
    have hks4 : H4 bh = some (.lst (ks.map V.int)) := k4 _ _ (s34 _ _ hks) fun y => by
      simp only [List.mem_cons, List.not_mem_nil, or_false] at y
      rcases y with y | y
      · exact nda2 y.symm
      · exact nwa y.symm
    have mu2 := mu_pB (f i).stms (q := nm ++ [(i : Int)]) (k := 0) (x := f i) (c := cs i) xo.wf
    rw [← nx] at nw2 st4 mu2
    refine ⟨_, rfl, .inl ⟨rfl, _, SqL.of hks4⟩, _, rfl, bh, ks.map V.int, _, rfl, rfl, hks4, lt_line (by rw [List.length_map]; omega), ?_⟩
    have k5 : Kp [da, wa, bh] H4 (upd H4 bh (.lst (ks.map V.int ++ [V.int r]))) := Kp.upd (by simp)
    refine ⟨⟨_, _, rfl⟩, (k1.trans (Kp.same s34)).trans ((k4.sub (by simp +contextual)).trans k5), new ++ new2, ?_, ?_, ?_, ?_, by omega, ks ++ [r], ?_, by rw [List.length_append, lks]; rfl⟩
    · exact nw.app (m := nm ++ [(i : Int)]) nw2 (by rw [nx]; exact loc_pB _ _ _ _ _) (fun n h => blk_apart h) (fun n ⟨j, hj, h⟩ => ⟨j, by omega, h⟩) (fun n ⟨j, _, h⟩ => ⟨i, by omega, (List.prefix_append _ _).trans h⟩)
    · rw [← List.append_assoc]
      obtain ⟨vs, q1, q2⟩ := D4
      exact ⟨vs, by rw [upd_ne nda2]; exact q1, q2.mono (tk_upd fun ws z => by rw [hks4] at z; cases z)⟩
    · obtain ⟨kv, q1, q2⟩ := st4
      exact ⟨kv, by rw [upd_ne nwa]; exact q1, q2⟩
    · rw [nx]; exact bv_pB (f i).stms xo.wf bv' xo.bv xo.eo
    · rw [upd_same, List.map_append]; rfl
  · obtain ⟨⟨c8, c9, rfl⟩, k1, new, nw, D', st', bv', mu', ks, hks, lks⟩ := h
    have T1 : Tk H1 H' := fun b vs e => k1 _ _ e fun z => by
      simp only [List.mem_cons, List.not_mem_nil, or_false] at z
      rcases z with rfl | rfl | rfl
      · obtain ⟨_, e2, _⟩ := hD1; rw [e] at e2; cases e2
      · obtain ⟨_, e2, _⟩ := hst1; rw [e] at e2; cases e2
      · rw [e] at hb1; cases hb1
    have T01 := (Tk.same s1).trans T1
    have mKS : m * (6 * KS d) ≤ 6 * (6 * KS d) := Nat.mul_le_mul m6 (Nat.le_refl _)
    refine ⟨_, rfl, bh, ks.map V.int, rfl, .inl (SqL.of hks), rfl, _, rfl, ?_⟩
    by_cases c0 : m = 0
    · refine iteD (by rw [List.length_map, lks, c0]; rfl) ⟨_, rfl, le_line (by show 1 ≤ 1000; decide), fun pz hpz => ?_⟩
      have sz := same_new hpz (.lst [V.int first])
      have hz7 : upd H' pz (.lst [V.int first]) pz = some (.lst ([first].map V.int)) := upd_same
      generalize upd H' pz (.lst [V.int first]) = G at sz hz7
      have t7 : Tk H1 G := T1.trans (Tk.same sz)
      refine ⟨_, rfl, _, rfl, _, rfl, le_line (by show 1 ≤ 1000; decide), fun t ht => ?_⟩
      have st3 := same_new ht (.tup [V.int (-1)])
      refine ⟨nm, [-1], na, t, rfl, rfl, (hn.mono (Tk.same s1)).mono (t7.trans (Tk.same st3)), upd_same, by simp, by simp; omega, fun H4 r4 s4 n4 => ⟨Nat.zero_le _, fun p5 hp5 => ⟨Nat.zero_le _, fun p6 hp6 => ⟨Nat.zero_le _, fun p7 hp7 => ?_⟩⟩⟩⟩
      have s5 := same_new hp5 (.lst [])
      have s6 := same_new hp6 (.lst [])
      have s7 := same_new hp7 (.lst [])
      have k47 := s5.trans (s6.trans s7)
      have kall := sz.trans (st3.trans (s4.trans k47))
      refine ⟨_, rfl, da, r4, p5, p6, p7, pz, "join", 0, ds ++ new, nm ++ [-1], [], [], [], [first], rfl, D'.same kall, by have := nw.len ld0; have e2 : (cs m).ord.length ≤ (cs m).mu := Nat.le_add_left _ _; omega, n4.mono (Tk.same k47), (s6.trans s7) _ _ upd_same, by decide, s7 _ _ upd_same, upd_same, (st3.trans (s4.trans k47)) _ _ hz7, (by show 1 ≤ 30; decide), fun H9 k9 D9 => ?_⟩
      have fin := nw.app (m := nm ++ [-1]) (pre := fun p => nm <+: p) (NW.one (c := cs m) (n := nm ++ [-1]) (r := 0) (fun p => nm <+: p) (List.prefix_append nm [-1])) (loc_dn (List.prefix_refl (nm ++ [-1])) (cs m).u 0) (fun n ⟨j, hj, h⟩ z => by have := ext_uniq h z; omega) (fun n ⟨j, _, h⟩ => (List.prefix_append _ _).trans h) (fun n h => h)
      refine q0 H9 (new ++ [(nm ++ [-1], 0)]) _ ?_ fin (by rw [← List.append_assoc]; exact D9) ((D'.same kall).st k9 (st'.same kall))
      intro b ob e nb
      refine k9 _ _ (kall _ _ (k1 _ _ (s1 _ _ e) fun y => ?_)) (by rw [List.mem_singleton]; intro z; exact nb (by rw [z]; simp))
      simp only [List.mem_cons, List.not_mem_nil, or_false] at y nb
      rcases y with y | y | y
      · exact nb (.inl y)
      · exact nb (.inr y)
      · rw [y, hbh] at e; cases e
    · refine iteDF (fun z => by have := V.int.inj z; rw [List.length_map, lks] at this; omega) ?_
      have sz := Same.refl H'
      have t7 : Tk H1 H' := T1.trans (Tk.same sz)
      refine ⟨_, rfl, _, rfl, _, rfl, le_line (by show 1 ≤ 1000; decide), fun t ht => ?_⟩
      have st3 := same_new ht (.tup [V.int (-1)])
      refine ⟨nm, [-1], na, t, rfl, rfl, (hn.mono (Tk.same s1)).mono (t7.trans (Tk.same st3)), upd_same, by simp, by simp; omega, fun H4 r4 s4 n4 => ⟨Nat.zero_le _, fun p5 hp5 => ⟨Nat.zero_le _, fun p6 hp6 => ⟨Nat.zero_le _, fun p7 hp7 => ?_⟩⟩⟩⟩
      have s5 := same_new hp5 (.lst [])
      have s6 := same_new hp6 (.lst [])
      have s7 := same_new hp7 (.lst [])
      have k47 := s5.trans (s6.trans s7)
      have kall := sz.trans (st3.trans (s4.trans k47))
      refine ⟨_, rfl, da, r4, p5, p6, p7, bh, "join", 0, ds ++ new, nm ++ [-1], [], [], [], ks, rfl, D'.same kall, by have := nw.len ld0; have e2 : (cs m).ord.length ≤ (cs m).mu := Nat.le_add_left _ _; omega, n4.mono (Tk.same k47), (s6.trans s7) _ _ upd_same, by decide, s7 _ _ upd_same, upd_same, (st3.trans (s4.trans k47)) _ _ hks, (by omega), fun H9 k9 D9 => ?_⟩
      have fin := nw.app (m := nm ++ [-1]) (pre := fun p => nm <+: p) (NW.one (c := cs m) (n := nm ++ [-1]) (r := 0) (fun p => nm <+: p) (List.prefix_append nm [-1])) (loc_dn (List.prefix_refl (nm ++ [-1])) (cs m).u 0) (fun n ⟨j, hj, h⟩ z => by have := ext_uniq h z; omega) (fun n ⟨j, _, h⟩ => (List.prefix_append _ _).trans h) (fun n h => h)
      refine q0 H9 (new ++ [(nm ++ [-1], 0)]) _ ?_ fin (by rw [← List.append_assoc]; exact D9) ((D'.same kall).st k9 (st'.same kall))
      intro b ob e nb
      refine k9 _ _ (kall _ _ (k1 _ _ (s1 _ _ e) fun y => ?_)) (by rw [List.mem_singleton]; intro z; exact nb (by rw [z]; simp))
      simp only [List.mem_cons, List.not_mem_nil, or_false] at y nb
      rcases y with y | y | y
      · exact nb (.inl y)
      · exact nb (.inr y)
      · rw [y, hbh] at e; cases e
end
end K11
set_option Elab.async false
set_option linter.all false
set_option maxRecDepth 100000
set_option maxHeartbeats 4000000
namespace K11
open PySem PySem.Spec PyProof.Rows L2
theorem NW.app2 {p1 p2 pre : Nm → Prop} {c c1 c2 : Cf} {a b : List (Nm × Int)} (h1 : NW p1 c c1 a) (h2 : NW p2 c1 c2 b) (keep : ∀ n, p1 n → alook c2.u.done n = alook c1.u.done n) (i1 : ∀ n, p1 n → pre n) (i2 : ∀ n, p2 n → pre n) : NW pre c c2 (a ++ b) := by
  refine ⟨by rw [h2.ord, h1.ord, List.map_append, List.append_assoc], fun p hp => ?_, fun p hp => ?_⟩
  · rcases List.mem_append.mp hp with z | z
    · exact (keep _ (h1.pre p z)).trans (h1.dn p z)
    · exact h2.dn p z
  · rcases List.mem_append.mp hp with z | z
    · exact i1 _ (h1.pre p z)
    · exact i2 _ (h2.pre p z)
theorem nw_stepC (q : Nm) (k : Nat) (x : BI) (c : Cf) (s : Stm) : NW (fun n => n = q ++ [(k : Int)]) c (stepC q k x c s) [(q ++ [(k : Int)], resS c.u x s)] :=
  ⟨rfl, fun p hp => by rw [List.mem_singleton.mp hp]; exact done_stepU _ _ _ _ _ _, fun p hp => by rw [List.mem_singleton.mp hp]⟩
theorem NW.weak {p1 p2 : Nm → Prop} {c c' : Cf} {new : List (Nm × Int)} (h : NW p1 c c' new) (i : ∀ n, p1 n → p2 n) : NW p2 c c' new := ⟨h.ord, h.dn, fun p hp => i _ (h.pre p hp)⟩
theorem partsC_ord (nm : Nm) (R : Nm → Int) : ∀ (ps : List Nm) (c : Cf), (partsC nm R c ps).ord = c.ord ++ ps.map (nm ++ ·)
  | [], c => by rw [List.map_nil, List.append_nil]; rfl
  | p :: ps, c => by
    have h := partsC_ord nm R ps (c.dn (nm ++ p) (R p))
    show (partsC nm R (c.dn (nm ++ p) (R p)) ps).ord = _
    rw [h]
    show (c.ord ++ [nm ++ p]) ++ _ = _
    rw [List.append_assoc]
    rfl
theorem nw_partsC (nm : Nm) (R : Nm → Int) (c : Cf) (ps : List Nm) : NW (fun n => ∃ p, p ∈ ps ∧ n = nm ++ p) c (partsC nm R c ps) (ps.map fun p => (nm ++ p, R p)) := by
  refine ⟨?_, fun z hz => ?_, fun z hz => ?_⟩
  · rw [partsC_ord, List.map_map]
    rfl
  · obtain ⟨p, hp, rfl⟩ := List.mem_map.mp hz
    exact (partsC_done nm R ps c p).1 hp
  · obtain ⟨p, hp, rfl⟩ := List.mem_map.mp hz
    exact ⟨p, hp, rfl⟩
theorem flat_rep {α : Type} (a : α) : ∀ n, (List.replicate n [a]).flatten = List.replicate n a
  | 0 => rfl
  | n + 1 => by rw [List.replicate_succ, List.flatten_cons, flat_rep a n, List.replicate_succ]; rfl
theorem idx_of {ys : List V} {y : V} {j : Nat} (h : ((ys.take j).all fun z => !eqV z y) = true) : ∀ (m : Nat) (z' : V), m < j → ys[m]? = some z' → eqV z' y = false := fun m z' hm hz => by
  have hin : z' ∈ ys.take j := by
    refine List.mem_iff_getElem?.mpr ⟨m, ?_⟩
    rw [List.getElem?_take_of_lt hm]
    exact hz
  have := List.all_eq_true.mp h z' hin
  simpa using this
section
variable {P : Program} {w : World} {K : PySem.W.Frag} {mg : Str → Option Value} {base : Heap}
theorem sc_law_statement_run : FnScope ["_law_deeds", "_law_statement_here", "_law_name", "_law_last", "_law_words_here", "_law_local_values", "_law_ends", "_law_kind", "_law_first", "_law_expression_here", "_law_value_here", "_law_reads", "_law_b", "_law_turns_here", "_law_rows", "_law_i", "_law_inner", "_law_result", "_law_top"] ["_law_deeds", "_law_statement_here", "_law_name", "_law_last", "_law_words_here", "_law_local_values", "_law_ends"] (defScope s_law_statement_run) := ⟨rfl, rfl, rfl, by decide +kernel, rfl, by decide +kernel, by decide +kernel⟩
theorem law_statement_1 {kl n : Nat} (T : Txt w K mg) (hkl : 12 ≤ kl) (C_law_deed : C8.Cal P w K mg base 2 "_law_deed" spLDeed []) (C_law_value : C8.Cal P w K mg base 4 "_law_value" (spLVal 3) []) (C_law_read_words : C8.Cal P w K mg base 3 "_law_read_words" (spLRead 3) []) (C_law_operated : C8.Cal P w K mg base 1 "_law_operated" spLOp [])
    (C_law_fold_run : C8.Cal P w K mg base 12 "_law_fold_run" (spLFold 7) []) (C_law_block_run : C8.Cal P w K mg base kl "_law_block_run" (spLBlk n) []) (C_law_blocks_run : C8.Cal P w K mg base (kl + 1) "_law_blocks_run" (spLBlks n) []) : C8.Cal P w K mg base (kl + 2) "_law_statement_run" (spLStm (n + 1)) [] := by
  refine T.f_law_statement_run.cal sc_law_statement_run (fun vs H Q E h => by obtain ⟨_, _, _, _, _, _, _, _, _, _, _, _, _, _, _, _, _, _, rfl, _⟩ := h; rfl) fun fa cdv A outer s H vs Q E hr h => ?_
  obtain ⟨da, na, wa, ea, nda, v, last, q, k, d, x, c, st, L, T0, TT, ds, el, rfl, hds, hD, ld0, hn, hst, henv, hel, nwe, nwd, ned, eo, le100, hX, wf, hbv, hd, hz, q0⟩ := h
  refine ⟨_, (pss_cons (ps_set (i := 7) sc_law_statement_run.nd rfl (Or.inl rfl) (pe_ix (kix_tup K rfl) (pv 1) pe_int (fun _ _ => rfl))) 
    (pss_cons (ps_if (pt_cmpR op_eq (pv 7) pe_str (nomark _)) 
      (pss_cons (ps_set (i := 8) sc_law_statement_run.nd rfl (Or.inl rfl) (C8.pe_c C_law_deed hr (by omega) rfl (pa_cons (pv 0) (pa_cons (pv 2) (pa_cons pe_str (pa_cons (pe_lst pa_nil) (pa_cons (pe_lst pa_nil) (pa_cons (pe_lst pa_nil) (pa_cons pe_int (pa_cons (pe_lst (pa_cons (pv 3) pa_nil)) pa_nil)))))))))) 
      (pss_one (ps_ret (C8.pe_c C_law_blocks_run hr (by omega) rfl (pa_cons (pv 0) (pa_cons (pe_ix (kix_tup K rfl) (pv 1) pe_int (fun _ _ => rfl)) (pa_cons (pv 2) (pa_cons (pv 8) (pa_cons (pv 4) (pa_cons (pe_op op_rep (pe_lst (pa_cons (pv 5) pa_nil)) (pe_callB (klen_seq K rfl) (by rfl) T.z_len (by decide +kernel) (pa_cons (pe_ix (kix_tup K rfl) (pv 1) pe_int (fun _ _ => rfl)) pa_nil))) (pa_cons (pv 6) pa_nil))))))))))) pss_nil) 
    (pss_cons (ps_if (pt_cmpR op_eq (pv 7) pe_str (nomark _)) 
      (pss_cons (ps_set (i := 8) sc_law_statement_run.nd rfl (Or.inl rfl) (C8.pe_c C_law_deed hr (by omega) rfl (pa_cons (pv 0) (pa_cons (pv 2) (pa_cons pe_str (pa_cons (pe_lst pa_nil) (pa_cons (pe_lst pa_nil) (pa_cons (pe_lst pa_nil) (pa_cons pe_int (pa_cons (pe_lst (pa_cons (pv 3) pa_nil)) pa_nil)))))))))) 
      (pss_cons (ps_dput (hu_of hr) (pv 6) (pe_ix (kix_tup K rfl) (pv 1) pe_int (fun _ _ => rfl)) (C8.pe_c C_law_block_run hr (by omega) rfl (pa_cons (pv 0) (pa_cons (pe_ix (kix_tup K rfl) (pv 1) pe_int (fun _ _ => rfl)) (pa_cons (pe_op op_catN (pv 2) (pe_tup (pa_cons pe_int pa_nil))) (pa_cons (pv 8) (pa_cons (pv 4) (pa_cons (pv 5) (pa_cons (pv 6) pa_nil)))))))) rfl) 
      (pss_one (ps_ret (pv 8))))) pss_nil) 
    (pss_cons (ps_if (pt_cmpR op_eq (pv 7) pe_str (nomark _)) (pss_one (ps_ret (C8.pe_c C_law_deed hr (by omega) rfl (pa_cons (pv 0) (pa_cons (pv 2) (pa_cons pe_str (pa_cons (pe_lst pa_nil) (pa_cons (pe_lst pa_nil) (pa_cons (pe_lst pa_nil) (pa_cons pe_int (pa_cons (pe_lst (pa_cons (pv 3) (pa_cons (pe_dget (hu_of hr) (pv 6) (pe_ix (kix_tup K rfl) (pv 1) pe_int (fun _ _ => rfl)) (fun _ _ => rfl)) pa_nil))) pa_nil))))))))))) pss_nil) 
    (pss_cons (ps_set (i := 9) sc_law_statement_run.nd rfl (Or.inl rfl) (pe_ix (kix_tup K rfl) (pv 1) (pe_ix (kix_list K rfl) (pe_lst (pa_cons pe_int (pa_cons pe_int (pa_cons pe_int (pa_cons pe_int (pa_cons pe_int (pa_cons pe_int pa_nil))))))) (pe_bm PySem.F.plainAttrs_list PySem.F.slot_list_index PySem.F.type_list_index mt_index (pe_lst (pa_cons pe_str (pa_cons pe_str (pa_cons pe_str (pa_cons pe_str (pa_cons pe_str (pa_cons pe_str pa_nil))))))) (pa_cons (pv 7) pa_nil)) (fun _ _ => rfl)) (fun _ _ => rfl))) 
    (pss_cons (ps_set (i := 10) sc_law_statement_run.nd rfl (Or.inl rfl) (C8.pe_c C_law_value hr (by omega) rfl (pa_cons (pv 9) (pa_cons (pv 4) (pa_cons (pv 5) pa_nil))))) 
    (pss_cons (ps_set (i := 11) sc_law_statement_run.nd rfl (Or.inl rfl) (C8.pe_c C_law_read_words hr (by omega) rfl (pa_cons (pv 9) pa_nil))) 
    (pss_cons (ps_if (pt_cmpR op_eq (pv 7) pe_str (nomark _)) 
      (pss_cons (ps_dput (hu_of hr) (pv 4) (pe_ix (kix_tup K rfl) (pv 1) pe_int (fun _ _ => rfl)) (pv 10) rfl) 
      (pss_one (ps_ret (C8.pe_c C_law_deed hr (by omega) rfl (pa_cons (pv 0) (pa_cons (pv 2) (pa_cons pe_str (pa_cons (pv 11) (pa_cons (pe_lst (pa_cons (pe_ix (kix_tup K rfl) (pv 1) pe_int (fun _ _ => rfl)) pa_nil)) (pa_cons (pe_lst pa_nil) (pa_cons (pv 10) (pa_cons (pe_lst (pa_cons (pv 3) pa_nil)) pa_nil)))))))))))) pss_nil) 
    (pss_cons (ps_if (pt_cmpR op_eq (pv 7) pe_str (nomark _)) 
      (pss_cons (ps_dput (hu_of hr) (pv 4) (pe_ix (kix_tup K rfl) (pv 1) pe_int (fun _ _ => rfl)) (C8.pe_c C_law_operated hr (by omega) rfl (pa_cons (pe_ix (kix_tup K rfl) (pv 1) pe_int (fun _ _ => rfl)) (pa_cons (pe_dget2 (hu_of hr) (pv 4) (pe_ix (kix_tup K rfl) (pv 1) pe_int (fun _ _ => rfl)) pe_int ⟨rfl, rfl, rfl, rfl⟩) (pa_cons (pv 10) pa_nil)))) rfl) 
      (pss_one (ps_ret (C8.pe_c C_law_deed hr (by omega) rfl (pa_cons (pv 0) (pa_cons (pv 2) (pa_cons pe_str (pa_cons (pv 11) (pa_cons (pe_lst pa_nil) (pa_cons (pe_lst (pa_cons (pe_tup (pa_cons (pe_ix (kix_tup K rfl) (pv 1) pe_int (fun _ _ => rfl)) (pa_cons (pe_ix (kix_tup K rfl) (pv 1) pe_int (fun _ _ => rfl)) pa_nil))) pa_nil)) (pa_cons (pv 10) (pa_cons (pe_lst (pa_cons (pv 3) pa_nil)) pa_nil)))))))))))) pss_nil) 
    (pss_cons (ps_set (i := 8) sc_law_statement_run.nd rfl (Or.inl rfl) (C8.pe_c C_law_deed hr (by omega) rfl (pa_cons (pv 0) (pa_cons (pv 2) (pa_cons (pv 7) (pa_cons (pv 11) (pa_cons (pe_lst pa_nil) (pa_cons (pe_lst pa_nil) (pa_cons (pv 10) (pa_cons (pe_lst (pa_cons (pv 3) pa_nil)) pa_nil)))))))))) 
    (pss_cons (ps_if (pt_cmpR op_eq (pv 7) pe_str (nomark _)) 
      (pss_cons (ps_set (i := 12) sc_law_statement_run.nd rfl (Or.inl rfl) (pe_callTy call_int1 (by rfl) T.z_int (by decide +kernel) (pa_cons (pe_cmpR op_eq (pv 10) pe_int (nomark _)) pa_nil))) 
      (pss_one (ps_ret (C8.pe_c C_law_block_run hr (by omega) rfl (pa_cons (pv 0) (pa_cons (pe_ix (kix_tup K rfl) (pv 1) (pe_op op_add pe_int (pv 12)) (fun _ _ => rfl)) (pa_cons (pe_op op_catN (pv 2) (pe_tup (pa_cons (pv 12) pa_nil))) (pa_cons (pv 8) (pa_cons (pv 4) (pa_cons (pv 5) (pa_cons (pv 6) pa_nil))))))))))) pss_nil) 
    (pss_cons (ps_set (i := 13) sc_law_statement_run.nd rfl (Or.inl rfl) (pe_op op_mod (pe_callTy call_int1 (by rfl) T.z_int (by decide +kernel) (pa_cons (pv 10) pa_nil)) pe_int)) 
    (pss_cons (ps_if (pt_cmpR op_eq (pv 7) pe_str (nomark _)) 
      (pss_cons (ps_set (i := 14) sc_law_statement_run.nd rfl (Or.inl rfl) (pe_lst pa_nil)) 
      (pss_cons (ps_for PassesOwn.never rfl (pi_range1 rfl T.z_range (pa_cons (pv 13) pa_nil)) (pg_name (i := 15) sc_law_statement_run.nd rfl (Or.inl rfl)) 
        (pss_cons (ps_set (i := 16) sc_law_statement_run.nd rfl (Or.inl rfl) (pe_callTy call_dictD (by rfl) T.z_dict (by decide +kernel) (pa_cons (pv 5) pa_nil))) 
        (pss_cons (ps_dput (hu_of hr) (pv 16) (pe_ix (kix_tup K rfl) (pv 1) pe_int (fun _ _ => rfl)) (pv 15) rfl) 
        (pss_one (ps_expr (pe_bm PySem.F.plainAttrs_list PySem.F.slot_list_append PySem.F.type_list_append mt_append (pv 14) (pa_cons (pv 16) pa_nil))))))) 
      (pss_one (ps_ret (C8.pe_c C_law_blocks_run hr (by omega) rfl (pa_cons (pv 0) (pa_cons (pe_lc (own := [("_law_i", 15)]) rfl sc_law_statement_run.nd (pi_range1 rfl T.z_range (pa_cons (pv 13) pa_nil)) (blkOk_by (N := ["_law_deeds", "_law_statement_here", "_law_name", "_law_last", "_law_words_here", "_law_local_values", "_law_ends", "_law_kind", "_law_first", "_law_expression_here", "_law_value_here", "_law_reads", "_law_b", "_law_turns_here", "_law_rows", "_law_i", "_law_inner", "_law_result", "_law_top"]) (sc := defScope s_law_statement_run) (by decide +kernel)) (fun _ _ _ _ _ => (pg_name (i := 15) sc_law_statement_run.nd rfl (Or.inl rfl))) (fun _ _ _ _ _ => pts_nil) (fun _ _ _ _ _ => (pe_ix (kix_tup K rfl) (pv 1) pe_int (fun _ _ => rfl)))) (pa_cons (pv 2) (pa_cons (pv 8) (pa_cons (pv 4) (pa_cons (pv 14) (pa_cons (pv 6) pa_nil)))))))))))) pss_nil) 
    (pss_cons (ps_set (i := 17) sc_law_statement_run.nd rfl (Or.inl rfl) pe_int) 
    (pss_cons (ps_set (i := 18) sc_law_statement_run.nd rfl (Or.inl rfl) (pv 8)) 
    (pss_cons (ps_if (pt_cmpR op_gt (pv 13) pe_int (nomark _)) 
      (pss_cons (ps_set (i := 18) sc_law_statement_run.nd rfl (Or.inl rfl) (C8.pe_c C_law_fold_run hr (by omega) rfl (pa_cons (pv 0) (pa_cons (pv 1) (pa_cons (pv 2) (pa_cons (pv 8) (pa_cons pe_int (pa_cons (pv 13) (pa_cons (pv 4) (pa_cons (pv 5) pa_nil)))))))))) 
      (pss_one (ps_set (i := 17) sc_law_statement_run.nd rfl (Or.inl rfl) (pe_ix (kix_tup K rfl) (pe_ix (kix_list K rfl) (pv 0) (pv 18) (fun _ _ => rfl)) pe_int (fun _ _ => rfl))))) pss_nil) 
    (pss_cons (ps_dput (hu_of hr) (pv 4) (pe_ix (kix_tup K rfl) (pv 1) pe_int (fun _ _ => rfl)) (pv 17) rfl) 
    (pss_one (ps_ret (C8.pe_c C_law_deed hr (by omega) rfl (pa_cons (pv 0) (pa_cons (pe_op op_catN (pv 2) (pe_tup (pa_cons (pe_un un_neg pe_int) pa_nil))) (pa_cons pe_str (pa_cons (pe_lst pa_nil) (pa_cons (pe_lst (pa_cons (pe_ix (kix_tup K rfl) (pv 1) pe_int (fun _ _ => rfl)) pa_nil)) (pa_cons (pe_lst pa_nil) (pa_cons (pv 17) (pa_cons (pe_lst (pa_cons (pv 18) pa_nil)) pa_nil)))))))))))))))))))))))))))), ?_⟩
  have few := hX.few
  have lq := hX.lq
  have oc : c.ord.length ≤ c.mu := Nat.le_add_left _ _
  have nw1 := nw_stepC q k x c st
  have K46 := KS_46 d
  have ndd : nda ≠ da := fun z => by obtain ⟨_, e1, _⟩ := hD; obtain ⟨_, e2, _⟩ := hel; rw [z, e1] at e2; cases e2
  cases st with
  | wait t =>
    obtain ⟨a, rfl, ha⟩ := hds
    refine ⟨_, rfl, _, _, _, _, rfl, rfl, SqT.of ha, at0, _, rfl, rfl, _, rfl, iteDF (by decide) ⟨_, rfl, rfl, _, rfl, iteDF (by decide) ⟨_, rfl, rfl, _, rfl, iteD (by decide) ?_⟩⟩⟩
    refine ⟨_, rfl, _, rfl, Nat.zero_le _, fun p5 hp5 => ⟨Nat.zero_le _, fun p6 hp6 => ⟨Nat.zero_le _, fun p7 hp7 => ?_⟩⟩⟩
    have s5 := same_new hp5 (.lst [])
    have s6 := same_new hp6 (.lst [])
    have s7 := same_new hp7 (.lst [])
    have k57 := s5.trans (s6.trans s7)
    have ha7 := k57 _ _ ha
    obtain ⟨kve, hke, ale⟩ := hel
    obtain ⟨ve, hve⟩ := eo t wf.2
    obtain ⟨u, hu, hu2⟩ := ale.look inr_inj t hve
    have hu2' : u = .int ve := hu2
    subst hu2'
    refine ⟨_, rfl, _, rfl, _, rfl, _, _, _, _, rfl, rfl, SqT.of ha7, at1, _, _, rfl, dget_k (k57 _ _ hke) hu, le_line (by show 2 ≤ 1000; decide), fun p8 hp8 => ?_⟩
    have s8 := same_new hp8 (.lst [V.int last, V.int ve])
    have k58 := k57.trans s8
    refine ⟨da, na, p5, p6, p7, p8, "await", 0, ds, q ++ [(k : Int)], [], [], [], [last, ve], rfl, hD.same k58, by omega, hn.mono (Tk.same k58), (s6.trans (s7.trans s8)) _ _ upd_same, by decide, (s7.trans s8) _ _ upd_same, s8 _ _ upd_same, upd_same, by show 2 ≤ 30; decide, fun H9 k9 D9 => ?_⟩
    refine q0 H9 [(q ++ [(k : Int)], 0)] _ el ((Kp.same k58).trans (k9.sub (by simp +contextual))) (nw1.weak fun n e => by rw [e]; exact List.prefix_refl _) D9 ?_ ?_ eo (by omega)
    · exact (hD.same k58).st k9 (hst.same k58)
    · exact (hD.same k58).st k9 (ST.same k58 ⟨kve, hke, ale⟩)
  | set y e =>
    obtain ⟨a, ve, rfl, ha, he⟩ := hds
    refine ⟨_, rfl, _, _, _, _, rfl, rfl, SqT.of ha, at0, _, rfl, rfl, _, rfl, iteDF (by decide) ⟨_, rfl, rfl, _, rfl, iteDF (by decide) ⟨_, rfl, rfl, _, rfl, iteDF (by decide) ?_⟩⟩⟩
    refine ⟨_, rfl, le_line (by show 6 ≤ 1000; decide), fun p1 hp1 => ⟨le_line (by show 6 ≤ 1000; decide), fun p2 hp2 => ?_⟩⟩
    have t1 := same_new hp1 (.lst [V.int 0, V.int 3, V.int 1, V.int 2, V.int 4, V.int 2])
    have t2 := same_new hp2 (.lst [V.str "", V.str "add", V.str "if", V.str "each", V.str "fold", V.str "set"])
    have t12 := t1.trans t2
    have g1 := t2 _ _ (upd_same : upd H p1 (.lst [V.int 0, V.int 3, V.int 1, V.int 2, V.int 4, V.int 2]) p1 = _)
    have g2 : upd (upd H p1 (.lst [V.int 0, V.int 3, V.int 1, V.int 2, V.int 4, V.int 2])) p2 (.lst [V.str "", V.str "add", V.str "if", V.str "each", V.str "fold", V.str "set"]) p2 = _ := upd_same
    generalize upd (upd H p1 (.lst [V.int 0, V.int 3, V.int 1, V.int 2, V.int 4, V.int 2])) p2 (.lst [V.str "", V.str "add", V.str "if", V.str "each", V.str "fold", V.str "set"]) = H2 at t12 g1 g2
    clear t1 t2 hp1 hp2
    have ha2 := t12 _ _ ha
    refine ⟨.inl ⟨rfl, _, SqL.of g2⟩, _, rfl, p2, _, _, 5, _, rfl, rfl, SqL.of g2, rfl, rfl, rfl, rfl, idx_of (by decide), _, _, _, _, rfl, rfl, SqL.of g1, atI_nat (j := 5) rfl, _, _, _, _, rfl, rfl, SqT.of ha2, at2, ?_⟩
    refine ⟨_, rfl, _, rfl, _, rfl, ve, wa, ea, e, c.u.st, x.env, L, rfl, he.mono (Tk.same t12), hst.same t12, henv.same t12, hbv, hX.bv, hX.eo, wf.2.1, Nat.lt_succ_of_le wf.2.2, fun H3 t3 => ?_⟩
    have t13 := t12.trans t3
    refine ⟨_, rfl, ve, e, rfl, he.mono (Tk.same t13), Nat.lt_succ_of_le wf.2.2, by decide, fun H4 a4 w4 t4 g4 l4 => ?_⟩
    have k4 := t13.trans t4
    have l44 : w4.length ≤ 30 := Nat.le_trans l4 ((by decide : ∀ m, m < 3 → 2 ^ m ≤ 30) _ (Nat.lt_succ_of_le wf.2.2))
    have ha4 := k4 _ _ ha
    clear t12 t13 t3 t4 g1 g2 l4
    obtain ⟨kvs, hs, al⟩ := hst.same k4
    have stl : c.u.st.length ≤ c.mu := by unfold Cf.mu US.sz; omega
    refine ⟨_, rfl, rfl, _, rfl, iteD (by decide) ⟨_, rfl, _, rfl, _, rfl, _, _, _, _, rfl, rfl, SqT.of ha4, at1, _, _, rfl, dput_k hs (by rw [al.len]; omega), ?_⟩⟩
    have D4 := hD.same k4
    have D5 := D4.put hs rfl (kv2 := putK kvs (Sum.inr y) (.int (evE c.u.st x.env e)))
    have ST5 : ST (upd H4 wa (.dK (putK kvs (Sum.inr y) (.int (evE c.u.st x.env e))))) (aput c.u.st y (evE c.u.st x.env e)) wa := ⟨_, upd_same, al.put inr_inj rfl⟩
    have k45 : Kp [wa] H4 (upd H4 wa (.dK (putK kvs (Sum.inr y) (.int (evE c.u.st x.env e))))) := Kp.upd (by simp)
    have T45 : Tk H4 (upd H4 wa (.dK (putK kvs (Sum.inr y) (.int (evE c.u.st x.env e))))) := tk_upd fun vs z => by rw [hs] at z; cases z
    have g5 : upd H4 wa (.dK (putK kvs (Sum.inr y) (.int (evE c.u.st x.env e)))) a4 = some (.lst (w4.map V.str)) := by
      rw [upd_ne]
      · exact g4
      · intro z; rw [z, hs] at g4; cases g4
    have nd5 : ST (upd H4 wa (.dK (putK kvs (Sum.inr y) (.int (evE c.u.st x.env e))))) el nda := (hel.same k4).kp k45 (by rw [List.mem_singleton]; exact Ne.symm nwd)
    generalize upd H4 wa (.dK (putK kvs (Sum.inr y) (.int (evE c.u.st x.env e)))) = H5 at D5 ST5 k45 T45 g5 nd5
    have ha5 := T45 _ _ ha4
    refine ⟨_, rfl, _, rfl, _, rfl, _, rfl, _, _, _, _, rfl, rfl, SqT.of ha5, at1, le_line (by show 1 ≤ 1000; decide), fun p6 hp6 => ⟨Nat.zero_le _, fun p7 hp7 => ?_⟩⟩
    have s6 := same_new hp6 (.lst [V.str y])
    have s7 := same_new hp7 (.lst [])
    refine ⟨_, rfl, _, rfl, le_line (by show 1 ≤ 1000; decide), fun p8 hp8 => ?_⟩
    have s8 := same_new hp8 (.lst [V.int last])
    have k58 := s6.trans (s7.trans s8)
    refine ⟨da, na, a4, p6, p7, p8, "set", evE c.u.st x.env e, ds, q ++ [(k : Int)], w4, _, [], [last], rfl, D5.same k58, by omega, (((hn.mono (Tk.same k4)).mono T45)).mono (Tk.same k58), k58 _ _ g5, l44, (s7.trans s8) _ _ upd_same, s8 _ _ upd_same, upd_same, by show 1 ≤ 30; decide, fun H9 k9 D9 => ?_⟩
    refine q0 H9 [(q ++ [(k : Int)], evE c.u.st x.env e)] _ el ((Kp.same k4).trans ((k45.sub (by simp +contextual)).trans ((Kp.same k58).trans (k9.sub (by simp +contextual))))) (nw1.weak fun n e => by rw [e]; exact List.prefix_refl _) D9 ?_ ?_ eo (by omega)
    · have e1 : (pS q k x c (.set y e)).u.st = aput c.u.st y (evE c.u.st x.env e) := by
        show (stepU _ _ _ _ _ _).st = _
        rw [st_stepU]
        rfl
      rw [e1]
      exact (D5.same k58).st k9 (ST5.same k58)
    · exact (D5.same k58).st k9 (nd5.same k58)
  | add y o e =>
    obtain ⟨a, ve, rfl, ha, he⟩ := hds
    refine ⟨_, rfl, _, _, _, _, rfl, rfl, SqT.of ha, at0, _, rfl, rfl, _, rfl, iteDF (by decide) ⟨_, rfl, rfl, _, rfl, iteDF (by decide) ⟨_, rfl, rfl, _, rfl, iteDF (by decide) ?_⟩⟩⟩
    refine ⟨_, rfl, le_line (by show 6 ≤ 1000; decide), fun p1 hp1 => ⟨le_line (by show 6 ≤ 1000; decide), fun p2 hp2 => ?_⟩⟩
    have t1 := same_new hp1 (.lst [V.int 0, V.int 3, V.int 1, V.int 2, V.int 4, V.int 2])
    have t2 := same_new hp2 (.lst [V.str "", V.str "add", V.str "if", V.str "each", V.str "fold", V.str "set"])
    have t12 := t1.trans t2
    have g1 := t2 _ _ (upd_same : upd H p1 (.lst [V.int 0, V.int 3, V.int 1, V.int 2, V.int 4, V.int 2]) p1 = _)
    have g2 : upd (upd H p1 (.lst [V.int 0, V.int 3, V.int 1, V.int 2, V.int 4, V.int 2])) p2 (.lst [V.str "", V.str "add", V.str "if", V.str "each", V.str "fold", V.str "set"]) p2 = _ := upd_same
    generalize upd (upd H p1 (.lst [V.int 0, V.int 3, V.int 1, V.int 2, V.int 4, V.int 2])) p2 (.lst [V.str "", V.str "add", V.str "if", V.str "each", V.str "fold", V.str "set"]) = H2 at t12 g1 g2
    clear t1 t2 hp1 hp2
    have ha2 := t12 _ _ ha
    refine ⟨.inl ⟨rfl, _, SqL.of g2⟩, _, rfl, p2, _, _, 1, _, rfl, rfl, SqL.of g2, rfl, rfl, rfl, rfl, idx_of (by decide), _, _, _, _, rfl, rfl, SqL.of g1, atI_nat (j := 1) rfl, _, _, _, _, rfl, rfl, SqT.of ha2, at3, ?_⟩
    refine ⟨_, rfl, _, rfl, _, rfl, ve, wa, ea, e, c.u.st, x.env, L, rfl, he.mono (Tk.same t12), hst.same t12, henv.same t12, hbv, hX.bv, hX.eo, wf.2.2.1, Nat.lt_succ_of_le wf.2.2.2, fun H3 t3 => ?_⟩
    have t13 := t12.trans t3
    refine ⟨_, rfl, ve, e, rfl, he.mono (Tk.same t13), Nat.lt_succ_of_le wf.2.2.2, by decide, fun H4 a4 w4 t4 g4 l4 => ?_⟩
    have k4 := t13.trans t4
    have l44 : w4.length ≤ 30 := Nat.le_trans l4 ((by decide : ∀ m, m < 3 → 2 ^ m ≤ 30) _ (Nat.lt_succ_of_le wf.2.2.2))
    have ha4 := k4 _ _ ha
    clear t12 t13 t3 t4 g1 g2 l4
    have stl : c.u.st.length ≤ c.mu := by unfold Cf.mu US.sz; omega
    obtain ⟨kv0, hs0, al0⟩ := hst.same k4
    have eg : (valV kv0 (Sum.inr y)).getD (.int 0) = .int ((alook c.u.st y).getD 0) := by
      cases z : alook c.u.st y with
      | none => rw [al0.none inr_inj y z]; rfl
      | some x =>
        obtain ⟨u, h1, h2⟩ := al0.look inr_inj y z
        rw [h1, h2]; rfl
    have in0 : InP ((alook c.u.st y).getD 0) := by
      cases z : alook c.u.st y with
      | none => exact ⟨by decide, by decide⟩
      | some x => exact hbv.look z
    refine ⟨_, rfl, rfl, _, rfl, iteDF (by decide) ⟨_, rfl, rfl, _, rfl, iteD (by decide) ?_⟩⟩
    refine ⟨_, rfl, _, _, _, _, rfl, rfl, SqT.of ha4, at2, _, rfl, wa, rfl, .inl ⟨kv0, .inl hs0⟩, _, rfl, _, _, _, _, rfl, rfl, SqT.of ha4, at1, _, dgetN_k hs0 rfl, _, rfl, o, (alook c.u.st y).getD 0, evE c.u.st x.env e, congrArg (fun z => [V.str o, z, V.int (evE c.u.st x.env e)]) eg, in0, evE_in hbv hX.bv wf.2.2.1, fun H6 t6 => ?_⟩
    have k6 := k4.trans t6
    have hs := t6 _ _ hs0
    have al := al0
    have ha6 := t6 _ _ ha4
    have g6 := t6 _ _ g4
    generalize hv : opd o ((alook c.u.st y).getD 0) (evE c.u.st x.env e) = v2
    refine ⟨_, rfl, _, rfl, _, _, _, _, rfl, rfl, SqT.of ha6, at1, _, _, rfl, dput_k hs (by rw [al.len]; omega), ?_⟩
    have D4 := hD.same k6
    have D5 := D4.put hs rfl (kv2 := putK kv0 (Sum.inr y) (.int v2))
    have ST5 : ST (upd H6 wa (.dK (putK kv0 (Sum.inr y) (.int v2)))) (aput c.u.st y v2) wa := ⟨_, upd_same, al.put inr_inj rfl⟩
    have k45 : Kp [wa] H6 (upd H6 wa (.dK (putK kv0 (Sum.inr y) (.int v2)))) := Kp.upd (by simp)
    have T45 : Tk H6 (upd H6 wa (.dK (putK kv0 (Sum.inr y) (.int v2)))) := tk_upd fun vs z => by rw [hs] at z; cases z
    have g5 : upd H6 wa (.dK (putK kv0 (Sum.inr y) (.int v2))) a4 = some (.lst (w4.map V.str)) := by
      rw [upd_ne]
      · exact g6
      · intro z; rw [z, hs] at g6; cases g6
    have nd5 : ST (upd H6 wa (.dK (putK kv0 (Sum.inr y) (.int v2)))) el nda := (hel.same k6).kp k45 (by rw [List.mem_singleton]; exact Ne.symm nwd)
    generalize upd H6 wa (.dK (putK kv0 (Sum.inr y) (.int v2))) = H5 at D5 ST5 k45 T45 g5 nd5
    have ha5 := T45 _ _ ha6
    refine ⟨_, rfl, _, rfl, _, rfl, Nat.zero_le _, fun p6 hp6 => ?_⟩
    have s6 := same_new hp6 (.lst [])
    have ha7 := s6 _ _ ha5
    refine ⟨_, rfl, _, _, _, _, rfl, rfl, SqT.of ha7, at1, _, rfl, _, _, _, _, rfl, rfl, SqT.of ha7, at2, le_line (by show 2 ≤ 1000; decide), fun pt hpt => ⟨le_line (by show 1 ≤ 1000; decide), fun p7 hp7 => ?_⟩⟩
    have st := same_new hpt (.tup [V.str y, V.str o])
    have s7 := same_new hp7 (.lst [V.ref pt])
    refine ⟨_, rfl, _, rfl, le_line (by show 1 ≤ 1000; decide), fun p8 hp8 => ?_⟩
    have s8 := same_new hp8 (.lst [V.int last])
    have k68 := st.trans (s7.trans s8)
    have k58 := s6.trans k68
    refine ⟨da, na, a4, p6, p7, p8, "add", evE c.u.st x.env e, ds, q ++ [(k : Int)], w4, [], [V.ref pt], [last], rfl, D5.same k58, by omega, (((hn.mono (Tk.same k6)).mono T45)).mono (Tk.same k58), k58 _ _ g5, l44, k68 _ _ upd_same, s8 _ _ upd_same, upd_same, by show 1 ≤ 30; decide, fun H9 k9 D9 => ?_⟩
    refine q0 H9 [(q ++ [(k : Int)], evE c.u.st x.env e)] _ el ((Kp.same k6).trans ((k45.sub (by simp +contextual)).trans ((Kp.same k58).trans (k9.sub (by simp +contextual))))) (nw1.weak fun n e => by rw [e]; exact List.prefix_refl _) D9 ?_ ?_ eo (by omega)
    · have e1 : (pS q k x c (.add y o e)).u.st = aput c.u.st y v2 := by
        show (stepU _ _ _ _ _ _).st = _
        rw [st_stepU, ← hv]
        rfl
      rw [e1]
      exact (D5.same k58).st k9 (ST5.same k58)
    · exact (D5.same k58).st k9 (nd5.same k58)
  | cond e a b =>
    obtain ⟨a0, ve, vb, vc, xb, xc, rfl, ha, he, hvb, hsb, hvc, hsc⟩ := hds
    refine ⟨_, rfl, _, _, _, _, rfl, rfl, SqT.of ha, at0, _, rfl, rfl, _, rfl, iteDF (by decide) ⟨_, rfl, rfl, _, rfl, iteDF (by decide) ⟨_, rfl, rfl, _, rfl, iteDF (by decide) ?_⟩⟩⟩
    refine ⟨_, rfl, le_line (by show 6 ≤ 1000; decide), fun p1 hp1 => ⟨le_line (by show 6 ≤ 1000; decide), fun p2 hp2 => ?_⟩⟩
    have t1 := same_new hp1 (.lst [V.int 0, V.int 3, V.int 1, V.int 2, V.int 4, V.int 2])
    have t2 := same_new hp2 (.lst [V.str "", V.str "add", V.str "if", V.str "each", V.str "fold", V.str "set"])
    have t12 := t1.trans t2
    have g1 := t2 _ _ (upd_same : upd H p1 (.lst [V.int 0, V.int 3, V.int 1, V.int 2, V.int 4, V.int 2]) p1 = _)
    have g2 : upd (upd H p1 (.lst [V.int 0, V.int 3, V.int 1, V.int 2, V.int 4, V.int 2])) p2 (.lst [V.str "", V.str "add", V.str "if", V.str "each", V.str "fold", V.str "set"]) p2 = _ := upd_same
    generalize upd (upd H p1 (.lst [V.int 0, V.int 3, V.int 1, V.int 2, V.int 4, V.int 2])) p2 (.lst [V.str "", V.str "add", V.str "if", V.str "each", V.str "fold", V.str "set"]) = H2 at t12 g1 g2
    clear t1 t2 hp1 hp2
    have ha2 := t12 _ _ ha
    refine ⟨.inl ⟨rfl, _, SqL.of g2⟩, _, rfl, p2, _, _, 2, _, rfl, rfl, SqL.of g2, rfl, rfl, rfl, rfl, idx_of (by decide), _, _, _, _, rfl, rfl, SqL.of g1, atI_nat (j := 2) rfl, _, _, _, _, rfl, rfl, SqT.of ha2, at1, ?_⟩
    refine ⟨_, rfl, _, rfl, _, rfl, ve, wa, ea, e, c.u.st, x.env, L, rfl, he.mono (Tk.same t12), hst.same t12, henv.same t12, hbv, hX.bv, hX.eo, wf.1.1, Nat.lt_succ_of_le wf.1.2, fun H3 t3 => ?_⟩
    have t13 := t12.trans t3
    refine ⟨_, rfl, ve, e, rfl, he.mono (Tk.same t13), Nat.lt_succ_of_le wf.1.2, by decide, fun H4 a4 w4 t4 g4 l4 => ?_⟩
    have k4 := t13.trans t4
    have l44 : w4.length ≤ 30 := Nat.le_trans l4 ((by decide : ∀ m, m < 3 → 2 ^ m ≤ 30) _ (Nat.lt_succ_of_le wf.1.2))
    have ha4 := k4 _ _ ha
    clear t12 t13 t3 t4 g1 g2 l4
    refine ⟨_, rfl, rfl, _, rfl, iteDF (by decide) ⟨_, rfl, rfl, _, rfl, iteDF (by decide) ?_⟩⟩
    refine ⟨_, rfl, _, rfl, _, rfl, _, rfl, Nat.zero_le _, fun p6 hp6 => ⟨Nat.zero_le _, fun p7 hp7 => ?_⟩⟩
    have s6 := same_new hp6 (.lst [])
    have s7 := same_new hp7 (.lst [])
    refine ⟨_, rfl, _, rfl, le_line (by show 1 ≤ 1000; decide), fun p8 hp8 => ?_⟩
    have s8 := same_new hp8 (.lst [V.int last])
    have k58 := s6.trans (s7.trans s8)
    have k08 := k4.trans k58
    refine ⟨da, na, a4, p6, p7, p8, "if", evE c.u.st x.env e, ds, q ++ [(k : Int)], w4, [], [], [last], rfl, hD.same k08, by omega, hn.mono (Tk.same k08), k58 _ _ g4, l44, (s7.trans s8) _ _ upd_same, s8 _ _ upd_same, upd_same, by show 1 ≤ 30; decide, fun H9 k9 D9 => ?_⟩
    have T9 : Tk H H9 := (Tk.same k08).trans ((hD.same k08).tk k9)
    have st9 := (hD.same k08).st k9 (hst.same k08)
    have env9 := (hD.same k08).st k9 (henv.same k08)
    have end9 := (hD.same k08).st k9 (hel.same k08)
    have K09 : Kp [da] H H9 := (Kp.same k08).trans k9
    have hn9 := hn.mono T9
    have ha9 := T9 _ _ ha
    clear s6 s7 s8 k58 k08 hp6 hp7 hp8 g4 ha4 k4 k9 l44
    have ldn := nw1.len ld0
    have stE : (stepC q k x c (.cond e a b)).u.st = c.u.st := st_stepU _ _ _ _ _ _
    have mu1 := (mu_stepC q k x c wf).1
    have kd0 := KS_60 wf.2.1
    have d0 : 0 < d := wf.2.1
    by_cases cz : evE c.u.st x.env e = 0
    · have ep : pS q k x c (.cond e a b) = pB (q ++ [(k : Int)] ++ [1]) 0 ⟨b, x.env, some (q ++ [(k : Int)]), some (q, k)⟩ (stepC q k x c (.cond e a b)) b := by
        unfold pS
        rw [if_neg (fun w => w cz)]
      refine ⟨_, rfl, rfl, _, rfl, iteD (by decide) ⟨_, rfl, rfl, .inr ⟨_, rfl, ?_⟩⟩⟩
      rw [cz, decide_eq_true rfl]
      refine ⟨_, rfl, _, rfl, _, rfl, _, _, rfl, rfl, _, _, _, _, rfl, rfl, SqT.of ha9, at3, _, rfl, _, rfl, le_line (by show 1 ≤ 1000; decide), fun t ht => ?_⟩
      have st3 := same_new ht (.tup [V.int (1 : Int)])
      refine ⟨q ++ [(k : Int)], [(1 : Int)], na, t, rfl, rfl, hn9.mono (Tk.same st3), upd_same, by simp, by rw [List.length_append]; simp; omega, fun H4 r4 s4 n4 => ?_⟩
      have k94 := st3.trans s4
      have T94 := T9.trans (Tk.same k94)
      have l6 : b.length * KS (d - 1) ≤ 6 * KS (d - 1) := Nat.mul_le_mul wf.2.2.2.2.1 (Nat.le_refl _)
      refine ⟨_, rfl, _, rfl, _, rfl, _, rfl, da, vc, r4, wa, ea, nda, _, q ++ [(k : Int)] ++ [(1 : Int)], d - 1, ⟨b, x.env, some (q ++ [(k : Int)]), some (q, k)⟩, stepC q k x c (.cond e a b), L, TT, ds ++ [(q ++ [(k : Int)], evE c.u.st x.env e)], el, rfl, ⟨_, T94 _ _ hvc, hsc.mono T94⟩, D9.same k94, ldn, n4, by rw [stE]; exact st9.same k94, env9.same k94, end9.same k94, nwe, nwd, eo, by omega, hX.below wf.2.1 wf.2.2.2.2.1 wf.2.2.2.2.2, by rw [stE]; exact hbv, by omega, by show (stepC q k x c (.cond e a b)).mu + b.length * KS (d - 1) + 5000 < sizeLine; omega, fun H5 new r k5 nw5 D5 st5 => ?_⟩
      refine q0 H5 ([(q ++ [(k : Int)], evE c.u.st x.env e)] ++ new) r el ?_ ?_ (by rw [← List.append_assoc]; exact D5) ?_ ?_ eo (by omega)
      · exact (K09.sub (by simp +contextual)).trans ((Kp.same k94).trans (k5.sub (by simp +contextual)))
      · rw [ep]
        exact nw1.app nw5 (loc_pB _ _ _ _ _) (fun n e => by rw [e]; exact not_long) (fun n e => by rw [e]; exact List.prefix_refl _) (fun n ⟨j, _, h⟩ => (List.prefix_append _ _).trans ((List.prefix_append _ _).trans h))
      · rw [ep]; exact st5
      · exact (end9.same k94).kp k5 (by simp [ndd, Ne.symm nwd])
    · have ep : pS q k x c (.cond e a b) = pB (q ++ [(k : Int)] ++ [0]) 0 ⟨a, x.env, some (q ++ [(k : Int)]), some (q, k)⟩ (stepC q k x c (.cond e a b)) a := by
        unfold pS
        rw [if_pos cz]
      refine ⟨_, rfl, rfl, _, rfl, iteD (by decide) ⟨_, rfl, rfl, .inr ⟨_, rfl, ?_⟩⟩⟩
      rw [decide_eq_false (fun z => cz (V.int.inj z))]
      refine ⟨_, rfl, _, rfl, _, rfl, _, _, rfl, rfl, _, _, _, _, rfl, rfl, SqT.of ha9, at2, _, rfl, _, rfl, le_line (by show 1 ≤ 1000; decide), fun t ht => ?_⟩
      have st3 := same_new ht (.tup [V.int (0 : Int)])
      refine ⟨q ++ [(k : Int)], [(0 : Int)], na, t, rfl, rfl, hn9.mono (Tk.same st3), upd_same, by simp, by rw [List.length_append]; simp; omega, fun H4 r4 s4 n4 => ?_⟩
      have k94 := st3.trans s4
      have T94 := T9.trans (Tk.same k94)
      have l6 : a.length * KS (d - 1) ≤ 6 * KS (d - 1) := Nat.mul_le_mul wf.2.2.1 (Nat.le_refl _)
      refine ⟨_, rfl, _, rfl, _, rfl, _, rfl, da, vb, r4, wa, ea, nda, _, q ++ [(k : Int)] ++ [(0 : Int)], d - 1, ⟨a, x.env, some (q ++ [(k : Int)]), some (q, k)⟩, stepC q k x c (.cond e a b), L, TT, ds ++ [(q ++ [(k : Int)], evE c.u.st x.env e)], el, rfl, ⟨_, T94 _ _ hvb, hsb.mono T94⟩, D9.same k94, ldn, n4, by rw [stE]; exact st9.same k94, env9.same k94, end9.same k94, nwe, nwd, eo, by omega, hX.below wf.2.1 wf.2.2.1 wf.2.2.2.1, by rw [stE]; exact hbv, by omega, by show (stepC q k x c (.cond e a b)).mu + a.length * KS (d - 1) + 5000 < sizeLine; omega, fun H5 new r k5 nw5 D5 st5 => ?_⟩
      refine q0 H5 ([(q ++ [(k : Int)], evE c.u.st x.env e)] ++ new) r el ?_ ?_ (by rw [← List.append_assoc]; exact D5) ?_ ?_ eo (by omega)
      · exact (K09.sub (by simp +contextual)).trans ((Kp.same k94).trans (k5.sub (by simp +contextual)))
      · rw [ep]
        exact nw1.app nw5 (loc_pB _ _ _ _ _) (fun n e => by rw [e]; exact not_long) (fun n e => by rw [e]; exact List.prefix_refl _) (fun n ⟨j, _, h⟩ => (List.prefix_append _ _).trans ((List.prefix_append _ _).trans h))
      · rw [ep]; exact st5
      · exact (end9.same k94).kp k5 (by simp [ndd, Ne.symm nwd])
  | fork bs =>
    obtain ⟨a, vb, xs, rfl, ha, hvb, hbs⟩ := hds
    refine ⟨_, rfl, _, _, _, _, rfl, rfl, SqT.of ha, at0, _, rfl, rfl, _, rfl, iteD (by decide) ?_⟩
    refine ⟨_, rfl, _, rfl, Nat.zero_le _, fun p5 hp5 => ⟨Nat.zero_le _, fun p6 hp6 => ⟨Nat.zero_le _, fun p7 hp7 => ?_⟩⟩⟩
    have s5 := same_new hp5 (.lst [])
    have s6 := same_new hp6 (.lst [])
    have s7 := same_new hp7 (.lst [])
    refine ⟨_, rfl, le_line (by show 1 ≤ 1000; decide), fun p8 hp8 => ?_⟩
    have s8 := same_new hp8 (.lst [V.int last])
    have k08 := s5.trans (s6.trans (s7.trans s8))
    refine ⟨da, na, p5, p6, p7, p8, "fork", 0, ds, q ++ [(k : Int)], [], [], [], [last], rfl, hD.same k08, by omega, hn.mono (Tk.same k08), (s6.trans (s7.trans s8)) _ _ upd_same, by decide, (s7.trans s8) _ _ upd_same, s8 _ _ upd_same, upd_same, by show 1 ≤ 30; decide, fun H9 k9 D9 => ?_⟩
    have T9 : Tk H H9 := (Tk.same k08).trans ((hD.same k08).tk k9)
    have st9 := (hD.same k08).st k9 (hst.same k08)
    have env9 := (hD.same k08).st k9 (henv.same k08)
    have end9 := (hD.same k08).st k9 (hel.same k08)
    have K09 : Kp [da] H H9 := (Kp.same k08).trans k9
    have hn9 := hn.mono T9
    have ha9 := T9 _ _ ha
    clear s5 s6 s7 s8 k08 hp5 hp6 hp7 hp8 k9
    have ldn := nw1.len ld0
    have stE : (stepC q k x c (.fork bs)).u.st = c.u.st := st_stepU _ _ _ _ _ _
    have mu1 := (mu_stepC q k x c wf).1
    have kd0 := KS_60 wf.1
    have d0 : 0 < d := wf.1
    have hvb9 := T9 _ _ hvb
    have few4 := wf.2.2.1
    have lxs := hbs.length
    refine ⟨_, rfl, _, rfl, _, _, _, _, rfl, rfl, SqT.of ha9, at1, _, rfl, _, rfl, _, rfl, _, rfl, le_line (by show 1 ≤ 1000; decide), fun pl hpl => ?_⟩
    have sl := same_new hpl (.lst [V.ref ea])
    have hpl1 : upd H9 pl (.lst [V.ref ea]) pl = some (.lst [V.ref ea]) := upd_same
    generalize upd H9 pl (.lst [V.ref ea]) = H10 at sl hpl1
    have ha10 := sl _ _ ha9
    have hvb10 := sl _ _ hvb9
    refine ⟨_, rfl, _, _, _, _, rfl, rfl, SqT.of ha10, at1, _, _, rfl, .inr (SqT.of hvb10), pl, _, _, rfl, rfl, hpl1, by omega, by omega, le_line (by show 1 * ((xs.length : Int)).toNat ≤ 1000; omega), fun pr hpr => ?_⟩
    have sr := same_new hpr (.lst (List.replicate ((xs.length : Int)).toNat [V.ref ea]).flatten)
    have hpr1 : upd H10 pr (.lst (List.replicate ((xs.length : Int)).toNat [V.ref ea]).flatten) pr = some (.lst (List.replicate bs.length (V.ref ea))) := by
      rw [upd_same, flat_rep, show ((xs.length : Int)).toNat = bs.length by omega]
    generalize upd H10 pr (.lst (List.replicate ((xs.length : Int)).toNat [V.ref ea]).flatten) = H11 at sr hpr1
    have s911 := sl.trans sr
    have T11 := T9.trans (Tk.same s911)
    have D11 := D9.same s911
    have nvd : vb ≠ da := fun z => by obtain ⟨_, e1, _⟩ := hD; rw [z, e1] at hvb; cases hvb
    have nrd : pr ≠ da := fun z => by obtain ⟨_, e1, _⟩ := D9.same sl; rw [← z, hpr] at e1; cases e1
    have hW := walk_fork (q ++ [(k : Int)]) q k x.env (stepC q k x c (.fork bs)) bs
    refine ⟨_, rfl, da, vb, na, wa, pr, nda, _, q ++ [(k : Int)], bs.length, d - 1, (fun i => ⟨bs.getD i [], x.env, some (q ++ [(k : Int)]), some (q, (k : Int))⟩), (fun i => pBs (q ++ [(k : Int)]) q k x.env 0 (stepC q k x c (.fork bs)) (bs.take i)), TT, ds ++ [(q ++ [(k : Int)], 0)], el, xs, List.replicate bs.length (V.ref ea), rfl, .inr (s911 _ _ hvb9), lxs, (fun i hi => ?_), hpr1, (fun i hi => ⟨ea, by rw [List.getElem?_replicate, if_pos hi], env9.same s911, nwe⟩), nvd, nrd, D11, by show (ds ++ _).length = (pBs _ _ _ _ _ _ (bs.take 0)).ord.length; rw [List.take_zero]; exact ldn, hn9.mono (Tk.same s911), by rw [List.length_append]; show q.length + 1 ≤ 30; omega, ?_, end9.same s911, nwd, eo, by omega, hW, (fun i hi => ?_), ?_, by omega, by omega, ?_, fun H5 new r k5 nw5 D5 st5 => ?_⟩
    · obtain ⟨b, hb, db⟩ := (hbs.mono T11).at (List.getElem?_eq_getElem hi)
      refine ⟨b, hb, ?_⟩
      have e : bs.getD i [] = bs[i] := by rw [List.getD_eq_getElem?_getD, List.getElem?_eq_getElem hi]; rfl
      show DB H11 (bs.getD i []) b
      rw [e]
      exact db
    · show ST H11 (pBs _ _ _ _ _ _ (bs.take 0)).u.st wa
      rw [List.take_zero]
      show ST H11 (stepC q k x c (.fork bs)).u.st wa
      rw [stE]
      exact st9.same s911
    · have hb := wf.2.2.2.at (List.getElem?_eq_getElem hi)
      have e : bs.getD i [] = bs[i] := by rw [List.getD_eq_getElem?_getD, List.getElem?_eq_getElem hi]; rfl
      rw [← e] at hb
      exact ⟨L, hX.below wf.1 hb.1 hb.2⟩
    · show BV (pBs _ _ _ _ _ _ (bs.take 0)).u.st
      rw [List.take_zero]
      show BV (stepC q k x c (.fork bs)).u.st
      rw [stE]
      exact hbv
    · show (pBs _ _ _ _ _ _ (bs.take 0)).mu + 36 * KS (d - 1) + 5000 < sizeLine
      rw [List.take_zero]
      show (stepC q k x c (.fork bs)).mu + 36 * KS (d - 1) + 5000 < sizeLine
      omega
    have ep : pS q k x c (.fork bs) = (pBs (q ++ [(k : Int)]) q k x.env 0 (stepC q k x c (.fork bs)) (bs.take bs.length)).dn (q ++ [(k : Int)] ++ [-1]) 0 := by
      rw [List.take_length]
      unfold pS
      rfl
    refine q0 H5 ([(q ++ [(k : Int)], 0)] ++ new) r el ?_ ?_ (by rw [← List.append_assoc]; exact D5) ?_ ?_ eo (by omega)
    · exact (K09.sub (by simp +contextual)).trans ((Kp.same s911).trans (k5.sub (by simp +contextual)))
    · rw [ep]
      refine nw1.app2 nw5 (fun n e => ?_) (fun n e => by rw [e]; exact List.prefix_refl _) (fun n h => h)
      rw [e]
      show alook (aput _ _ _) _ = _
      rw [alook_ne (fun z => snoc_ne_self z)]
      have wk := (walk_keep hW (kk := q ++ [(k : Int)]) (fun i => not_long) bs.length (Nat.le_refl _)).2.2.1
      rw [List.take_zero] at wk
      exact wk
    · rw [ep]; exact st5
    · exact (end9.same s911).kp k5 (by simp [ndd, Ne.symm nwd])
  | each y e b =>
    obtain ⟨a, ve, vb, xb, rfl, ha, he, hvb, hsb⟩ := hds
    refine ⟨_, rfl, _, _, _, _, rfl, rfl, SqT.of ha, at0, _, rfl, rfl, _, rfl, iteDF (by decide) ⟨_, rfl, rfl, _, rfl, iteDF (by decide) ⟨_, rfl, rfl, _, rfl, iteDF (by decide) ?_⟩⟩⟩
    refine ⟨_, rfl, le_line (by show 6 ≤ 1000; decide), fun p1 hp1 => ⟨le_line (by show 6 ≤ 1000; decide), fun p2 hp2 => ?_⟩⟩
    have t1 := same_new hp1 (.lst [V.int 0, V.int 3, V.int 1, V.int 2, V.int 4, V.int 2])
    have t2 := same_new hp2 (.lst [V.str "", V.str "add", V.str "if", V.str "each", V.str "fold", V.str "set"])
    have t12 := t1.trans t2
    have g1 := t2 _ _ (upd_same : upd H p1 (.lst [V.int 0, V.int 3, V.int 1, V.int 2, V.int 4, V.int 2]) p1 = _)
    have g2 : upd (upd H p1 (.lst [V.int 0, V.int 3, V.int 1, V.int 2, V.int 4, V.int 2])) p2 (.lst [V.str "", V.str "add", V.str "if", V.str "each", V.str "fold", V.str "set"]) p2 = _ := upd_same
    generalize upd (upd H p1 (.lst [V.int 0, V.int 3, V.int 1, V.int 2, V.int 4, V.int 2])) p2 (.lst [V.str "", V.str "add", V.str "if", V.str "each", V.str "fold", V.str "set"]) = H2 at t12 g1 g2
    clear t1 t2 hp1 hp2
    have ha2 := t12 _ _ ha
    refine ⟨.inl ⟨rfl, _, SqL.of g2⟩, _, rfl, p2, _, _, 3, _, rfl, rfl, SqL.of g2, rfl, rfl, rfl, rfl, idx_of (by decide), _, _, _, _, rfl, rfl, SqL.of g1, atI_nat (j := 3) rfl, _, _, _, _, rfl, rfl, SqT.of ha2, at2, ?_⟩
    refine ⟨_, rfl, _, rfl, _, rfl, ve, wa, ea, e, c.u.st, x.env, L, rfl, he.mono (Tk.same t12), hst.same t12, henv.same t12, hbv, hX.bv, hX.eo, wf.2.1.1, Nat.lt_succ_of_le wf.2.1.2, fun H3 t3 => ?_⟩
    have t13 := t12.trans t3
    refine ⟨_, rfl, ve, e, rfl, he.mono (Tk.same t13), Nat.lt_succ_of_le wf.2.1.2, by decide, fun H4 a4 w4 t4 g4 l4 => ?_⟩
    have k4 := t13.trans t4
    have l44 : w4.length ≤ 30 := Nat.le_trans l4 ((by decide : ∀ m, m < 3 → 2 ^ m ≤ 30) _ (Nat.lt_succ_of_le wf.2.1.2))
    have ha4 := k4 _ _ ha
    clear t12 t13 t3 t4 g1 g2 l4
    refine ⟨_, rfl, rfl, _, rfl, iteDF (by decide) ⟨_, rfl, rfl, _, rfl, iteDF (by decide) ?_⟩⟩
    refine ⟨_, rfl, _, rfl, _, rfl, _, rfl, Nat.zero_le _, fun p6 hp6 => ⟨Nat.zero_le _, fun p7 hp7 => ?_⟩⟩
    have s6 := same_new hp6 (.lst [])
    have s7 := same_new hp7 (.lst [])
    refine ⟨_, rfl, _, rfl, le_line (by show 1 ≤ 1000; decide), fun p8 hp8 => ?_⟩
    have s8 := same_new hp8 (.lst [V.int last])
    have k58 := s6.trans (s7.trans s8)
    have k08 := k4.trans k58
    refine ⟨da, na, a4, p6, p7, p8, "each", evE c.u.st x.env e, ds, q ++ [(k : Int)], w4, [], [], [last], rfl, hD.same k08, by omega, hn.mono (Tk.same k08), k58 _ _ g4, l44, (s7.trans s8) _ _ upd_same, s8 _ _ upd_same, upd_same, by show 1 ≤ 30; decide, fun H9 k9 D9 => ?_⟩
    have T9 : Tk H H9 := (Tk.same k08).trans ((hD.same k08).tk k9)
    have st9 := (hD.same k08).st k9 (hst.same k08)
    have env9 := (hD.same k08).st k9 (henv.same k08)
    have end9 := (hD.same k08).st k9 (hel.same k08)
    have K09 : Kp [da] H H9 := (Kp.same k08).trans k9
    have hn9 := hn.mono T9
    have ha9 := T9 _ _ ha
    clear s6 s7 s8 k58 k08 hp6 hp7 hp8 g4 ha4 k4 k9 l44
    have ldn := nw1.len ld0
    have stE : (stepC q k x c (.each y e b)).u.st = c.u.st := st_stepU _ _ _ _ _ _
    have mu1 := (mu_stepC q k x c wf).1
    have kd0 := KS_60 wf.2.2.1
    have d0 : 0 < d := wf.2.2.1
    have hvb9 := T9 _ _ hvb
    have em7 := mod7 (evE c.u.st x.env e)
    refine ⟨_, rfl, rfl, _, rfl, iteDF (by decide) ⟨_, rfl, .inl ⟨_, rfl, _, _, rfl, rfl, (by show (0 : Int) < 7; decide), ?_⟩⟩⟩
    have vn : evE c.u.st x.env e % 7 = ((evE c.u.st x.env e % 7).toNat : Int) := by omega
    have ep : pS q k x c (.each y e b) = (eachC (fun i c => pB (q ++ [(k : Int)] ++ [(i : Int)]) 0 ⟨b, aput x.env y (i : Int), some (q ++ [(k : Int)]), some (q, k)⟩ c b) (evE c.u.st x.env e % 7).toNat (stepC q k x c (.each y e b))).dn (q ++ [(k : Int)] ++ [-1]) 0 := by
      unfold pS
      rfl
    have eres : resS c.u x (.each y e b) = evE c.u.st x.env e := rfl
    rw [eres] at nw1
    have ldn := nw1.len ld0
    generalize hm : (evE c.u.st x.env e % 7).toNat = m at vn em7 ep
    refine ⟨_, rfl, rfl, _, rfl, iteD (by decide) ⟨Nat.zero_le _, fun pD hpD => ⟨_, rfl, evE c.u.st x.env e % 7, rfl, by omega, by omega, ?_⟩⟩⟩
    have sD := same_new hpD (.lst [])
    have hD1 : upd H9 pD (.lst []) pD = some (.lst []) := upd_same
    generalize upd H9 pD (.lst []) = G0 at sD hD1
    rw [hm]
    have ndp : da ≠ pD := fun z => by obtain ⟨_, e1, _⟩ := D9; rw [z, hpD] at e1; cases e1
    have nep : ea ≠ pD := fun z => by obtain ⟨_, e1, _⟩ := env9; rw [z, hpD] at e1; cases e1
    refine for_range (lo := 0) (n := m) (fun i σ G => (∃ (c15 c16 : Option V), σ = [some (.ref da), some (.ref a), some (.ref na), some (.int last), some (.ref wa), some (.ref ea), some (.ref nda), some (.str "each"), some (.int (ds.length : Nat)), some ve, some (.int (evE c.u.st x.env e)), some (.ref a4), none, some (.int (evE c.u.st x.env e % 7)), some (.ref pD), c15, c16, none, none]) ∧ Kp [pD] G0 G ∧ ∃ rows : List V, G pD = some (.lst rows) ∧ rows.length = i ∧ ∀ j, j < i → ∃ ej, rows[j]? = some (.ref ej) ∧ ST G (aput x.env y (j : Int)) ej ∧ G0 ej = none)
      ⟨⟨_, _, rfl⟩, Kp.refl _ _, [], hD1, rfl, fun j hj => by omega⟩ (fun i σ G hi h => ?_) fun σ G h => ?_
    · obtain ⟨⟨c15, c16, rfl⟩, kG, rows, hrows, lrows, hall⟩ := h
      have z0 : (0 : Int) + (i : Nat) = (i : Int) := by omega
      rw [z0]
      obtain ⟨kvx, hkx, alx⟩ := (env9.same sD).kp kG (by rw [List.mem_singleton]; exact nep)
      have TG : Tk G0 G := fun b2 vs e2 => kG _ _ e2 (by rw [List.mem_singleton]; intro z; rw [z, hD1] at e2; cases e2)
      have elx := hX.el
      refine ⟨_, rfl, ea, kvx, rfl, .inl hkx, fun p hp => ?_⟩
      have s1 := same_new hp (.dK kvx)
      have hp1 : upd G p (.dK kvx) p = some (.dK kvx) := upd_same
      have haG := s1 _ _ (TG _ _ (sD _ _ ha9))
      have hrows1 := s1 _ _ hrows
      refine ⟨_, rfl, _, rfl, _, rfl, _, _, _, _, rfl, rfl, SqT.of haG, at1, _, _, rfl, dput_k hp1 (by rw [alx.len]; omega), ?_⟩
      have npD : pD ≠ p := fun z => by rw [z, hp] at hrows; cases hrows
      have hp2 : upd (upd G p (.dK kvx)) p (.dK (putK kvx (Sum.inr y) (.int (i : Nat)))) p = some (.dK (putK kvx (Sum.inr y) (.int (i : Nat)))) := upd_same
      have sG2 : Same G (upd (upd G p (.dK kvx)) p (.dK (putK kvx (Sum.inr y) (.int (i : Nat))))) := same_put hp s1 _
      generalize upd (upd G p (.dK kvx)) p (.dK (putK kvx (Sum.inr y) (.int (i : Nat)))) = G2 at hp2 sG2
      refine ⟨_, rfl, .inl ⟨rfl, _, SqL.of (sG2 _ _ hrows)⟩, _, rfl, pD, rows, _, rfl, rfl, sG2 _ _ hrows, lt_line (by omega), ?_⟩
      have k3 : Kp [pD] G2 (upd G2 pD (.lst (rows ++ [V.ref p]))) := Kp.upd (by simp)
      refine ⟨⟨_, _, rfl⟩, kG.trans ((Kp.same sG2).trans k3), _, upd_same, by rw [List.length_append, lrows]; rfl, fun j hj => ?_⟩
      by_cases c2 : j < i
      · obtain ⟨ej, h1, h2, h3⟩ := hall j c2
        refine ⟨ej, by rw [List.getElem?_append_left (by omega)]; exact h1, (h2.same sG2).kp k3 ?_, h3⟩
        rw [List.mem_singleton]
        intro z
        rw [z, hD1] at h3
        cases h3
      · have ej : j = i := by omega
        subst ej
        refine ⟨p, by rw [List.getElem?_append_right (by omega), lrows, Nat.sub_self]; rfl, ⟨_, (by rw [upd_ne (Ne.symm npD)]; exact hp2), alx.put inr_inj rfl⟩, ?_⟩
        cases z : G0 p with
        | none => rfl
        | some o =>
          have := kG _ _ z (by rw [List.mem_singleton]; exact Ne.symm npD)
          rw [hp] at this
          cases this
    · obtain ⟨⟨c15, c16, rfl⟩, kG, rows, hrows, lrows, hall⟩ := h
      have TG : Tk G0 G := fun b2 vs e2 => kG _ _ e2 (by rw [List.mem_singleton]; intro z; rw [z, hD1] at e2; cases e2)
      have haG := TG _ _ (sD _ _ ha9)
      have kp9 : ∀ b2 o, H9 b2 = some o → G b2 = some o := fun b2 o e2 => kG _ _ (sD _ _ e2) (by rw [List.mem_singleton]; intro z; rw [z, hpD] at e2; cases e2)
      have s9G : Same H9 G := kp9
      refine ⟨_, rfl, _, rfl, evE c.u.st x.env e % 7, rfl, by omega, by omega, fun pB2 hpB => ?_⟩
      rw [hm]
      refine lc_range (lo := 0) (n := m) (fun i G2 => Same G G2 ∧ G2 pB2 = some (.lst (List.replicate i (V.ref vb)))) ⟨same_new hpB _, upd_same⟩ (fun i G2 hi h => ?_) fun G2 h => ?_
      · obtain ⟨sG, hacc⟩ := h
        have haG2 := sG _ _ haG
        refine ⟨rfl, _, rfl, _, _, _, _, rfl, rfl, SqT.of haG2, at3, _, hacc, lt_line (by rw [List.length_replicate]; omega), same_put hpB sG _, ?_⟩
        rw [upd_same, List.replicate_succ']
      · obtain ⟨sG, hacc⟩ := h
        have s9G2 := s9G.trans sG
        have D11 := D9.same s9G2
        have nvd : pB2 ≠ da := fun z => by obtain ⟨_, e1, _⟩ := D9.same s9G; rw [← z, hpB] at e1; cases e1
        have nrd : pD ≠ da := Ne.symm ndp
        have hW := walk_each (q ++ [(k : Int)]) q k (fun i => aput x.env y (i : Int)) (stepC q k x c (.each y e b)) b m
        have T11 := T9.trans (Tk.same s9G2)
        refine ⟨_, rfl, _, rfl, _, rfl, _, rfl, _, rfl, da, pB2, na, wa, pD, nda, _, q ++ [(k : Int)], m, d - 1, (fun i => ⟨b, aput x.env y (i : Int), some (q ++ [(k : Int)]), some (q, (k : Int))⟩), (fun i => eachC (fun i c => pB (q ++ [(k : Int)] ++ [(i : Int)]) 0 ⟨b, aput x.env y (i : Int), some (q ++ [(k : Int)]), some (q, (k : Int))⟩ c b) i (stepC q k x c (.each y e b))), TT, ds ++ [(q ++ [(k : Int)], evE c.u.st x.env e)], el, List.replicate m (V.ref vb), rows, rfl, .inl hacc, List.length_replicate, (fun i hi => ⟨vb, by rw [List.getElem?_replicate, if_pos hi], _, T11 _ _ hvb, hsb.mono T11⟩), sG _ _ hrows, (fun i hi => ?_), nvd, nrd, D11, ldn, hn9.mono (Tk.same s9G2), by rw [List.length_append]; show q.length + 1 ≤ 30; omega, ?_, end9.same s9G2, nwd, eo, by omega, hW, (fun i hi => ⟨_, hX.loop wf.2.2.1 (by omega) wf.2.2.2.1 wf.2.2.2.2⟩), ?_, by omega, by omega, ?_, fun H5 new r k5 nw5 D5 st5 => ?_⟩
        · obtain ⟨ei, h1, h2, h3⟩ := hall i hi
          refine ⟨ei, h1, h2.same sG, fun z => ?_⟩
          obtain ⟨_, e1, _⟩ := st9.same sD
          rw [z, h3] at e1
          cases e1
        · show ST G2 (stepC q k x c (.each y e b)).u.st wa
          rw [stE]
          exact st9.same s9G2
        · show BV (stepC q k x c (.each y e b)).u.st
          rw [stE]
          exact hbv
        · show (stepC q k x c (.each y e b)).mu + 36 * KS (d - 1) + 5000 < sizeLine
          omega
        refine q0 H5 ([(q ++ [(k : Int)], evE c.u.st x.env e)] ++ new) r el ?_ ?_ (by rw [← List.append_assoc]; exact D5) ?_ ?_ eo (by omega)
        · exact (K09.sub (by simp +contextual)).trans ((Kp.same s9G2).trans (k5.sub (by simp +contextual)))
        · rw [ep]
          refine nw1.app2 nw5 (fun n e2 => ?_) (fun n e2 => by rw [e2]; exact List.prefix_refl _) (fun n h => h)
          rw [e2]
          show alook (aput _ _ _) _ = _
          rw [alook_ne (fun z => snoc_ne_self z)]
          exact (walk_keep hW (kk := q ++ [(k : Int)]) (fun i => not_long) m (Nat.le_refl _)).2.2.1
        · rw [ep]; exact st5
        · exact (end9.same s9G2).kp k5 (by simp [ndd, Ne.symm nwd])
  | fold y o i e l =>
    have hds0 := hds
    obtain ⟨a, ve, vl, rfl, ha, he, hl⟩ := hds
    refine ⟨_, rfl, _, _, _, _, rfl, rfl, SqT.of ha, at0, _, rfl, rfl, _, rfl, iteDF (by decide) ⟨_, rfl, rfl, _, rfl, iteDF (by decide) ⟨_, rfl, rfl, _, rfl, iteDF (by decide) ?_⟩⟩⟩
    refine ⟨_, rfl, le_line (by show 6 ≤ 1000; decide), fun p1 hp1 => ⟨le_line (by show 6 ≤ 1000; decide), fun p2 hp2 => ?_⟩⟩
    have t1 := same_new hp1 (.lst [V.int 0, V.int 3, V.int 1, V.int 2, V.int 4, V.int 2])
    have t2 := same_new hp2 (.lst [V.str "", V.str "add", V.str "if", V.str "each", V.str "fold", V.str "set"])
    have t12 := t1.trans t2
    have g1 := t2 _ _ (upd_same : upd H p1 (.lst [V.int 0, V.int 3, V.int 1, V.int 2, V.int 4, V.int 2]) p1 = _)
    have g2 : upd (upd H p1 (.lst [V.int 0, V.int 3, V.int 1, V.int 2, V.int 4, V.int 2])) p2 (.lst [V.str "", V.str "add", V.str "if", V.str "each", V.str "fold", V.str "set"]) p2 = _ := upd_same
    generalize upd (upd H p1 (.lst [V.int 0, V.int 3, V.int 1, V.int 2, V.int 4, V.int 2])) p2 (.lst [V.str "", V.str "add", V.str "if", V.str "each", V.str "fold", V.str "set"]) = H2 at t12 g1 g2
    clear t1 t2 hp1 hp2
    have ha2 := t12 _ _ ha
    refine ⟨.inl ⟨rfl, _, SqL.of g2⟩, _, rfl, p2, _, _, 4, _, rfl, rfl, SqL.of g2, rfl, rfl, rfl, rfl, idx_of (by decide), _, _, _, _, rfl, rfl, SqL.of g1, atI_nat (j := 4) rfl, _, _, _, _, rfl, rfl, SqT.of ha2, at4, ?_⟩
    refine ⟨_, rfl, _, rfl, _, rfl, ve, wa, ea, e, c.u.st, x.env, L, rfl, he.mono (Tk.same t12), hst.same t12, henv.same t12, hbv, hX.bv, hX.eo, wf.2.2.2.1.1, Nat.lt_succ_of_le wf.2.2.2.1.2, fun H3 t3 => ?_⟩
    have t13 := t12.trans t3
    refine ⟨_, rfl, ve, e, rfl, he.mono (Tk.same t13), Nat.lt_succ_of_le wf.2.2.2.1.2, by decide, fun H4 a4 w4 t4 g4 l4 => ?_⟩
    have k4 := t13.trans t4
    have l44 : w4.length ≤ 30 := Nat.le_trans l4 ((by decide : ∀ m, m < 3 → 2 ^ m ≤ 30) _ (Nat.lt_succ_of_le wf.2.2.2.1.2))
    have ha4 := k4 _ _ ha
    clear t12 t13 t3 t4 g1 g2 l4
    refine ⟨_, rfl, rfl, _, rfl, iteDF (by decide) ⟨_, rfl, rfl, _, rfl, iteDF (by decide) ?_⟩⟩
    refine ⟨_, rfl, _, rfl, _, rfl, _, rfl, Nat.zero_le _, fun p6 hp6 => ⟨Nat.zero_le _, fun p7 hp7 => ?_⟩⟩
    have s6 := same_new hp6 (.lst [])
    have s7 := same_new hp7 (.lst [])
    refine ⟨_, rfl, _, rfl, le_line (by show 1 ≤ 1000; decide), fun p8 hp8 => ?_⟩
    have s8 := same_new hp8 (.lst [V.int last])
    have k58 := s6.trans (s7.trans s8)
    have k08 := k4.trans k58
    refine ⟨da, na, a4, p6, p7, p8, "fold", evE c.u.st x.env e, ds, q ++ [(k : Int)], w4, [], [], [last], rfl, hD.same k08, by omega, hn.mono (Tk.same k08), k58 _ _ g4, l44, (s7.trans s8) _ _ upd_same, s8 _ _ upd_same, upd_same, by show 1 ≤ 30; decide, fun H9 k9 D9 => ?_⟩
    have T9 : Tk H H9 := (Tk.same k08).trans ((hD.same k08).tk k9)
    have st9 := (hD.same k08).st k9 (hst.same k08)
    have env9 := (hD.same k08).st k9 (henv.same k08)
    have end9 := (hD.same k08).st k9 (hel.same k08)
    have K09 : Kp [da] H H9 := (Kp.same k08).trans k9
    have hn9 := hn.mono T9
    have ha9 := T9 _ _ ha
    clear s6 s7 s8 k58 k08 hp6 hp7 hp8 g4 ha4 k4 k9 l44
    have ldn := nw1.len ld0
    have stE : (stepC q k x c (.fold y o i e l)).u.st = c.u.st := st_stepU _ _ _ _ _ _
    have mu1 := (mu_stepC q k x c wf).1
    have em7 := mod7 (evE c.u.st x.env e)
    refine ⟨_, rfl, rfl, _, rfl, iteDF (by decide) ⟨_, rfl, .inl ⟨_, rfl, _, _, rfl, rfl, (by show (0 : Int) < 7; decide), ?_⟩⟩⟩
    have vn : evE c.u.st x.env e % 7 = ((evE c.u.st x.env e % 7).toNat : Int) := by omega
    have ep : pS q k x c (.fold y o i e l) = keepC (partsC (q ++ [(k : Int)]) (partR c.u.st x.env o i l) (stepC q k x c (.fold y o i e l)) (parts 7 0 (evE c.u.st x.env e % 7).toNat)) (q ++ [(k : Int)]) y (if (evE c.u.st x.env e % 7).toNat = 0 then 0 else fv c.u.st x.env o i l 7 0 (evE c.u.st x.env e % 7).toNat) := by
      unfold pS
      rfl
    have eres : resS c.u x (.fold y o i e l) = evE c.u.st x.env e := rfl
    rw [eres] at nw1
    have ldn := nw1.len ld0
    generalize hm : (evE c.u.st x.env e % 7).toNat = m at vn em7 ep
    refine ⟨_, rfl, rfl, _, rfl, iteDF (by decide) ⟨_, rfl, _, rfl, _, _, rfl, rfl, _, rfl, ?_⟩⟩
    have stl : c.u.st.length ≤ c.mu := by unfold Cf.mu US.sz; omega
    have oc2 : (stepC q k x c (.fold y o i e l)).ord.length ≤ (stepC q k x c (.fold y o i e l)).mu := Nat.le_add_left _ _
    by_cases m0 : m = 0
    · subst m0
      refine iteDF (by omega) ?_
      have stG := st9
      have haG := ha9
      have hnG := hn9
      have endG := end9
      have K0G := K09
      have D9' : LD H9 (ds ++ [(q ++ [(k : Int)], evE c.u.st x.env e)] ++ []) da := by rw [List.append_nil]; exact D9
      have DG := D9'
      rw [if_pos rfl] at ep
      obtain ⟨kvs, hs, al⟩ := stG
      refine ⟨_, rfl, _, rfl, _, rfl, _, _, _, _, rfl, rfl, SqT.of haG, at1, _, _, rfl, dput_k hs (by rw [al.len]; omega), ?_⟩
      have D5 := DG.put hs rfl (kv2 := putK kvs (Sum.inr y) (.int (0)))
      have ST5 : ST (upd H9 wa (.dK (putK kvs (Sum.inr y) (.int (0))))) (aput c.u.st y (0)) wa := ⟨_, upd_same, al.put inr_inj rfl⟩
      have k45 : Kp [wa] H9 (upd H9 wa (.dK (putK kvs (Sum.inr y) (.int (0))))) := Kp.upd (by simp)
      have T45 : Tk H9 (upd H9 wa (.dK (putK kvs (Sum.inr y) (.int (0))))) := tk_upd fun vs z => by rw [hs] at z; cases z
      have nd5 : ST (upd H9 wa (.dK (putK kvs (Sum.inr y) (.int (0))))) el nda := endG.kp k45 (by rw [List.mem_singleton]; exact Ne.symm nwd)
      generalize upd H9 wa (.dK (putK kvs (Sum.inr y) (.int (0)))) = H5 at D5 ST5 k45 T45 nd5
      have ha5 := T45 _ _ haG
      have hn5 := hnG.mono T45
      refine ⟨_, rfl, _, rfl, _, rfl, le_line (by show 1 ≤ 1000; decide), fun t ht => ?_⟩
      have st3 := same_new ht (.tup [V.int (-1)])
      refine ⟨q ++ [(k : Int)], [-1], na, t, rfl, rfl, hn5.mono (Tk.same st3), upd_same, by simp, by rw [List.length_append]; simp; omega, fun H6 r6 s6 n6 => ⟨Nat.zero_le _, fun p5 hp5 => ?_⟩⟩
      have s5 := same_new hp5 (.lst [])
      have ha6 := s5 _ _ (s6 _ _ (st3 _ _ ha5))
      refine ⟨_, rfl, _, _, _, _, rfl, rfl, SqT.of ha6, at1, le_line (by show 1 ≤ 1000; decide), fun p6 hp6 => ⟨Nat.zero_le _, fun p7 hp7 => ?_⟩⟩
      have s6' := same_new hp6 (.lst [V.str y])
      have s7 := same_new hp7 (.lst [])
      refine ⟨_, rfl, _, rfl, le_line (by show 1 ≤ 1000; decide), fun p8 hp8 => ?_⟩
      have s8 := same_new hp8 (.lst [V.int (((ds.length : Nat) : Int))])
      have k68 := s6'.trans (s7.trans s8)
      have kall := st3.trans (s6.trans (s5.trans k68))
      have nwk : NW (fun n => n = q ++ [(k : Int)] ++ [-1]) (partsC (q ++ [(k : Int)]) (partR c.u.st x.env o i l) (stepC q k x c (.fold y o i e l)) (parts 7 0 0)) (keepC (partsC (q ++ [(k : Int)]) (partR c.u.st x.env o i l) (stepC q k x c (.fold y o i e l)) (parts 7 0 0)) (q ++ [(k : Int)]) y (0)) [(q ++ [(k : Int)] ++ [-1], 0)] :=
        ⟨rfl, fun p hp => by rw [List.mem_singleton.mp hp]; exact alook_self _ _ _, fun p hp => by rw [List.mem_singleton.mp hp]⟩
      have nwp := nw_partsC (q ++ [(k : Int)]) (partR c.u.st x.env o i l) (stepC q k x c (.fold y o i e l)) (parts 7 0 0)
      have nw12 := nw1.app2 (pre := fun n => n = q ++ [(k : Int)] ∨ ∃ p, p ∈ parts 7 0 0 ∧ n = q ++ [(k : Int)] ++ p) nwp (fun n e2 => by
        have z := (partsC_done (q ++ [(k : Int)]) (partR c.u.st x.env o i l) (parts 7 0 0) (stepC q k x c (.fold y o i e l)) []).2 (fun h => (parts_ne 7 0 0 _ h).1 rfl)
        rw [List.append_nil] at z
        rw [e2]
        exact z) (fun n h => .inl h) (fun n h => .inr h)
      have nw13 := nw12.app2 (pre := fun n => q ++ [(k : Int)] <+: n) nwk (fun n h => by
        show alook (aput _ _ _) _ = _
        refine alook_ne ?_
        rcases h with h | ⟨p, hp, h⟩
        · rw [h]; exact snoc_ne_self
        · rw [h]; exact fun z => parts_m1 hp (List.append_cancel_left z).symm) (fun n h => by
        rcases h with h | ⟨p, hp, h⟩
        · rw [h]; exact List.prefix_refl _
        · rw [h]; exact List.prefix_append _ _) (fun n h => by rw [h]; exact List.prefix_append _ _)
      refine ⟨da, r6, p5, p6, p7, p8, "keep", 0, ds ++ [(q ++ [(k : Int)], evE c.u.st x.env e)] ++ [], q ++ [(k : Int)] ++ [-1], [], [V.str y], [], [((ds.length : Nat) : Int)], rfl, D5.same kall, by rw [List.append_nil]; omega, n6.mono (Tk.same (s5.trans k68)), k68 _ _ upd_same, by decide, (s7.trans s8) _ _ upd_same, s8 _ _ upd_same, upd_same, by show 1 ≤ 30; decide, fun H9' k9' D9' => ?_⟩
      refine q0 H9' ([(q ++ [(k : Int)], evE c.u.st x.env e)] ++ [] ++ [(q ++ [(k : Int)] ++ [-1], 0)]) _ el ?_ (by rw [ep]; exact nw13) (by rw [← List.append_assoc, ← List.append_assoc]; exact D9') ?_ ?_ eo (by omega)
      · exact (K0G.sub (by simp +contextual)).trans ((k45.sub (by simp +contextual)).trans ((Kp.same kall).trans (k9'.sub (by simp +contextual))))
      · rw [ep]
        show ST H9' (aput (partsC _ _ _ _).u.st y _) wa
        rw [(partsC_u (q ++ [(k : Int)]) (partR c.u.st x.env o i l) (parts 7 0 0) (stepC q k x c (.fold y o i e l))).2.2.2, stE]
        exact (D5.same kall).st k9' (ST5.same kall)
      · exact (D5.same kall).st k9' (nd5.same kall)
    · refine iteD (by omega) ?_
      rw [if_neg m0] at ep
      have lp := len_parts 7 0 m
      have elx := hX.el
      have oc2 : (stepC q k x c (.fold y o i e l)).ord.length ≤ (stepC q k x c (.fold y o i e l)).mu := Nat.le_add_left _ _
      refine ⟨_, rfl, _, rfl, _, rfl, _, rfl, _, rfl, _, rfl, _, rfl, da, na, wa, ea, _, _, 0, m, y, o, i, e, l, ds ++ [(q ++ [(k : Int)], evE c.u.st x.env e)], q ++ [(k : Int)], c.u.st, x.env, L, congrArg (fun z => [V.ref da, V.ref a, V.ref na, V.int (ds.length : Nat), V.int 0, V.int z, V.ref wa, V.ref ea]) vn, hds0.mono T9, D9, hn9, by rw [List.length_append]; show q.length + 1 ≤ 40; omega, by omega, by omega, em7, Nat.le_refl _, st9, env9, hbv, hX.bv, hX.eo, wf.2.2.2.2.1, Nat.lt_succ_of_le wf.2.2.2.2.2, by omega, by omega, fun H10 k10 D10 => ?_⟩
      have haG := (D9.tk k10) _ _ ha9
      have hnG := hn9.mono (D9.tk k10)
      have stG := D9.st k10 st9
      have endG := D9.st k10 end9
      have K0G := K09.trans k10
      obtain ⟨a1, ea1⟩ := parts_last 7 0 m (by omega) (by omega)
      have z1 : 0 < (parts 7 0 m).length := parts_len1 7 0 m (by omega) (by omega)
      have lnew : ((parts 7 0 m).map fun p => (q ++ [(k : Int)] ++ p, partR c.u.st x.env o i l p)).length = (parts 7 0 m).length := List.length_map _
      have g1 : (ds ++ [(q ++ [(k : Int)], evE c.u.st x.env e)] ++ (parts 7 0 m).map fun p => (q ++ [(k : Int)] ++ p, partR c.u.st x.env o i l p))[(ds ++ [(q ++ [(k : Int)], evE c.u.st x.env e)]).length + (parts 7 0 m).length - 1]? = some (q ++ [(k : Int)] ++ pr 0 m, partR c.u.st x.env o i l (pr 0 m)) := by
        rw [ea1]
        generalize ds ++ [(q ++ [(k : Int)], evE c.u.st x.env e)] = dz
        rw [List.length_append (as := a1), List.length_singleton]
        rw [List.getElem?_append_right (by omega), List.map_append, List.getElem?_append_right (by rw [List.length_map]; omega)]
        rw [List.length_map, show dz.length + (a1.length + 1) - 1 - dz.length - a1.length = 0 by omega]
        rfl
      obtain ⟨vs2, hv2, dl2, lv2⟩ := D10.len
      obtain ⟨t1, na1, kd1, b1, b2, b3, b4, i1, ht1, _⟩ := dl2.get g1
      have i1' := atI_nat i1
      have r1 := partR_pr c.u.st x.env o i l 0 m (by omega) (by omega)
      dsimp only at ht1
      rw [r1] at ht1
      have DG := D10
      refine ⟨_, rfl, _, rfl, _, _, _, _, rfl, rfl, SqL.of hv2, i1', _, _, _, _, rfl, rfl, SqT.of ht1, at5, ?_⟩
      obtain ⟨kvs, hs, al⟩ := stG
      refine ⟨_, rfl, _, rfl, _, rfl, _, _, _, _, rfl, rfl, SqT.of haG, at1, _, _, rfl, dput_k hs (by rw [al.len]; omega), ?_⟩
      have D5 := DG.put hs rfl (kv2 := putK kvs (Sum.inr y) (.int (fv c.u.st x.env o i l 7 0 m)))
      have ST5 : ST (upd H10 wa (.dK (putK kvs (Sum.inr y) (.int (fv c.u.st x.env o i l 7 0 m))))) (aput c.u.st y (fv c.u.st x.env o i l 7 0 m)) wa := ⟨_, upd_same, al.put inr_inj rfl⟩
      have k45 : Kp [wa] H10 (upd H10 wa (.dK (putK kvs (Sum.inr y) (.int (fv c.u.st x.env o i l 7 0 m))))) := Kp.upd (by simp)
      have T45 : Tk H10 (upd H10 wa (.dK (putK kvs (Sum.inr y) (.int (fv c.u.st x.env o i l 7 0 m))))) := tk_upd fun vs z => by rw [hs] at z; cases z
      have nd5 : ST (upd H10 wa (.dK (putK kvs (Sum.inr y) (.int (fv c.u.st x.env o i l 7 0 m))))) el nda := endG.kp k45 (by rw [List.mem_singleton]; exact Ne.symm nwd)
      generalize upd H10 wa (.dK (putK kvs (Sum.inr y) (.int (fv c.u.st x.env o i l 7 0 m)))) = H5 at D5 ST5 k45 T45 nd5
      have ha5 := T45 _ _ haG
      have hn5 := hnG.mono T45
      refine ⟨_, rfl, _, rfl, _, rfl, le_line (by show 1 ≤ 1000; decide), fun t ht => ?_⟩
      have st3 := same_new ht (.tup [V.int (-1)])
      refine ⟨q ++ [(k : Int)], [-1], na, t, rfl, rfl, hn5.mono (Tk.same st3), upd_same, by simp, by rw [List.length_append]; simp; omega, fun H6 r6 s6 n6 => ⟨Nat.zero_le _, fun p5 hp5 => ?_⟩⟩
      have s5 := same_new hp5 (.lst [])
      have ha6 := s5 _ _ (s6 _ _ (st3 _ _ ha5))
      refine ⟨_, rfl, _, _, _, _, rfl, rfl, SqT.of ha6, at1, le_line (by show 1 ≤ 1000; decide), fun p6 hp6 => ⟨Nat.zero_le _, fun p7 hp7 => ?_⟩⟩
      have s6' := same_new hp6 (.lst [V.str y])
      have s7 := same_new hp7 (.lst [])
      refine ⟨_, rfl, _, rfl, le_line (by show 1 ≤ 1000; decide), fun p8 hp8 => ?_⟩
      have s8 := same_new hp8 (.lst [V.int ((((ds ++ [(q ++ [(k : Int)], evE c.u.st x.env e)]).length + (parts 7 0 m).length - 1 : Nat) : Int))])
      have k68 := s6'.trans (s7.trans s8)
      have kall := st3.trans (s6.trans (s5.trans k68))
      have nwk : NW (fun n => n = q ++ [(k : Int)] ++ [-1]) (partsC (q ++ [(k : Int)]) (partR c.u.st x.env o i l) (stepC q k x c (.fold y o i e l)) (parts 7 0 m)) (keepC (partsC (q ++ [(k : Int)]) (partR c.u.st x.env o i l) (stepC q k x c (.fold y o i e l)) (parts 7 0 m)) (q ++ [(k : Int)]) y (fv c.u.st x.env o i l 7 0 m)) [(q ++ [(k : Int)] ++ [-1], fv c.u.st x.env o i l 7 0 m)] :=
        ⟨rfl, fun p hp => by rw [List.mem_singleton.mp hp]; exact alook_self _ _ _, fun p hp => by rw [List.mem_singleton.mp hp]⟩
      have nwp := nw_partsC (q ++ [(k : Int)]) (partR c.u.st x.env o i l) (stepC q k x c (.fold y o i e l)) (parts 7 0 m)
      have nw12 := nw1.app2 (pre := fun n => n = q ++ [(k : Int)] ∨ ∃ p, p ∈ parts 7 0 m ∧ n = q ++ [(k : Int)] ++ p) nwp (fun n e2 => by
        have z := (partsC_done (q ++ [(k : Int)]) (partR c.u.st x.env o i l) (parts 7 0 m) (stepC q k x c (.fold y o i e l)) []).2 (fun h => (parts_ne 7 0 m _ h).1 rfl)
        rw [List.append_nil] at z
        rw [e2]
        exact z) (fun n h => .inl h) (fun n h => .inr h)
      have nw13 := nw12.app2 (pre := fun n => q ++ [(k : Int)] <+: n) nwk (fun n h => by
        show alook (aput _ _ _) _ = _
        refine alook_ne ?_
        rcases h with h | ⟨p, hp, h⟩
        · rw [h]; exact snoc_ne_self
        · rw [h]; exact fun z => parts_m1 hp (List.append_cancel_left z).symm) (fun n h => by
        rcases h with h | ⟨p, hp, h⟩
        · rw [h]; exact List.prefix_refl _
        · rw [h]; exact List.prefix_append _ _) (fun n h => by rw [h]; exact List.prefix_append _ _)
      refine ⟨da, r6, p5, p6, p7, p8, "keep", fv c.u.st x.env o i l 7 0 m, ds ++ [(q ++ [(k : Int)], evE c.u.st x.env e)] ++ ((parts 7 0 m).map fun p => (q ++ [(k : Int)] ++ p, partR c.u.st x.env o i l p)), q ++ [(k : Int)] ++ [-1], [], [V.str y], [], [(((ds ++ [(q ++ [(k : Int)], evE c.u.st x.env e)]).length + (parts 7 0 m).length - 1 : Nat) : Int)], rfl, D5.same kall, by rw [List.length_append]; omega, n6.mono (Tk.same (s5.trans k68)), k68 _ _ upd_same, by decide, (s7.trans s8) _ _ upd_same, s8 _ _ upd_same, upd_same, by show 1 ≤ 30; decide, fun H9' k9' D9' => ?_⟩
      refine q0 H9' ([(q ++ [(k : Int)], evE c.u.st x.env e)] ++ ((parts 7 0 m).map fun p => (q ++ [(k : Int)] ++ p, partR c.u.st x.env o i l p)) ++ [(q ++ [(k : Int)] ++ [-1], fv c.u.st x.env o i l 7 0 m)]) _ el ?_ (by rw [ep]; exact nw13) (by rw [← List.append_assoc, ← List.append_assoc]; exact D9') ?_ ?_ eo (by omega)
      · exact (K0G.sub (by simp +contextual)).trans ((k45.sub (by simp +contextual)).trans ((Kp.same kall).trans (k9'.sub (by simp +contextual))))
      · rw [ep]
        show ST H9' (aput (partsC _ _ _ _).u.st y _) wa
        rw [(partsC_u (q ++ [(k : Int)]) (partR c.u.st x.env o i l) (parts 7 0 m) (stepC q k x c (.fold y o i e l))).2.2.2, stE]
        exact (D5.same kall).st k9' (ST5.same kall)
      · exact (D5.same kall).st k9' (nd5.same kall)
  | start t b =>
    obtain ⟨a, vb, xb, rfl, ha, hvb, hsb⟩ := hds
    refine ⟨_, rfl, _, _, _, _, rfl, rfl, SqT.of ha, at0, _, rfl, rfl, _, rfl, iteDF (by decide) ⟨_, rfl, rfl, _, rfl, iteD (by decide) ?_⟩⟩
    refine ⟨_, rfl, _, rfl, Nat.zero_le _, fun p5 hp5 => ⟨Nat.zero_le _, fun p6 hp6 => ⟨Nat.zero_le _, fun p7 hp7 => ?_⟩⟩⟩
    have s5 := same_new hp5 (.lst [])
    have s6 := same_new hp6 (.lst [])
    have s7 := same_new hp7 (.lst [])
    refine ⟨_, rfl, le_line (by show 1 ≤ 1000; decide), fun p8 hp8 => ?_⟩
    have s8 := same_new hp8 (.lst [V.int last])
    have k08 := s5.trans (s6.trans (s7.trans s8))
    refine ⟨da, na, p5, p6, p7, p8, "start", 0, ds, q ++ [(k : Int)], [], [], [], [last], rfl, hD.same k08, by omega, hn.mono (Tk.same k08), (s6.trans (s7.trans s8)) _ _ upd_same, by decide, (s7.trans s8) _ _ upd_same, s8 _ _ upd_same, upd_same, by show 1 ≤ 30; decide, fun H9 k9 D9 => ?_⟩
    have T9 : Tk H H9 := (Tk.same k08).trans ((hD.same k08).tk k9)
    have st9 := (hD.same k08).st k9 (hst.same k08)
    have env9 := (hD.same k08).st k9 (henv.same k08)
    have end9 := (hD.same k08).st k9 (hel.same k08)
    have K09 : Kp [da] H H9 := (Kp.same k08).trans k9
    have hn9 := hn.mono T9
    have ha9 := T9 _ _ ha
    clear s5 s6 s7 s8 k08 hp5 hp6 hp7 hp8 k9
    have ldn := nw1.len ld0
    have stE : (stepC q k x c (.start t b)).u.st = c.u.st := st_stepU _ _ _ _ _ _
    have mu1 := (mu_stepC q k x c wf).1
    have kd0 := KS_60 wf.2.1
    have d0 : 0 < d := wf.2.1
    have ep : pS q k x c (.start t b) = pB (q ++ [(k : Int)] ++ [0]) 0 ⟨b, x.env, some (q ++ [(k : Int)]), some (q, k)⟩ (stepC q k x c (.start t b)) b := by
      unfold pS
      rfl
    refine ⟨_, rfl, _, rfl, _, _, _, _, rfl, rfl, SqT.of ha9, at2, _, rfl, le_line (by show 1 ≤ 1000; decide), fun t2 ht => ?_⟩
    have st3 := same_new ht (.tup [V.int (0 : Int)])
    refine ⟨q ++ [(k : Int)], [(0 : Int)], na, t2, rfl, rfl, hn9.mono (Tk.same st3), upd_same, by simp, by rw [List.length_append]; simp; omega, fun H4 r4 s4 n4 => ?_⟩
    have k94 := st3.trans s4
    have T94 := T9.trans (Tk.same k94)
    have l6 : b.length * KS (d - 1) ≤ 6 * KS (d - 1) := Nat.mul_le_mul wf.2.2.1 (Nat.le_refl _)
    refine ⟨_, rfl, _, rfl, _, rfl, _, rfl, da, vb, r4, wa, ea, nda, _, q ++ [(k : Int)] ++ [(0 : Int)], d - 1, ⟨b, x.env, some (q ++ [(k : Int)]), some (q, k)⟩, stepC q k x c (.start t b), L, TT, ds ++ [(q ++ [(k : Int)], 0)], el, rfl, ⟨_, T94 _ _ hvb, hsb.mono T94⟩, D9.same k94, ldn, n4, by rw [stE]; exact st9.same k94, env9.same k94, end9.same k94, nwe, nwd, eo, by omega, hX.below wf.2.1 wf.2.2.1 wf.2.2.2, by rw [stE]; exact hbv, by omega, by show (stepC q k x c (.start t b)).mu + b.length * KS (d - 1) + 5000 < sizeLine; omega, fun H5 new r k5 nw5 D5 st5 => ?_⟩
    have dd5 : Tk H4 H5 := fun b2 vs e => k5 _ _ e fun z => by
      simp only [List.mem_cons, List.not_mem_nil, or_false] at z
      rcases z with rfl | rfl
      · obtain ⟨_, e2, _⟩ := D9.same k94; rw [e] at e2; cases e2
      · obtain ⟨_, e2, _⟩ := st9.same k94; rw [e] at e2; cases e2
    have ha5 := dd5 _ _ (k94 _ _ ha9)
    have end5 : ST H5 el nda := (end9.same k94).kp k5 (by simp [ndd, Ne.symm nwd])
    obtain ⟨kve, hke, ale⟩ := end5
    refine ⟨_, rfl, _, rfl, _, _, _, _, rfl, rfl, SqT.of ha5, at1, _, _, rfl, dput_k hke (by rw [ale.len]; omega), ?_⟩
    have D6 := D5.put hke rfl (kv2 := putK kve (Sum.inr t) (.int r))
    have EN6 : ST (upd H5 nda (.dK (putK kve (Sum.inr t) (.int r)))) (aput el t r) nda := ⟨_, upd_same, ale.put inr_inj rfl⟩
    have k56 : Kp [nda] H5 (upd H5 nda (.dK (putK kve (Sum.inr t) (.int r)))) := Kp.upd (by simp)
    have ST6 := st5.kp k56 (by rw [List.mem_singleton]; exact nwd)
    have la := len_aput el t r
    refine ⟨_, rfl, q0 _ ([(q ++ [(k : Int)], 0)] ++ new) _ (aput el t r) ?_ ?_ (by rw [← List.append_assoc]; exact D6) ?_ EN6 (eo.put t r) (by omega)⟩
    · exact (K09.sub (by simp +contextual)).trans ((Kp.same k94).trans ((k5.sub (by simp +contextual)).trans (k56.sub (by simp +contextual))))
    · rw [ep]
      exact nw1.app nw5 (loc_pB _ _ _ _ _) (fun n e => by rw [e]; exact not_long) (fun n e => by rw [e]; exact List.prefix_refl _) (fun n ⟨j, _, h⟩ => (List.prefix_append _ _).trans ((List.prefix_append _ _).trans h))
    · rw [ep]; exact ST6
end
end K11
set_option Elab.async false
set_option linter.all false
set_option maxRecDepth 100000
set_option maxHeartbeats 4000000
namespace K11
open PySem PySem.Spec PyProof.Rows L2
/-! ### sorted, then taken out: as taken out, then sorted -/
theorem srt_up (xs : List Str) : (srt xs).Pairwise fun a b => a.cps.toList ≤ b.cps.toList := by
  have h := List.pairwise_mergeSort (le := fun a b : Str => decide (a.cps.toList ≤ b.cps.toList)) (fun a b c h1 h2 => decide_eq_true (List.le_trans (of_decide_eq_true h1) (of_decide_eq_true h2))) (fun a b => by
    rcases List.le_total a.cps.toList b.cps.toList with h | h
    · rw [decide_eq_true h]; rfl
    · rw [decide_eq_true h, Bool.or_true]) xs
  exact h.imp fun h => of_decide_eq_true h
theorem str_ext {a b : Str} (h : a.cps.toList = b.cps.toList) : a = b := by
  cases a with
  | mk x =>
    cases b with
    | mk y =>
      have : x = y := Array.ext' h
      rw [this]
theorem srt_filter (P : Str → Bool) (xs : List Str) : (srt xs).filter P = srt (xs.filter P) := by
  refine List.Perm.eq_of_pairwise (le := fun a b : Str => a.cps.toList ≤ b.cps.toList) (fun a b _ _ h1 h2 => str_ext (List.le_antisymm h1 h2)) ((srt_up xs).filter P) (srt_up _) ?_
  exact ((List.mergeSort_perm xs _).filter P).trans (List.mergeSort_perm _ _).symm
def posB (st : Sto) (x : Str) : Bool := decide ((alook st x).getD 0 > 0)
theorem filterMap_pos (st : Sto) : ∀ xs : List Str, (∀ x ∈ xs, ∃ v, alook st x = some v) → xs.filterMap (pos1 st) = (xs.filter (posB st)).map fun x => (x, (alook st x).getD 0)
  | [], _ => rfl
  | x :: xs, h => by
    obtain ⟨v, hv⟩ := h x List.mem_cons_self
    have ih := filterMap_pos st xs fun y hy => h y (List.mem_cons_of_mem _ hy)
    have ep : pos1 st x = if v > 0 then some (x, v) else none := by unfold pos1; rw [hv]
    have eb : posB st x = decide (v > 0) := by unfold posB; rw [hv]; rfl
    by_cases c : v > 0
    · rw [if_pos c] at ep
      rw [List.filterMap_cons_some ep, List.filter_cons_of_pos (by rw [eb]; exact decide_eq_true c), List.map_cons, ih, hv]
      rfl
    · rw [if_neg c] at ep
      rw [List.filterMap_cons_none ep, List.filter_cons_of_neg (by rw [eb, decide_eq_false c]; exact Bool.false_ne_true), ih]
theorem wordsOf_eq (st : Sto) : wordsOf st = (srt ((st.map (·.1)).filter (posB st))).map fun x => (x, (alook st x).getD 0) := by
  unfold wordsOf
  rw [filterMap_pos st _ (fun x hx => alook_of_mem (mem_srt.mp hx)), srt_filter]
end K11
set_option Elab.async false
set_option linter.all false
set_option maxRecDepth 100000
set_option maxHeartbeats 4000000
namespace K11
open PySem PySem.Spec PyProof.Rows L2
theorem paired_get {γ δ : Type} {F : γ → δ → Prop} : ∀ {a : List γ} {b : List δ}, Paired F a b → ∀ {i : Nat} {x : γ}, a[i]? = some x → ∃ y, b[i]? = some y ∧ F x y
  | _, _, .nil, i, x, h => by simp at h
  | _, _, .cons r t, 0, x, h => by
    simp at h
    subst h
    exact ⟨_, rfl, r⟩
  | _, _, .cons r t, i + 1, x, h => by
    obtain ⟨p, h1, h2⟩ := paired_get (i := i) t (by simpa using h)
    exact ⟨p, by simpa using h1, h2⟩
theorem AL.get {α β κ : Type} [DecidableEq α] [DecidableEq κ] {f : α → κ} {R : β → V → Prop} {kvs : List (κ × V)} {l : List (α × β)} (h : AL f R kvs l) {i : Nat} {k : κ} {v : V} (e : kvs[i]? = some (k, v)) : ∃ p, l[i]? = some p ∧ k = f p.1 ∧ R p.2 v := by
  obtain ⟨p, h1, h2⟩ := paired_get h e
  exact ⟨p, h1, h2.1, h2.2⟩
theorem dget_kf {H : Hp} {a : Addr} {o : Obj} {kvs : List (Key × V)} {x : Str} {v : V} (e : H a = some (.frz o (.dK kvs))) (q : valV kvs (Sum.inr x) = some v) : DGet H a (.str x) (some v) := by
  rw [← q]
  exact .inl ⟨kvs, Sum.inr x, .inr ⟨_, e⟩, rfl, rfl⟩
section
variable {P : Program} {w : World} {K : PySem.W.Frag} {mg : Str → Option Value} {base : Heap}
theorem ok_law_block_run (T : Txt w K mg) (C_law_deed : C8.Cal P w K mg base 2 "_law_deed" spLDeed []) (C_law_value : C8.Cal P w K mg base 4 "_law_value" (spLVal 3) []) (C_law_read_words : C8.Cal P w K mg base 3 "_law_read_words" (spLRead 3) []) (C_law_operated : C8.Cal P w K mg base 1 "_law_operated" spLOp [])
    (C_law_fold_run : C8.Cal P w K mg base 12 "_law_fold_run" (spLFold 7) []) : ∀ n : Nat, C8.Cal P w K mg base (12 + 3 * n) "_law_block_run" (spLBlk n) []
  | 0 => T.f_law_block_run.none fun vs H Q E h => by
    obtain ⟨_, _, _, _, _, _, _, _, _, _, _, _, _, _, _, _, _, _, _, _, _, _, _, _, _, _, _, _, _, h, _⟩ := h
    omega
  | n + 1 => by
    have hb := ok_law_block_run T C_law_deed C_law_value C_law_read_words C_law_operated C_law_fold_run n
    have hbs := law_blocks_1 (kl := 12 + 3 * n) T (by omega) C_law_deed hb
    exact law_block_1 (kl := 12 + 3 * n + 2) T (law_statement_1 (kl := 12 + 3 * n) T (by omega) C_law_deed C_law_value C_law_read_words C_law_operated C_law_fold_run hb hbs)
def spLRun : Sp := fun vs H Q _ => ∃ (pa wa : Addr) (prog : List Stm) (ws : List (Str × Int)), vs = [.ref pa, .ref wa] ∧ DB H prog pa ∧ POk prog ∧ DW H ws wa ∧ WordsOk ws ∧
  ∀ H' r da wv new, Same H H' → H' r = some (.tup [.ref da, .ref wv]) → LD H' new da → new.map (·.1) = (fin prog ws).ord → (∀ p ∈ new, alook (fin prog ws).u.done p.1 = some p.2) → (∀ p ∈ new, inBlk [] prog.length p.1) → DW H' (wordsOf (fin prog ws).u.st) wv → Q (.ref r) H'
theorem sc_law_run : FnScope ["_law_program_here", "_law_words_here", "_law_deeds", "_law_table", "_law_pair", "_law_names", "_law_name"] ["_law_program_here", "_law_words_here"] (defScope s_law_run) := ⟨rfl, rfl, rfl, by decide +kernel, rfl, by decide +kernel, by decide +kernel⟩
theorem ok_law_run (T : Txt w K mg) (C_law_block_run : C8.Cal P w K mg base 24 "_law_block_run" (spLBlk 4) []) : C8.Cal P w K mg base 25 "_law_run" spLRun [] := by
  refine T.f_law_run.cal sc_law_run (fun vs H Q E h => by obtain ⟨_, _, _, _, rfl, _⟩ := h; rfl) fun f cdv AR outer s H vs Q E hr h => ?_
  obtain ⟨pa, wa, prog, ws, rfl, hprog, ok, ⟨wv, hw, dw⟩, wok, k0⟩ := h
  refine ⟨_, (pss_cons (ps_set (i := 2) sc_law_run.nd rfl (Or.inl rfl) (pe_lst pa_nil)) 
    (pss_cons (ps_set (i := 3) sc_law_run.nd rfl (Or.inr rfl) pe_dnewK) 
    (pss_cons (ps_for PassesOwn.never rfl (pi_tup (pv 1)) (pg_name (i := 4) sc_law_run.nd rfl (Or.inl rfl)) (pss_one (ps_dput (hu_of hr) (pv 3) (pe_ix (kix_tup K rfl) (pv 4) pe_int (fun _ _ => rfl)) (pe_ix (kix_tup K rfl) (pv 4) pe_int (fun _ _ => rfl)) rfl))) 
    (pss_cons (ps_expr (C8.pe_c C_law_block_run hr (by omega) rfl (pa_cons (pv 2) (pa_cons (pv 0) (pa_cons (pe_tup pa_nil) (pa_cons (pe_un un_neg pe_int) (pa_cons (pv 3) (pa_cons pe_dnewK (pa_cons pe_dnewK pa_nil))))))))) 
    (pss_cons (ps_set (i := 5) sc_law_run.nd rfl (Or.inl rfl) (pe_callB (kcr_srt K rfl hr.units) (by rfl) T.z_sorted (by decide +kernel) (pa_cons (pe_lock (pe_lc (own := [("_law_name", 6)]) rfl sc_law_run.nd (pi_keys (pv 3)) (blkOk_by (N := ["_law_program_here", "_law_words_here", "_law_deeds", "_law_table", "_law_pair", "_law_names", "_law_name"]) (sc := defScope s_law_run) (by decide +kernel)) (fun _ _ _ _ _ => (pg_name (i := 6) sc_law_run.nd rfl (Or.inl rfl))) (fun _ _ _ _ _ => pts_one (pt_cmpR op_gt (pe_dget (hu_of hr) (pv 3) (pv 6) (fun _ _ => rfl)) pe_int (nomark _))) (fun _ _ _ _ _ => (pe_callTy SkE.call_str_str (by rfl) T.z_str (by decide +kernel) (pa_cons (pv 6) pa_nil))))) pa_nil))) 
    (pss_one (ps_ret (pe_tup (pa_cons (pv 2) (pa_cons (pe_callTy (ktuple_of K rfl) (by rfl) T.z_tuple (by decide +kernel) (pa_cons (pe_lc (own := [("_law_name", 6)]) rfl sc_law_run.nd (pi_list (pv 5)) (blkOk_by (N := ["_law_program_here", "_law_words_here", "_law_deeds", "_law_table", "_law_pair", "_law_names", "_law_name"]) (sc := defScope s_law_run) (by decide +kernel)) (fun _ _ _ _ _ => (pg_name (i := 6) sc_law_run.nd rfl (Or.inl rfl))) (fun _ _ _ _ _ => pts_nil) (fun _ _ _ _ _ => (pe_tup (pa_cons (pv 6) (pa_cons (pe_dget (hu_of hr) (pv 3) (pv 6) (fun _ _ => rfl)) pa_nil))))) pa_nil)) pa_nil)))))))))), ?_⟩
  have lw := wok.len
  have lwv := dw.length
  refine ⟨Nat.zero_le _, fun da hda => ?_⟩
  have s1 := same_new hda (.lst [])
  have hda1 : upd H da (.lst []) da = some (.lst []) := upd_same
  generalize upd H da (.lst []) = H1 at s1 hda1
  intro ta hta
  have s2 := same_new hta (.dK [])
  have hta2 : upd H1 ta (.dK []) ta = some (.dK []) := upd_same
  have hda2 := s2 _ _ hda1
  generalize upd H1 ta (.dK []) = H2 at s2 hta2 hda2
  have s12 := s1.trans s2
  have fta : H ta = none := by
    cases z : H ta with
    | none => rfl
    | some o => rw [s1 _ _ z] at hta; cases hta
  refine ⟨_, rfl, wa, rfl, ⟨_, SqT.of (s12 _ _ hw)⟩, for_tup (xs := wv) (fun i σ G => (∃ c4, σ = [some (.ref pa), some (.ref wa), some (.ref da), some (.ref ta), c4, none, none]) ∧ Kp [ta] H2 G ∧ ∃ kvs, G ta = some (.dK kvs) ∧ AL Sum.inr RI kvs (inS (ws.take i)) ∧ (inS (ws.take i)).length ≤ i)
    ⟨⟨_, rfl⟩, Kp.refl _ _, [], hta2, (by rw [List.take_zero]; exact .nil), by simp [inS]⟩ (fun i σ G _ h => SqT.of (h.2.1 _ _ (s12 _ _ hw) (by rw [List.mem_singleton]; intro z; rw [z, fta] at hw; cases hw))) (fun i v σ G hx h => ?_) fun σ G h => ?_⟩
  · obtain ⟨⟨c4, rfl⟩, kG, kvs, hk, al, ll⟩ := h
    have TG : Tk H2 G := fun a vs e => kG _ _ e (by rw [List.mem_singleton]; intro z; rw [z, hta2] at e; cases e)
    obtain ⟨pr, hpr, a, rfl, ha⟩ := (dw.mono ((Tk.same s12).trans TG)).get hx
    have hi : i < ws.length := (List.getElem?_eq_some_iff.mp hpr).1
    have et : ws.take (i + 1) = ws.take i ++ [pr] := by rw [List.take_succ, hpr]; rfl
    have ei : inS (ws.take (i + 1)) = aput (inS (ws.take i)) pr.1 pr.2 := by unfold inS; rw [et, List.foldl_append]; rfl
    refine ⟨_, rfl, _, _, _, _, rfl, rfl, SqT.of ha, at1, _, rfl, _, rfl, _, _, _, _, rfl, rfl, SqT.of ha, at0, _, _, rfl, dput_k hk (lt_line (by rw [al.len]; omega)), ⟨_, rfl⟩, kG.trans (Kp.upd (by simp)), _, upd_same, ?_, ?_⟩
    · rw [ei]; exact al.put inr_inj rfl
    · rw [ei]
      have := len_aput (inS (ws.take i)) pr.1 pr.2
      omega
  obtain ⟨⟨c4, rfl⟩, kG, kvs, hk, al, ll⟩ := h
  rw [lwv, List.take_length] at al
  have kH : ∀ b o, H b = some o → G b = some o := fun b o e => kG _ _ (s12 _ _ e) (by rw [List.mem_singleton]; intro z; rw [z, fta] at e; cases e)
  have sHG : Same H G := kH
  have ndt : da ≠ ta := fun z => by rw [z, hta] at hda1; cases hda1
  have hdaG : G da = some (.lst []) := kG _ _ hda2 (by rw [List.mem_singleton]; exact ndt)
  refine ⟨_, rfl, _, rfl, Nat.zero_le _, fun na hna => ⟨_, rfl, _, rfl, ?_⟩⟩
  have s3 := same_new hna (.tup [])
  have hna1 : upd G na (.tup []) na = some (.tup []) := upd_same
  generalize upd G na (.tup []) = G1 at s3 hna1
  intro ea hea
  have s4 := same_new hea (.dK [])
  have hea1 : upd G1 ea (.dK []) ea = some (.dK []) := upd_same
  generalize upd G1 ea (.dK []) = G2 at s4 hea1
  intro nd hnd
  have s5 := same_new hnd (.dK [])
  have hnd1 : upd G2 nd (.dK []) nd = some (.dK []) := upd_same
  generalize upd G2 nd (.dK []) = G3 at s5 hnd1
  have sG3 := s3.trans (s4.trans s5)
  have hta3 := sG3 _ _ hk
  have hda3 := sG3 _ _ hdaG
  have hea3 := s5 _ _ hea1
  have nte : ta ≠ ea := fun z => by rw [z] at hk; rw [s3 _ _ hk] at hea; cases hea
  have ntn : ta ≠ nd := fun z => by rw [z] at hk; rw [s4 _ _ (s3 _ _ hk)] at hnd; cases hnd
  have mu := mu_initU prog ws
  have KB := KB3
  have le6 := ok.1
  have k6 := Nat.mul_le_mul_right (KS 3) le6
  refine ⟨da, pa, na, ta, ea, nd, -1, [], 3, xo0 prog, cf0 prog ws, [], [], [], [], rfl, (hprog.mono (Tk.same (sHG.trans sG3))), ⟨[], hda3, .nil⟩, rfl, (s4.trans s5) _ _ hna1, ⟨kvs, hta3, al⟩, ⟨[], hea3, .nil⟩, ⟨[], hnd1, .nil⟩, nte, ntn, (fun y hy => by cases hy), by decide, xok0 ok, bv_inS wok, by decide, by show (cf0 prog ws).mu + prog.length * KS 3 + 5000 < sizeLine; omega, fun H5 new r k5 nw D5 st5 => ?_⟩
  rw [List.nil_append] at D5
  have efin : pB [] 0 (xo0 prog) (cf0 prog ws) (xo0 prog).stms = fin prog ws := rfl
  rw [efin] at nw st5
  have eord : new.map (·.1) = (fin prog ws).ord := by
    have := nw.ord
    rw [this]
    rfl
  have kH5 : ∀ b o, H b = some o → H5 b = some o := fun b o e => k5 _ _ (sG3 _ _ (kH _ _ e)) fun z => by
    simp only [List.mem_cons, List.not_mem_nil, or_false] at z
    rcases z with z | z
    · rw [z, hda] at e; cases e
    · rw [z, fta] at e; cases e
  have sH5 : Same H H5 := kH5
  obtain ⟨kv5, hk5, al5⟩ := st5
  have stl : (fin prog ws).u.st.length ≤ (fin prog ws).mu := by unfold Cf.mu US.sz; omega
  have muf := mu_fin ok ws
  generalize (fin prog ws).u.st = S at al5 stl k0
  have lkv := al5.len
  have hkeys := al5.keys
  refine ⟨_, _, hk5, trivial, fun od => ?_⟩
  have hz5 : upd H5 ta (.frz od (.dK kv5)) ta = some (.frz od (.dK kv5)) := upd_same
  refine ⟨_, rfl, ta, od, rfl, .inl ⟨kv5, hz5, fun D hD => L2.lc_it L2.walk_keys (fun i G => Same (upd H5 ta (.frz od (.dK kv5))) G ∧ G D = some (.lst ((((S.map (·.1)).take i).filter (posB S)).map V.str))) ⟨same_new hD _, upd_same⟩ (fun i G _ h => h.1 _ _ hz5) (fun i x G G' hi h hy => ?_) fun G h => ?_⟩⟩
  · obtain ⟨sG, hacc⟩ := h
    obtain ⟨rfl, kk, vv, hkv, rfl⟩ := hy
    obtain ⟨pr, hpr, rfl, _⟩ := al5.get hkv
    have hz6 := sG _ _ hz5
    have hm : (S.map (·.1))[i]? = some pr.1 := by rw [List.getElem?_map, hpr]; rfl
    obtain ⟨v, hv⟩ := alook_of_mem (List.mem_of_getElem? hm)
    obtain ⟨_, hvv, rfl⟩ := al5.look inr_inj pr.1 hv
    have et : (S.map (·.1)).take (i + 1) = (S.map (·.1)).take i ++ [pr.1] := by rw [List.take_succ, hm]; rfl
    have hi2 : i < S.length := (List.getElem?_eq_some_iff.mp hpr).1
    have eb : posB S pr.1 = decide (v > 0) := by unfold posB; rw [hv]; rfl
    have lf : (((S.map (·.1)).take i).filter (posB S)).length ≤ i := Nat.le_trans (List.length_filter_le _ _) (by rw [List.length_take]; omega)
    refine ⟨rfl, _, rfl, _, rfl, _, _, rfl, dget_kf hz6 hvv, _, _, rfl, rfl, _, rfl, ?_⟩
    by_cases c : v > 0
    · refine iteD c ⟨_, rfl, pr.1, rfl, _, hacc, by rw [List.length_map]; omega, same_put hD sG _, ?_⟩
      rw [upd_same, et, List.filter_append, List.map_append, List.filter_cons_of_pos (by rw [eb]; exact decide_eq_true c)]
      rfl
    · refine iteDF c ⟨sG, ?_⟩
      rw [et, List.filter_append, List.filter_cons_of_neg (by rw [eb, decide_eq_false c]; exact Bool.false_ne_true), List.filter_nil, List.append_nil]
      exact hacc
  · obtain ⟨sG, hacc⟩ := h
    rw [lkv, List.take_of_length_le (by rw [List.length_map]; omega)] at hacc
    refine ⟨sG _ _ hz5, D, _, rfl, SqL.of (by rw [upd_ne (fun z => by rw [z, hz5] at hD; cases hD)]; exact hacc), fun p6 hp6 => ?_⟩
    have s56 : Same H5 (upd G ta (.dK kv5)) := fun b o e => by
      by_cases eb : b = ta
      · subst eb; rw [upd_same]; rw [hk5] at e; exact e
      · rw [upd_ne eb]; exact sG _ _ (by rw [upd_ne eb]; exact e)
    generalize upd G ta (.dK kv5) = H6 at s56 hp6
    have s7 := same_new hp6 (.lst ((srt ((S.map (·.1)).filter (posB S))).map V.str))
    have hp7 : upd H6 p6 (.lst ((srt ((S.map (·.1)).filter (posB S))).map V.str)) p6 = some (.lst ((srt ((S.map (·.1)).filter (posB S))).map V.str)) := upd_same
    have s57 := s56.trans s7
    generalize upd H6 p6 (.lst ((srt ((S.map (·.1)).filter (posB S))).map V.str)) = H7 at s57 hp7
    have hk7 := s57 _ _ hk5
    generalize hN : srt ((S.map (·.1)).filter (posB S)) = N at hp7
    have lN : N.length ≤ S.length := by rw [← hN, len_srt]; exact Nat.le_trans (List.length_filter_le _ _) (by rw [List.length_map]; omega)
    have eN : wordsOf S = N.map fun x => (x, (alook S x).getD 0) := by rw [wordsOf_eq, hN]
    have mN : ∀ x ∈ N, ∃ v, alook S x = some v := fun x hx => by
      rw [← hN] at hx
      exact alook_of_mem (List.mem_filter.mp (mem_srt.mp hx)).1
    refine ⟨_, rfl, _, rfl, p6, rfl, ⟨_, SqL.of hp7⟩, fun D2 hD2 => lc_list (xs := N.map V.str) (fun i G => Same H7 G ∧ ∃ acc, G D2 = some (.lst acc) ∧ DPs G ((N.take i).map fun x => (x, (alook S x).getD 0)) acc ∧ acc.length ≤ i) ⟨same_new hD2 _, [], upd_same, rfl, Nat.le_refl _⟩ (fun i G _ h => SqL.of (h.1 _ _ hp7)) (fun i x G hx h => ?_) fun G h => ?_⟩
    · obtain ⟨s8, acc, hacc, dps, hl⟩ := h
      rw [List.getElem?_map] at hx
      cases ex : N[i]? with
      | none => rw [ex] at hx; cases hx
      | some y =>
        rw [ex] at hx
        cases hx
        have hi : i < N.length := (List.getElem?_eq_some_iff.mp ex).1
        obtain ⟨v, hv⟩ := mN y (List.mem_of_getElem? ex)
        obtain ⟨_, hvv, rfl⟩ := al5.look inr_inj y hv
        have et : N.take (i + 1) = N.take i ++ [y] := by rw [List.take_succ, ex]; rfl
        refine ⟨rfl, _, rfl, _, rfl, _, rfl, _, _, rfl, dget_k (s8 _ _ hk7) hvv, le_line (by show 2 ≤ 1000; decide), fun p3 hp3 => ?_⟩
        have s4 := same_new hp3 (.tup [V.str y, V.int v])
        have hacc4 := s4 _ _ hacc
        have k4 : Tk (upd G p3 (.tup [V.str y, V.int v])) (upd (upd G p3 (.tup [V.str y, V.int v])) D2 (.lst (acc ++ [V.ref p3]))) := tk_upd fun vs e => by rw [hacc4] at e; cases e
        refine ⟨acc, hacc4, by omega, same_put hD2 (s8.trans s4) _, _, upd_same, ?_, by rw [List.length_append]; show acc.length + 1 ≤ i + 1; omega⟩
        rw [et, List.map_append]
        refine DPs.app (dps.mono ((Tk.same s4).trans k4)) ?_
        exact ⟨_, [], rfl, ⟨p3, rfl, by dsimp only; rw [hv]; exact k4 _ _ upd_same⟩, rfl⟩
    · obtain ⟨s8, acc, hacc, dps, hl⟩ := h
      rw [List.length_map, List.take_length, ← eN] at dps
      refine ⟨D2, acc, rfl, .inl ⟨SqL.of hacc, fun l9 hl9 => ?_⟩⟩
      have s9 := same_new hl9 (.tup acc)
      refine ⟨le_line (by show 2 ≤ 1000; decide), fun r9 hr9 => ?_⟩
      have s10 := same_new hr9 (.tup [V.ref da, V.ref l9])
      have s710 := s8.trans (s9.trans s10)
      exact k0 _ r9 da l9 new (sH5.trans (s57.trans s710)) upd_same (D5.same (s57.trans s710)) eord nw.dn nw.pre ⟨acc, s10 _ _ upd_same, dps.mono (Tk.same (s9.trans s10))⟩
end
end K11
set_option Elab.async false
set_option linter.all false
set_option maxRecDepth 100000
set_option maxHeartbeats 4000000
namespace K11
open PySem PySem.Spec PyProof.Rows L2
theorem lt_2 {n : Nat} (h : n ≤ 1000) : n < sizeLine := lt_line h
/-! ### what is equal -/
theorem eqd_name {H : Hp} {n : Nm} {a b : Addr} (h : n.length ≤ 40) (ha : NM H n a) (hb : NM H n b) (m : Nat) : EqD H (m + 2) (.ref a) (.ref b) := by
  refine .inr (.inr ⟨a, b, _, _, rfl, rfl, ha, hb, rfl, lt_line (by rw [List.length_map]; omega), fun i u v h1 h2 => ?_⟩)
  rw [h1] at h2
  cases h2
  rw [List.getElem?_map] at h1
  cases e : n[i]? with
  | none => rw [e] at h1; cases h1
  | some z => rw [e] at h1; cases h1; exact .inl ⟨z, rfl, rfl⟩
theorem paired_get2 {γ δ : Type} {F : γ → δ → Prop} {a : List γ} {b : List δ} (h : Paired F a b) {i : Nat} {y : δ} (e : b[i]? = some y) : ∃ x, a[i]? = some x ∧ F x y := by
  have hi : i < b.length := (List.getElem?_eq_some_iff.mp e).1
  have hl := Paired.length h
  obtain ⟨y', h1, h2⟩ := paired_get h (List.getElem?_eq_getElem (show i < a.length by omega))
  rw [e] at h1
  cases h1
  exact ⟨_, List.getElem?_eq_getElem (by omega), h2⟩
theorem eqd_names {H : Hp} {ns : List Nm} {xs ys : List V} {a b : Addr} (hl : ∀ n ∈ ns, n.length ≤ 40) (hz : ns.length < sizeLine) (ha : H a = some (.tup xs)) (hb : H b = some (.tup ys)) (h1 : NMs H ns xs) (h2 : NMs H ns ys) : EqD H 3 (.ref a) (.ref b) := by
  have l1 := h1.len
  have l2 := h2.len
  refine .inr (.inr ⟨a, b, xs, ys, rfl, rfl, ha, hb, by omega, by omega, fun i u v e1 e2 => ?_⟩)
  obtain ⟨n, p, g1, rfl, hp⟩ := h1.get e1
  obtain ⟨n', p', g2, rfl, hp'⟩ := h2.get e2
  rw [g1] at g2
  cases g2
  exact eqd_name (hl n (List.mem_of_getElem? g1)) hp hp' 0
theorem eqd_words {H : Hp} {ws : List (Str × Int)} {a b : Addr} (hz : ws.length < sizeLine) (ha : DW H ws a) (hb : DW H ws b) : EqD H 3 (.ref a) (.ref b) := by
  obtain ⟨xs, e1, h1⟩ := ha
  obtain ⟨ys, e2, h2⟩ := hb
  have l1 := h1.length
  have l2 := h2.length
  refine .inr (.inr ⟨a, b, xs, ys, rfl, rfl, e1, e2, by omega, by omega, fun i u v g1 g2 => ?_⟩)
  obtain ⟨p, q1, t1, rfl, z1⟩ := h1.get g1
  obtain ⟨p', q2, t2, rfl, z2⟩ := h2.get g2
  rw [q1] at q2
  cases q2
  refine .inr (.inr ⟨t1, t2, _, _, rfl, rfl, z1, z2, rfl, lt_line (by show 2 ≤ 1000; decide), fun j u v e3 e4 => ?_⟩)
  rw [e3] at e4
  cases e4
  match j, e3 with
  | 0, e3 => cases e3; exact .inr (.inl ⟨_, rfl, rfl⟩)
  | 1, e3 => cases e3; exact .inl ⟨_, rfl, rfl⟩
theorem len_wordsOf (st : Sto) : (wordsOf st).length ≤ st.length := by
  rw [wordsOf_eq, List.length_map, len_srt]
  exact Nat.le_trans (List.length_filter_le _ _) (by rw [List.length_map]; omega)
theorem good_len {F : US} : ∀ {l bef : List Nm}, Good F bef l → ∀ n ∈ l, n.length ≤ 40
  | [], _, _, n, h => by cases h
  | m :: l, bef, h, n, hn => by
    rcases List.mem_cons.mp hn with rfl | hn
    · exact h.1.len
    · exact good_len h.2 n hn
section
variable {P : Program} {w : World} {K : PySem.W.Frag} {mg : Str → Option Value} {base : Heap}
/-! ### _law_equal within the except suite -/
def spEqH : Sp := fun vs H Q _ => ∃ z, vs = [.str z, .str z] ∧ Q (.bl true) H
theorem hot_law_equal (T : Txt w K mg) : ∃ (f : Addr) (fd : FuncData), L2H.FnH P w K mg base C8.CX0 1 f fd ["_law_actual", "_law_expected"] spEqH ∧ mg "_law_equal" = some (.ref f) ∧ PySem.W.keepIn K (.ref f) = true ∧ Binds K fd ["_law_actual", "_law_expected"] [] := by
  obtain ⟨f, fd, D, hm, b⟩ := T.f_law_equal
  have kp := D.kp
  obtain ⟨oc, od, dV, kV, doc, pm, an, cdv, ct, osl, rfl, lk, hcd, _, _⟩ := D.ex
  refine ⟨f, _, L2H.fn_ofH (k := 0) lk hcd sc_law_equal (fun vs H Q E h => by obtain ⟨_, rfl, _⟩ := h; rfl) fun A outer s H vs Q E p hot hr h => ?_, hm, kp, b⟩
  obtain ⟨z, rfl, q⟩ := h
  refine ⟨_, (pss_cons (ps_if (pt_cmpR op_isN (pv 1) pe_non (nomark _)) (pss_one (ps_ret (pe_cmpR op_isN (pv 0) pe_non (nomark _)))) pss_nil) (pss_cons (ps_if (pt_val (pe_callB call_isB (by rfl) T.z_isinstance (by decide +kernel) (pa_cons (pv 1) (pa_cons (pe_bltn (by rfl) T.z_bool (by decide +kernel) (RelV_ty "bool")) pa_nil)))) (pss_one (ps_ret (pe_and (pe_callB call_isB (by rfl) T.z_isinstance (by decide +kernel) (pa_cons (pv 0) (pa_cons (pe_bltn (by rfl) T.z_bool (by decide +kernel) (RelV_ty "bool")) pa_nil))) (pe_one (pe_cmpR op_eq (pv 0) (pv 1) (by rfl)))))) pss_nil) (pss_cons (ps_if (pt_val (pe_callB call_isB (by rfl) T.z_isinstance (by decide +kernel) (pa_cons (pv 1) (pa_cons (pe_bltn (by rfl) T.z_int (by decide +kernel) (RelV_ty "int")) pa_nil)))) (pss_one (ps_ret (pe_and (pe_callB call_isB (by rfl) T.z_isinstance (by decide +kernel) (pa_cons (pv 0) (pa_cons (pe_bltn (by rfl) T.z_int (by decide +kernel) (RelV_ty "int")) pa_nil))) (pe_and (pe_not (pe_callB call_isB (by rfl) T.z_isinstance (by decide +kernel) (pa_cons (pv 0) (pa_cons (pe_bltn (by rfl) T.z_bool (by decide +kernel) (RelV_ty "bool")) pa_nil)))) (pe_one (pe_cmpR op_eq (pv 0) (pv 1) (by rfl))))))) pss_nil) (pss_cons (ps_if (pt_val (pe_callB call_isB (by rfl) T.z_isinstance (by decide +kernel) (pa_cons (pv 1) (pa_cons (pe_bltn (by rfl) T.z_str (by decide +kernel) (RelV_ty "str")) pa_nil)))) (pss_one (ps_ret (pe_and (pe_callB call_isB (by rfl) T.z_isinstance (by decide +kernel) (pa_cons (pv 0) (pa_cons (pe_bltn (by rfl) T.z_str (by decide +kernel) (RelV_ty "str")) pa_nil))) (pe_one (pe_cmpR op_eq (pv 0) (pv 1) (by rfl)))))) pss_nil) pss_never)))), ?_⟩
  refine ⟨_, rfl, rfl, _, rfl, iteDF (fun z => by cases z) ⟨_, rfl, _, .sb, _, rfl, iteF ⟨_, rfl, _, .si, _, rfl, iteF ⟨_, rfl, _, .ss, _, rfl, iteT ?_⟩⟩⟩⟩
  refine ⟨_, rfl, _, .ss, _, rfl, iteT ⟨_, rfl, _, rfl, rfl, ?_⟩⟩
  exact dT rfl q
theorem takes0N {X : Cx} : L2N.Takes X (fun _ _ _ _ => False) := fun _ _ x => by
  obtain ⟨_, _, _, _, _, _, _, _, _, _, _, _, _, _, _, _, z⟩ := x
  exact z.elim
theorem hot_of {X : Cx} {a : Addr} {oe : Obj} {cls : Value} {d : Option Addr} {pn : List (Addr × Obj)} (hz : L2N.Zn cls d oe) (hf : ∃ vs, oe.data = .fields vs) : L2H.HotC (X.suite a ((a, oe) :: pn)) := by
  obtain ⟨vs, e⟩ := hf
  exact ⟨(a, oe), ⟨rfl, vs, e, hz.2.2 vs e⟩, List.mem_cons_self⟩
def spLUnd : Sp := fun vs H Q _ => ∃ (pa wa na : Addr) (prog : List Stm) (ws : List (Str × Int)) (n : Nm), vs = [.ref pa, .ref wa, .ref na] ∧ DB H prog pa ∧ POk prog ∧ DW H ws wa ∧ WordsOk ws ∧ ws.length ≤ 100 ∧ NM H n na ∧ n ∉ (fin prog ws).ord ∧
  ∀ H', Same H H' → Q (.bl true) H'
theorem sc_law_is_undefined : FnScope ["_law_program_here", "_law_words_here", "_law_deed_here", "undefined_error"] ["_law_program_here", "_law_words_here", "_law_deed_here"] (defScope s_law_is_undefined) := ⟨rfl, rfl, rfl, by decide +kernel, rfl, by decide +kernel, by decide +kernel⟩
theorem ok_law_is_undefined (T : Txt w K mg) (C_result_of : CalX P w K mg base 26 "result_of" (spRunWithX (K := K))) : C8.Cal P w K mg base 28 "_law_is_undefined" spLUnd [] := by
  obtain ⟨fE, fdE, FE, mE, kE, bE⟩ := hot_law_equal (P := P) (base := base) T
  refine T.f_law_is_undefined.cal sc_law_is_undefined (fun vs H Q E h => by obtain ⟨_, _, _, _, _, _, rfl, _⟩ := h; rfl) fun f cdv AR outer s H vs Q E hr h => ?_
  obtain ⟨pa, wa, na, prog, ws, n, rfl, hprog, ok, hw, wok, lw, hn, hin, k0⟩ := h
  refine ⟨_, pss_cons (L2N.ps_try_as (i := 3) rfl rfl sc_law_is_undefined.nd rfl rfl ⟨rfl, by decide, .inl T.g_Undefined⟩ takes0N
    (fun W pn xe tk _ => pss_one (ps_expr (pe_cX C_result_of tk hr (by omega) rfl (pa_cons (pv 0) (pa_cons (pv 1) (pa_cons (pv 2) pa_nil))))))
    (fun a oe cls d pn hz hf => pss_one (ps_ret (L2H.pe_callH FE (L2H.roomH_mark (hr.mono (by decide)) _) (hot_of hz hf) rfl mE kE bE (E := fun _ => C8.E0) (fun σ _ _ _ _ _ _ h => h.elim) (pa_cons (pe_xf T.x_Undefined T.n_Undefined hz.zc hf (pv 3)) (pa_cons pe_str pa_nil))))))
    (pss_one (ps_ret pe_bl)), ?_⟩
  refine ⟨_, rfl, _, rfl, _, rfl, pa, wa, na, prog, ws, n, rfl, hprog, ok, hw, wok, lw, hn, hin, fun H1 d s1 hd => ⟨true, T.e_Undefined, fun _ a ha => ?_, fun q => nomatch q⟩⟩
  exact ⟨_, rfl, rfl, rfl, d, _, .str "deed", rfl, hd, rfl, "deed", rfl, k0 _ s1⟩
def spLRight : Sp := fun vs H Q _ => ∃ (pa wa : Addr) (prog : List Stm) (ws : List (Str × Int)), vs = [.ref pa, .ref wa] ∧ DB H prog pa ∧ POk prog ∧ DW H ws wa ∧ WordsOk ws ∧ ∀ H', Same H H' → Q (.bl true) H'
theorem sc_law_is_right : FnScope ["_law_program_here", "_law_words_here", "_law_run_here", "_law_names", "_law_deed_here"] ["_law_program_here", "_law_words_here"] (defScope s_law_is_right) := ⟨rfl, rfl, rfl, by decide +kernel, rfl, by decide +kernel, by decide +kernel⟩
theorem ok_law_is_right (T : Txt w K mg) (C_law_run : C8.Cal P w K mg base 25 "_law_run" spLRun []) (C_law_equal : C8.Cal P w K mg base 3 "_law_equal" (spLEq 3) []) (C_serial_deeds : C8.Cal P w K mg base 25 "serial_deeds" spDeeds []) (C_serial_end : C8.Cal P w K mg base 25 "serial_end" spEnd [])
    (K_result_of : CalK P w K mg base 26 "result_of" spResultOf ["program", "words", "deed"]) (C_law_is_undefined : C8.Cal P w K mg base 28 "_law_is_undefined" spLUnd []) : C8.Cal P w K mg base 29 "_law_is_right" spLRight [] := by
  refine T.f_law_is_right.cal sc_law_is_right (fun vs H Q E h => by obtain ⟨_, _, _, _, rfl, _⟩ := h; rfl) fun f cdv AR outer s H vs Q E hr h => ?_
  obtain ⟨pa, wa, prog, ws, rfl, hprog, ok, hw, wok, k0⟩ := h
  refine ⟨_, (pss_cons (ps_set (i := 2) sc_law_is_right.nd rfl (Or.inl rfl) (C8.pe_c C_law_run hr (by omega) rfl (pa_cons (pv 0) (pa_cons (pv 1) pa_nil)))) 
    (pss_cons (ps_set (i := 3) sc_law_is_right.nd rfl (Or.inl rfl) (pe_callTy (ktuple_of K rfl) (by rfl) T.z_tuple (by decide +kernel) (pa_cons (pe_lc (own := [("_law_deed_here", 4)]) rfl sc_law_is_right.nd (pi_list (pe_ix (kix_tup K rfl) (pv 2) pe_int (fun _ _ => rfl))) (blkOk_by (N := ["_law_program_here", "_law_words_here", "_law_run_here", "_law_names", "_law_deed_here"]) (sc := defScope s_law_is_right) (by decide +kernel)) (fun _ _ _ _ _ => (pg_name (i := 4) sc_law_is_right.nd rfl (Or.inl rfl))) (fun _ _ _ _ _ => pts_nil) (fun _ _ _ _ _ => (pe_ix (kix_tup K rfl) (pv 4) pe_int (fun _ _ => rfl)))) pa_nil))) 
    (pss_cons (ps_if (PW.pt (pw_or (pt_not (pt_val (C8.pe_c C_law_equal hr (by omega) rfl (pa_cons (C8.pe_c C_serial_deeds hr (by omega) rfl (pa_cons (pv 0) (pa_cons (pv 1) pa_nil))) (pa_cons (pv 3) pa_nil))))) (pw_or1 (pt_not (pt_val (C8.pe_c C_law_equal hr (by omega) rfl (pa_cons (C8.pe_c C_serial_end hr (by omega) rfl (pa_cons (pv 0) (pa_cons (pv 1) pa_nil))) (pa_cons (pe_ix (kix_tup K rfl) (pv 2) pe_int (fun _ _ => rfl)) pa_nil)))))))) (pss_one (ps_ret pe_bl)) pss_nil) 
    (pss_cons (ps_for PassesOwn.never rfl (pi_list (pe_ix (kix_tup K rfl) (pv 2) pe_int (fun _ _ => rfl))) (pg_name (i := 4) sc_law_is_right.nd rfl (Or.inl rfl)) (pss_one (ps_if (pt_not (pt_val (C8.pe_c C_law_equal hr (by omega) rfl (pa_cons (pe_cK K_result_of hr (by omega) rfl (pk_cons (pv 0) (pk_cons (pv 1) (pk_cons (pe_ix (kix_tup K rfl) (pv 4) pe_int (fun _ _ => rfl)) pk_nil)))) (pa_cons (pe_ix (kix_tup K rfl) (pv 4) pe_int (fun _ _ => rfl)) pa_nil))))) (pss_one (ps_ret pe_bl)) pss_nil))) 
    (pss_one (ps_ret (pe_and (C8.pe_c C_law_is_undefined hr (by omega) rfl (pa_cons (pv 0) (pa_cons (pv 1) (pa_cons (pe_tup (pa_cons (pe_callB (klen_seq K rfl) (by rfl) T.z_len (by decide +kernel) (pa_cons (pv 0) pa_nil)) pa_nil)) pa_nil)))) (pe_one (C8.pe_c C_law_is_undefined hr (by omega) rfl (pa_cons (pv 0) (pa_cons (pv 1) (pa_cons (pe_tup pa_nil) pa_nil)))))))))))), ?_⟩
  have lw := wok.len
  refine ⟨_, rfl, _, rfl, pa, wa, prog, ws, rfl, hprog, ok, hw, wok, fun H1 r da wv new s1 hr1 hD eord hdn hpre hwv => ?_⟩
  obtain ⟨dvs, hda, dl, ldv⟩ := hD.len
  have lord := ol_fin ok ws
  have l40 := good_len (fin_good ok ws)
  have muf := mu_fin ok ws
  have KB := KB3
  have le6 := ok.1
  have k6 := Nat.mul_le_mul_right (KS 3) le6
  have stl : (fin prog ws).u.st.length ≤ (fin prog ws).mu := by unfold Cf.mu US.sz; omega
  have lwo := len_wordsOf (fin prog ws).u.st
  have lnew : new.length = (fin prog ws).ord.length := by rw [← eord, List.length_map]
  have nin : ∀ n : Nm, n ∈ (fin prog ws).ord → inBlk [] prog.length n := fun n hn => by
    rw [← eord] at hn
    obtain ⟨p, hp, rfl⟩ := List.mem_map.mp hn
    exact hpre p hp
  refine ⟨_, rfl, _, _, _, _, rfl, rfl, SqT.of hr1, at0, da, rfl, ⟨_, SqL.of hda⟩, fun D hDn => lc_list (xs := dvs) (fun i G => Same H1 G ∧ ∃ acc, G D = some (.lst acc) ∧ NMs G (((fin prog ws).ord).take i) acc ∧ acc.length ≤ i) ⟨same_new hDn _, [], upd_same, by rw [List.take_zero]; exact .nil, Nat.le_refl _⟩ (fun i G _ h => SqL.of (h.1 _ _ hda)) (fun i x G hx h => ?_) fun G h => ?_⟩
  · obtain ⟨sG, acc, hacc, nms, hl⟩ := h
    obtain ⟨p, hp, t, na, kd, e1, e2, e3, e4, rfl, ht, hna⟩ := paired_get2 dl hx
    have ht2 := sG _ _ ht
    have hi : i < dvs.length := (List.getElem?_eq_some_iff.mp hx).1
    have ho : (fin prog ws).ord[i]? = some p.1 := by rw [← eord, List.getElem?_map, hp]; rfl
    have et : (fin prog ws).ord.take (i + 1) = (fin prog ws).ord.take i ++ [p.1] := by rw [List.take_succ, ho]; rfl
    have k4 : Tk G (upd G D (.lst (acc ++ [V.ref na]))) := tk_upd fun vs e => by rw [hacc] at e; cases e
    refine ⟨rfl, _, rfl, _, _, _, _, rfl, rfl, SqT.of ht2, at0, acc, hacc, by omega, same_put hDn sG _, _, upd_same, ?_, by rw [List.length_append]; show acc.length + 1 ≤ i + 1; omega⟩
    rw [et]
    exact paired_app (nms.mono k4) (.cons ⟨na, rfl, ((hna.mono (Tk.same sG)).mono k4)⟩ .nil)
  obtain ⟨sG, acc, hacc, nms, hl⟩ := h
  rw [List.take_of_length_le (by omega)] at nms
  refine ⟨D, acc, rfl, .inl ⟨SqL.of hacc, fun l2 hl2 => ?_⟩⟩
  have s2 := same_new hl2 (.tup acc)
  have hl22 : upd G l2 (.tup acc) l2 = some (.tup acc) := upd_same
  have nms2 := nms.mono (Tk.same s2)
  have s12 := sG.trans s2
  generalize upd G l2 (.tup acc) = H2 at hl22 nms2 s12
  have s02 := s1.trans s12
  refine ⟨_, rfl, _, rfl, pa, wa, prog, ws, rfl, hprog.mono (Tk.same s02), ok, hw.mono (Tk.same s02), wok, by omega, fun H3 a3 xs3 s3 ha3 nms3 => ?_⟩
  have s03 := s02.trans s3
  refine ⟨_, rfl, _, _, rfl, eqd_names l40 (by omega) ha3 (s3 _ _ hl22) nms3 (nms2.mono (Tk.same s3)), fun H4 s4 => ⟨_, rfl, iteF ?_⟩⟩
  have s04 := s03.trans s4
  refine ⟨_, rfl, _, rfl, pa, wa, prog, ws, rfl, hprog.mono (Tk.same s04), ok, hw.mono (Tk.same s04), wok, by omega, fun H5 a5 s5 dw5 => ?_⟩
  have s15 := s12.trans (s3.trans (s4.trans s5))
  have hr5 := s15 _ _ hr1
  refine ⟨_, rfl, _, _, _, _, rfl, rfl, SqT.of hr5, at1, _, _, rfl, eqd_words (by omega) dw5 (hwv.mono (Tk.same s15)), fun H6 s6 => ⟨_, rfl, iteF ?_⟩⟩
  have s16 := s15.trans s6
  have s06 := s1.trans s16
  have hr6 := s16 _ _ hr1
  have hda6 := s16 _ _ hda
  refine ⟨_, rfl, _, _, _, _, rfl, rfl, SqT.of hr6, at0, da, rfl, ⟨_, SqL.of hda6⟩, for_list (xs := dvs) (fun i σ G => (∃ c, σ = [some (.ref pa), some (.ref wa), some (.ref r), some (.ref l2), c]) ∧ Same H6 G) ⟨⟨_, rfl⟩, Same.refl _⟩ (fun i σ G _ h => SqL.of (h.2 _ _ hda6)) (fun i x σ G hx h => ?_) fun σ G h => ?_⟩
  · obtain ⟨⟨c, rfl⟩, sG⟩ := h
    obtain ⟨p, hp, t, na, kd, e1, e2, e3, e4, rfl, ht, hna⟩ := paired_get2 dl hx
    have s1G := s16.trans sG
    have s0G := s06.trans sG
    have ht2 := s1G _ _ ht
    have hin : p.1 ∈ (fin prog ws).ord := by rw [← eord]; exact List.mem_map_of_mem (List.mem_of_getElem? hp)
    refine ⟨_, rfl, _, rfl, _, rfl, _, _, _, _, rfl, rfl, SqT.of ht2, at0, pa, wa, na, prog, ws, p.1, p.2, rfl, hprog.mono (Tk.same s0G), ok, hw.mono (Tk.same s0G), wok, by omega, hna.mono (Tk.same s1G), hin, hdn p (List.mem_of_getElem? hp), fun G2 sg2 => ?_⟩
    have ht3 := sg2 _ _ ht2
    exact ⟨_, rfl, _, _, _, _, rfl, rfl, SqT.of ht3, at5, _, _, rfl, .inl ⟨p.2, rfl, rfl⟩, fun G3 sg3 => ⟨_, rfl, iteF ⟨⟨_, rfl⟩, sG.trans (sg2.trans sg3)⟩⟩⟩
  · obtain ⟨⟨c, rfl⟩, sG⟩ := h
    have s0G := s06.trans sG
    obtain ⟨pv, hpv, pds⟩ := hprog
    have lpv := pds.length
    have hpG := s0G _ _ hpv
    refine ⟨_, rfl, _, rfl, _, rfl, _, _, rfl, .inr (SqT.of hpG), le_line (by show 1 ≤ 1000; decide), fun t ht => ?_⟩
    have st := same_new ht (.tup [V.int (pv.length : Nat)])
    have s0t := s0G.trans st
    refine ⟨pa, wa, t, prog, ws, [(pv.length : Int)], rfl, ⟨pv, s0t _ _ hpv, pds.mono (Tk.same s0t)⟩, ok, hw.mono (Tk.same s0t), wok, by omega, upd_same, fun hin => ?_, fun G2 sg2 => ⟨_, rfl, iteT ?_⟩⟩
    · obtain ⟨j, hj, hp⟩ := nin _ hin
      have := ext_uniq (q := []) (i := (j : Int)) (j := (pv.length : Int)) hp (List.prefix_refl _)
      omega
    · have s0u := s0t.trans sg2
      refine ⟨_, rfl, _, rfl, Nat.zero_le _, fun u hu => ?_⟩
      have su := s0u.trans (same_new hu (.tup []))
      refine ⟨pa, wa, u, prog, ws, [], rfl, ⟨pv, su _ _ hpv, pds.mono (Tk.same su)⟩, ok, hw.mono (Tk.same su), wok, by omega, upd_same, fun hin => ?_, fun G3 sg3 => k0 _ (su.trans sg3)⟩
      obtain ⟨j, hj, hp⟩ := nin _ hin
      have := hp.length_le
      simp at this
end
end K11
set_option Elab.async false
set_option linter.all false
set_option maxRecDepth 100000
set_option maxHeartbeats 4000000
namespace K11
open PySem PySem.Spec PyProof.Rows L2
/-- numbers below their bounds -/
def Drawn (bs ds : List Int) : Prop := ds.length = bs.length ∧ ∀ (i : Nat) d b, ds[i]? = some d → bs[i]? = some b → 0 ≤ d ∧ d < b
theorem cmul_mod (x j p : Int) (h : 0 < p) (h2 : p < 2 ^ 64) : CMul (x % p) j := by
  have h3 := Int.emod_nonneg x (show p ≠ 0 by omega)
  have h4 := Int.emod_lt_of_pos x h
  exact .inl ⟨by omega, by omega⟩
section
variable {P : Program} {w : World} {K : PySem.W.Frag} {mg : Str → Option Value} {base : Heap}
def spLDraws (K : PySem.W.Frag) : Sp := fun vs H Q _ => ∃ (sa ba : Addr) (xs bs : List Int) (k : Nat), vs = [.ref sa, .int (k : Int), .ref ba] ∧ SqL K H sa (xs.map V.int) ∧ xs.length ≤ 63 ∧ k ≤ 1000 ∧ H ba = some (.lst (bs.map V.int)) ∧ bs.length ≤ 100 ∧ (∀ b ∈ bs, 0 < b ∧ b < 2 ^ 40) ∧
  ∀ H' r ds, Same H H' → H' r = some (.lst (ds.map V.int)) → Drawn bs ds → Q (.ref r) H'
theorem sc_law_draws : FnScope ["_law_script", "_law_k", "_law_bounds", "_law_cell", "_law_rest", "_law_drawn", "_law_j", "_law_mixed"] ["_law_script", "_law_k", "_law_bounds"] (defScope s_law_draws) := ⟨rfl, rfl, rfl, by decide +kernel, rfl, by decide +kernel, by decide +kernel⟩
theorem ok_law_draws (T : Txt w K mg) : C8.Cal P w K mg base 1 "_law_draws" (spLDraws K) [] := by
  refine T.f_law_draws.cal sc_law_draws (fun vs H Q E h => by obtain ⟨_, _, _, _, _, rfl, _⟩ := h; rfl) fun f cdv A outer s H vs Q E hr h => ?_
  obtain ⟨sa, ba, xs, bs, k, rfl, hx, lx, lk, hb, lb, hbs, q⟩ := h
  refine ⟨_, (pss_cons (ps_set (i := 3) sc_law_draws.nd rfl (Or.inl rfl) pe_int) 
    (pss_cons (ps_set (i := 4) sc_law_draws.nd rfl (Or.inl rfl) pe_int) 
    (C8.pss_cut (ps_if (pt_cmpR op_lt (pv 1) (pe_callB (klen_seq K rfl) (by rfl) T.z_len (by decide +kernel) (pa_cons (pv 0) pa_nil)) (nomark _)) 
      (pss_cons (ps_set (i := 3) sc_law_draws.nd rfl (Or.inl rfl) (pe_callTy call_int1 (by rfl) T.z_int (by decide +kernel) (pa_cons (pe_ix (kix_list K rfl) (pv 0) (pv 1) (fun _ _ => rfl)) pa_nil))) 
      (pss_one (ps_set (i := 4) sc_law_draws.nd rfl (Or.inl rfl) (pe_callB (call_max2 rfl) (by rfl) T.z_max (by decide +kernel) (pa_cons pe_int (pa_cons (pe_op op_sub (pv 3) (pe_op op_pow pe_int pe_int)) pa_nil)))))) (pss_one (ps_if (pt_cmpR op_gt (pe_callB (klen_seq K rfl) (by rfl) T.z_len (by decide +kernel) (pa_cons (pv 0) pa_nil)) pe_int (nomark _)) (pss_one (ps_set (i := 3) sc_law_draws.nd rfl (Or.inl rfl) (pe_callTy call_int1 (by rfl) T.z_int (by decide +kernel) (pa_cons (pe_ix (kix_list K rfl) (pv 0) (pe_op op_mod (pe_callTy call_int1 (by rfl) T.z_int (by decide +kernel) (pa_cons (pv 1) pa_nil)) (pe_callB (klen_seq K rfl) (by rfl) T.z_len (by decide +kernel) (pa_cons (pv 0) pa_nil))) (fun _ _ => rfl)) pa_nil)))) pss_nil))) 
    (pss_cons (ps_set (i := 5) sc_law_draws.nd rfl (Or.inl rfl) (pe_lst pa_nil)) 
    (pss_cons (ps_for PassesOwn.never rfl (pi_range1 rfl T.z_range (pa_cons (pe_callB (klen_seq K rfl) (by rfl) T.z_len (by decide +kernel) (pa_cons (pv 2) pa_nil)) pa_nil)) (pg_name (i := 6) sc_law_draws.nd rfl (Or.inl rfl)) (pss_one (ps_if (pt_cmpR op_gt (pv 4) pe_int (nomark _)) 
        (pss_cons (ps_expr (pe_bm PySem.F.plainAttrs_list PySem.F.slot_list_append PySem.F.type_list_append mt_append (pv 5) (pa_cons (pe_op op_mod (pe_callTy call_int1 (by rfl) T.z_int (by decide +kernel) (pa_cons (pv 4) pa_nil)) (pe_ix (kix_list K rfl) (pv 2) (pv 6) (fun _ _ => rfl))) pa_nil))) 
        (pss_one (ps_set (i := 4) sc_law_draws.nd rfl (Or.inl rfl) (pe_op op_fdivW (pv 4) (pe_ix (kix_list K rfl) (pv 2) (pv 6) (fun _ _ => rfl)))))) 
        (pss_cons (ps_set (i := 7) sc_law_draws.nd rfl (Or.inl rfl) (pe_op op_mod (pe_callTy call_int1 (by rfl) T.z_int (by decide +kernel) (pa_cons (pe_op op_add (pe_op op_add (pe_op op_add (pe_op op_mul (pv 3) pe_int) (pe_op op_mul (pv 1) pe_int)) (pe_op op_mul (pv 6) pe_int)) pe_int) pa_nil)) pe_int)) 
        (pss_cons (ps_set (i := 7) sc_law_draws.nd rfl (Or.inl rfl) (pe_op op_mod (pe_callTy call_int1 (by rfl) T.z_int (by decide +kernel) (pa_cons (pe_op op_add (pe_op op_add (pe_op op_mul (pv 7) (pv 7)) (pe_op op_mul (pv 6) pe_int)) pe_int) pa_nil)) pe_int)) 
        (pss_cons (ps_set (i := 7) sc_law_draws.nd rfl (Or.inl rfl) (pe_op op_mod (pe_callTy call_int1 (by rfl) T.z_int (by decide +kernel) (pa_cons (pe_op op_add (pe_op op_add (pe_op op_mul (pv 7) (pv 7)) (pe_op op_mul (pv 7) pe_int)) pe_int) pa_nil)) pe_int)) 
        (pss_one (ps_expr (pe_bm PySem.F.plainAttrs_list PySem.F.slot_list_append PySem.F.type_list_append mt_append (pv 5) (pa_cons (pe_op op_mod (pe_op op_fdivW (pv 7) pe_int) (pe_ix (kix_list K rfl) (pv 2) (pv 6) (fun _ _ => rfl))) pa_nil)))))))))) 
    (pss_one (ps_ret (pv 5)))))))), ?_⟩
  have ex : (xs.map V.int).length = xs.length := List.length_map _
  refine ⟨fun σ H' => ∃ c4 r4 : Int, σ = [some (.ref sa), some (.int (k : Int)), some (.ref ba), some (.int c4), some (.int r4), none, none, none] ∧ H = H', ?_, ?_⟩
  · refine ⟨_, rfl, _, rfl, _, _, rfl, .inl hx, _, _, rfl, rfl, _, rfl, ?_⟩
    by_cases c : k < xs.length
    · have e1 : (xs.map V.int)[k]? = some (.int xs[k]) := by rw [List.getElem?_map, List.getElem?_eq_getElem c]; rfl
      refine iteD (by rw [ex]; omega) ⟨_, rfl, _, rfl, _, _, _, _, rfl, rfl, hx, atI_nat e1, .inl ⟨_, rfl, ?_⟩⟩
      exact ⟨_, rfl, _, _, rfl, rfl, ⟨by decide, by decide, by decide⟩, _, _, rfl, rfl, _, _, rfl, _, _, rfl, rfl⟩
    · refine iteDF (by rw [ex]; omega) ⟨_, rfl, _, _, rfl, .inl hx, _, _, rfl, rfl, _, rfl, ?_⟩
      by_cases c2 : 0 < xs.length
      · refine iteD (by rw [ex]; omega) ⟨_, rfl, _, rfl, .inl ⟨_, rfl, _, rfl, _, _, rfl, .inl hx, _, _, rfl, rfl, (by show (0 : Int) < _; rw [ex]; omega), ?_⟩⟩
        have hlt : k % xs.length < xs.length := Nat.mod_lt _ c2
        have e1 : (xs.map V.int)[k % xs.length]? = some (.int xs[k % xs.length]) := by rw [List.getElem?_map, List.getElem?_eq_getElem hlt]; rfl
        have e2 : atI (xs.map V.int) ((k : Int) % ((xs.map V.int).length : Int)) = some (.int xs[k % xs.length]) := by
          rw [ex, show (k : Int) % (xs.length : Int) = ((k % xs.length : Nat) : Int) by omega]
          exact atI_nat e1
        exact ⟨_, _, _, _, rfl, rfl, hx, e2, .inl ⟨_, rfl, _, _, rfl, rfl⟩⟩
      · exact iteDF (by rw [ex]; omega) ⟨_, _, rfl, rfl⟩
  · rintro σ _ ⟨c4, r4, rfl, rfl⟩
    refine ⟨Nat.zero_le _, fun D hD => ?_⟩
    have s0 := same_new hD (.lst [])
    have hD0 : upd H D (.lst []) D = some (.lst []) := upd_same
    generalize upd H D (.lst []) = H0 at s0 hD0
    have hb0 := s0 _ _ hb
    have eb : (bs.map V.int).length = bs.length := List.length_map _
    refine ⟨_, rfl, _, _, rfl, .inl (SqL.of hb0), ((bs.map V.int).length : Int), rfl, by rw [eb]; omega, by rw [eb]; omega, ?_⟩
    rw [show (((bs.map V.int).length : Int)).toNat = bs.length by rw [eb]; omega]
    have nbD : ba ≠ D := fun z => by rw [z, hD] at hb; cases hb
    refine for_range (lo := 0) (n := bs.length) (fun i σ G => (∃ (r : Int) (c6 c7 : Option V), σ = [some (.ref sa), some (.int (k : Int)), some (.ref ba), some (.int c4), some (.int r), some (.ref D), c6, c7]) ∧ Same H G ∧ ∃ ds : List Int, G D = some (.lst (ds.map V.int)) ∧ ds.length = i ∧ ∀ (j : Nat) d b, ds[j]? = some d → bs[j]? = some b → 0 ≤ d ∧ d < b)
      ⟨⟨_, _, _, rfl⟩, s0, [], hD0, rfl, fun j d b h => by simp at h⟩ (fun i σ G hi h => ?_) fun σ G h => ?_
    · obtain ⟨⟨r, c6, c7, rfl⟩, sG, ds, hds, lds, hall⟩ := h
      have z0 : (0 : Int) + (i : Nat) = (i : Int) := by omega
      rw [z0]
      have hbG := sG _ _ hb
      have ei : bs[i]? = some bs[i] := List.getElem?_eq_getElem hi
      obtain ⟨b0, b1⟩ := hbs bs[i] (List.getElem_mem hi)
      generalize bs[i] = b at ei b0 b1
      have e1 : (bs.map V.int)[i]? = some (.int b) := by rw [List.getElem?_map, ei]; rfl
      have e1' := atI_nat e1
      have put : ∀ (d : Int) (σ' : List (Option V)), 0 ≤ d → d < b → (∃ (r : Int) (c6 c7 : Option V), σ' = [some (.ref sa), some (.int (k : Int)), some (.ref ba), some (.int c4), some (.int r), some (.ref D), c6, c7]) →
          ((∃ (r : Int) (c6 c7 : Option V), σ' = [some (.ref sa), some (.int (k : Int)), some (.ref ba), some (.int c4), some (.int r), some (.ref D), c6, c7]) ∧ Same H (upd G D (.lst (ds.map V.int ++ [V.int d]))) ∧ ∃ ds' : List Int, upd G D (.lst (ds.map V.int ++ [V.int d])) D = some (.lst (ds'.map V.int)) ∧ ds'.length = i + 1 ∧ ∀ (j : Nat) d b, ds'[j]? = some d → bs[j]? = some b → 0 ≤ d ∧ d < b) := fun d σ' d0 d1 hσ =>
        ⟨hσ, same_put hD sG _, ds ++ [d], by rw [upd_same, List.map_append]; rfl, by rw [List.length_append, lds]; rfl, fun j d' b' g1 g2 => by
          by_cases cj : j < i
          · rw [List.getElem?_append_left (by omega)] at g1
            exact hall j d' b' g1 g2
          · have ej : j = i := by
              have := (List.getElem?_eq_some_iff.mp g1).1
              rw [List.length_append, lds] at this
              simp at this
              omega
            subst ej
            rw [List.getElem?_append_right (by omega), lds, Nat.sub_self] at g1
            rw [ei] at g2
            cases g1
            cases g2
            exact ⟨d0, d1⟩⟩
      have lz : (ds.map V.int).length < sizeLine := lt_line (by rw [List.length_map]; omega)
      refine ⟨_, rfl, _, _, rfl, rfl, _, rfl, ?_⟩
      by_cases c : r > 0
      · refine iteD c ⟨_, rfl, .inl ⟨rfl, _, SqL.of hds⟩, _, rfl, .inl ⟨_, rfl, _, rfl, _, rfl, _, _, _, _, rfl, rfl, SqL.of hbG, e1', _, _, rfl, rfl, b0, D, _, _, rfl, rfl, hds, lz, ?_⟩⟩
        have m0 : 0 ≤ r % b := Int.emod_nonneg _ (by omega)
        have m1 : r % b < b := Int.emod_lt_of_pos _ b0
        have nx := fun σ' h => put (r % b) σ' m0 m1 h
        have hb2 : upd G D (.lst (ds.map V.int ++ [V.int (r % b)])) ba = some (.lst (bs.map V.int)) := by rw [upd_ne nbD]; exact hbG
        exact ⟨_, rfl, _, rfl, _, rfl, _, _, _, _, rfl, rfl, SqL.of hb2, e1', _, _, rfl, rfl, wide_div b0 (b := 40) (by omega) (by decide) (by decide), nx _ ⟨_, _, _, rfl⟩⟩
      · refine iteDF c ⟨_, rfl, _, _, rfl, rfl, .inr ⟨by decide, by decide⟩, _, rfl, _, _, rfl, rfl, .inr ⟨by decide, by decide⟩, _, _, rfl, rfl, _, rfl, _, _, rfl, rfl, .inr ⟨by decide, by decide⟩, _, _, rfl, rfl, _, _, rfl, rfl, .inl ⟨_, rfl, _, _, rfl, rfl, (by show (0 : Int) < 2147483647; decide), ?_⟩⟩
        refine ⟨_, rfl, _, rfl, _, _, rfl, rfl, cmul_mod _ _ _ (by decide) (by decide), _, rfl, _, _, rfl, rfl, .inr ⟨by decide, by decide⟩, _, _, rfl, rfl, _, _, rfl, rfl, .inl ⟨_, rfl, _, _, rfl, rfl, (by show (0 : Int) < 2147483563; decide), ?_⟩⟩
        refine ⟨_, rfl, _, rfl, _, _, rfl, rfl, cmul_mod _ _ _ (by decide) (by decide), _, rfl, _, _, rfl, rfl, .inr ⟨by decide, by decide⟩, _, _, rfl, rfl, _, _, rfl, rfl, .inl ⟨_, rfl, _, _, rfl, rfl, (by show (0 : Int) < 2147483399; decide), ?_⟩⟩
        refine ⟨_, rfl, .inl ⟨rfl, _, SqL.of hds⟩, _, rfl, _, _, rfl, rfl, ⟨by decide, by decide⟩, _, rfl, _, rfl, _, _, _, _, rfl, rfl, SqL.of hbG, e1', _, _, rfl, rfl, b0, D, _, _, rfl, rfl, hds, lz, ?_⟩
        exact put _ _ (Int.emod_nonneg _ (by omega)) (Int.emod_lt_of_pos _ b0) ⟨_, _, _, rfl⟩
    · obtain ⟨⟨r, c6, c7, rfl⟩, sG, ds, hds, lds, hall⟩ := h
      exact ⟨_, rfl, q _ D ds sG hds ⟨lds, hall⟩⟩
end
end K11
set_option Elab.async false
set_option linter.all false
set_option maxRecDepth 100000
set_option maxHeartbeats 4000000
namespace K11
open PySem PySem.Spec PyProof.Rows L2
/-! ### the pool's words, plainly -/
theorem app_toList (a b : Str) : (a ++ b).cps.toList = a.cps.toList ++ b.cps.toList := Array.toList_append
theorem len_toList (a : Str) : a.length = a.cps.toList.length := (Array.length_toList).symm
theorem app_len (a b : Str) : (a ++ b).length = a.length + b.length := by rw [len_toList, len_toList, len_toList, app_toList, List.length_append]
abbrev nameL : List Str := ["if", "fork", "each", "fold", "start", "await", "max", "min"]
theorem noNames_eq : noNames = nameL.map V.str := rfl
theorem inV_strs (x : Str) (ns : List Str) : inV (.str x) (ns.map V.str) = decide (x ∈ ns) := by
  rw [Bool.eq_iff_iff, decide_eq_true_iff]
  unfold inV
  rw [List.any_eq_true]
  constructor
  · rintro ⟨z, hz, e⟩
    obtain ⟨y, hy, rfl⟩ := List.mem_map.mp hz
    have e2 : y = x := by simpa [eqV] using e
    rw [← e2]; exact hy
  · intro h
    exact ⟨.str x, List.mem_map_of_mem h, by simp [eqV]⟩
theorem nmLen {x : Str} (h : x ∈ nameL) : x.length ≤ 5 := by
  have : ∀ y ∈ nameL, y.length ≤ 5 := by decide
  exact this x h
theorem nmX {x : Str} (h : x ∈ nameL) : (x ++ "x") ∉ nameL := by
  have : ∀ y ∈ nameL, (y ++ "x" : Str) ∉ nameL := by decide
  exact this x h
theorem nmZ (y : Str) : (y ++ "z") ∉ nameL := by
  intro h
  have g : ∀ u ∈ nameL, u.cps.toList.getLast? ≠ some 122 := by decide
  refine g _ h ?_
  rw [app_toList]
  show (y.cps.toList ++ [122]).getLast? = some 122
  rw [List.getLast?_append]
  rfl
theorem nameOk_of {x : Str} (w : WordOk x) (h : x ∉ nameL) : NameOk x := ⟨w, by rw [noNames_eq, inV_strs, decide_eq_false h]⟩
/-- letters alone -/
def Lets (x : Str) : Prop := ∀ c ∈ x.cps.toList, c ∈ letters.cps.toList
theorem Lets.app {a b : Str} (h1 : Lets a) (h2 : Lets b) : Lets (a ++ b) := fun c hc => by
  rw [app_toList] at hc
  exact (List.mem_append.mp hc).elim (h1 c) (h2 c)
theorem lets_x : Lets "x" := by unfold Lets; decide
theorem lets_z : Lets "z" := by unfold Lets; decide
theorem lets_e : Lets "" := by unfold Lets; decide
/-- a word of the pool at an even, at an odd place -/
def EvenW (L : Nat) (u : Str) : Prop := u.length = L ∨ (u.length = L + 1 ∧ u.cps.toList.getLast? = some 120)
def OddW (L : Nat) (u : Str) : Prop := (u.length = L + 1 ∧ u.cps.toList.getLast? = some 122) ∨ u.length = L + 2
theorem even_odd {L : Nat} {u : Str} (h1 : EvenW L u) (h2 : OddW L u) : False := by
  rcases h1 with h1 | ⟨h1, h3⟩ <;> rcases h2 with ⟨h2, h4⟩ | h2
  · omega
  · omega
  · rw [h3] at h4; cases h4
  · omega
/-- the base word behind its loop, and what is made of it -/
structure BaseW (L : Nat) (c : Nat) (x : Str) : Prop where
  len : x.length = L
  hd : x.cps.toList[0]? = some c
  ok : Lets x
structure PoW (L : Nat) (c : Nat) (i : Nat) (u : Str) : Prop where
  nm : NameOk u
  hd : u.cps.toList[0]? = some c
  ev : i % 2 = 0 → EvenW L u
  od : i % 2 = 1 → OddW L u
theorem hd_app {x y : Str} {c : Nat} (h : x.cps.toList[0]? = some c) : (x ++ y).cps.toList[0]? = some c := by
  rw [app_toList, List.getElem?_append_left (List.getElem?_eq_some_iff.mp h).1]
  exact h
theorem last_x (x : Str) : (x ++ "x").cps.toList.getLast? = some 120 := by
  rw [app_toList]
  show (x.cps.toList ++ [120]).getLast? = some 120
  rw [List.getLast?_append]
  rfl
theorem last_z (x : Str) : (x ++ "z").cps.toList.getLast? = some 122 := by
  rw [app_toList]
  show (x.cps.toList ++ [122]).getLast? = some 122
  rw [List.getLast?_append]
  rfl
theorem app_e (x : Str) : x ++ ("" : Str) = x := by
  cases x with
  | mk a => exact congrArg Str.mk (Array.append_empty)
theorem pw_of {L c i : Nat} {x : Str} (hL : 1 ≤ L) (hL7 : L ≤ 7) (b : BaseW L c x) : PoW L c i ((if x ∈ nameL then x ++ "x" else x) ++ (if i % 2 = 0 then ("" : Str) else ("z" : Str))) := by
  have l1 : ("x" : Str).length = 1 := by decide
  have l2 : ("z" : Str).length = 1 := by decide
  have bl := b.len
  by_cases h : x ∈ nameL
  · rw [if_pos h]
    have l5 := nmLen h
    by_cases e : i % 2 = 0
    · rw [if_pos e, app_e]
      refine ⟨nameOk_of ⟨by rw [app_len]; omega, by rw [app_len]; omega, b.ok.app lets_x⟩ (nmX h), hd_app b.hd, fun _ => .inr ⟨by rw [app_len]; omega, last_x x⟩, fun z => by omega⟩
    · rw [if_neg e]
      refine ⟨nameOk_of ⟨by rw [app_len, app_len]; omega, by rw [app_len, app_len]; omega, (b.ok.app lets_x).app lets_z⟩ (nmZ _), hd_app (hd_app b.hd), fun z => absurd z e, fun _ => .inr (by rw [app_len, app_len]; omega)⟩
  · rw [if_neg h]
    by_cases e : i % 2 = 0
    · rw [if_pos e, app_e]
      refine ⟨nameOk_of ⟨by omega, by omega, b.ok⟩ h, b.hd, fun _ => .inl bl, fun z => by omega⟩
    · rw [if_neg e]
      refine ⟨nameOk_of ⟨by rw [app_len]; omega, by rw [app_len]; omega, b.ok.app lets_z⟩ (nmZ _), hd_app b.hd, fun z => absurd z e, fun _ => .inl ⟨by rw [app_len]; omega, last_z x⟩⟩
/-- the code of the first sign -/
def cdOf (n : Int) : Nat := 97 + (n % 26).toNat
structure PoolOk (ns : List Str) : Prop where
  len : ns.length = 5
  ok : ∀ x ∈ ns, NameOk x
  nd : ns.Nodup
theorem pool_ok {ns : List Str} {L : Nat} {n st : Int} (h1 : 1 ≤ st) (h9 : st ≤ 9) (hl : ns.length = 5) (h : ∀ (i : Nat) u, ns[i]? = some u → PoW L (cdOf (n + ((i / 2 : Nat) : Int) * st)) i u) : PoolOk ns := by
  refine ⟨hl, fun x hx => ?_, ?_⟩
  · obtain ⟨i, hi⟩ := List.mem_iff_getElem?.mp hx
    exact (h i x hi).nm
  · have key : ∀ i j : Nat, i < 5 → j < 5 → ∀ u, ns[i]? = some u → ns[j]? = some u → i = j := fun i j hi hj u e1 e2 => by
      have a := h i u e1
      have b := h j u e2
      have e := a.hd.symm.trans b.hd
      have e3 : cdOf (n + ((i / 2 : Nat) : Int) * st) = cdOf (n + ((j / 2 : Nat) : Int) * st) := Option.some.inj e
      unfold cdOf at e3
      have s : ∀ m : Nat, m ≤ 2 → ((m : Int) * st = 0 ∧ m = 0) ∨ ((m : Int) * st = st ∧ m = 1) ∨ ((m : Int) * st = 2 * st ∧ m = 2) := fun m hm => by
        rcases (show m = 0 ∨ m = 1 ∨ m = 2 by omega) with rfl | rfl | rfl
        · exact .inl ⟨by simp, rfl⟩
        · exact .inr (.inl ⟨by simp, rfl⟩)
        · exact .inr (.inr ⟨rfl, rfl⟩)
      have s1 := s (i / 2) (by omega)
      have s2 := s (j / 2) (by omega)
      have half : i / 2 = j / 2 := by
        rcases s1 with ⟨q1, r1⟩ | ⟨q1, r1⟩ | ⟨q1, r1⟩ <;> rcases s2 with ⟨q2, r2⟩ | ⟨q2, r2⟩ | ⟨q2, r2⟩ <;> rw [q1, q2] at e3 <;> omega
      rcases (show i % 2 = 0 ∨ i % 2 = 1 by omega) with p | p <;> rcases (show j % 2 = 0 ∨ j % 2 = 1 by omega) with p2 | p2
      · omega
      · exact (even_odd (a.ev p) (b.od p2)).elim
      · exact (even_odd (b.ev p2) (a.od p)).elim
      · omega
    refine List.pairwise_iff_getElem.mpr fun i j hi hj hij e => ?_
    have e1 := List.getElem?_eq_getElem hi
    have e2 := List.getElem?_eq_getElem hj
    rw [← e] at e2
    have := key i j (by omega) (by omega) ns[i] e1 e2
    omega
end K11
set_option Elab.async false
set_option linter.all false
set_option maxRecDepth 100000
set_option maxHeartbeats 4000000
namespace K11
open PySem PySem.Spec PyProof.Rows L2
theorem letter_at (n : Int) : ∃ c : Nat, letters.cps[(n % 26).toNat]? = some c ∧ c = cdOf n ∧ c ∈ letters.cps.toList := by
  have h : ∀ m : Nat, m < 26 → letters.cps[m]? = some (97 + m) := by decide
  have hm := h (n % 26).toNat (by omega)
  refine ⟨_, hm, rfl, ?_⟩
  rw [← Array.getElem?_toList] at hm
  exact List.mem_of_getElem? hm
section
variable {P : Program} {w : World} {K : PySem.W.Frag} {mg : Str → Option Value} {base : Heap}
def spLPool (K : PySem.W.Frag) : Sp := fun vs H Q _ => ∃ (sa : Addr) (xs : List Int), vs = [.ref sa, .int 0, .int 5] ∧ SqL K H sa (xs.map V.int) ∧ xs.length ≤ 63 ∧
  ∀ H' r ns, Same H H' → H' r = some (.lst (ns.map V.str)) → PoolOk ns → Q (.ref r) H'
theorem sc_law_pool : FnScope ["_law_script", "_law_k", "_law_size", "_law_drawn", "_law_length", "_law_step", "_law_pool_here", "_law_j", "_law_number", "_law_word", "_law_place"] ["_law_script", "_law_k", "_law_size"] (defScope s_law_pool) := ⟨rfl, rfl, rfl, by decide +kernel, rfl, by decide +kernel, by decide +kernel⟩
theorem ok_law_pool (T : Txt w K mg) (C_law_draws : C8.Cal P w K mg base 1 "_law_draws" (spLDraws K) []) : C8.Cal P w K mg base 2 "_law_pool" (spLPool K) [] := by
  refine T.f_law_pool.cal sc_law_pool (fun vs H Q E h => by obtain ⟨_, _, rfl, _⟩ := h; rfl) fun f cdv A outer s H vs Q E hr h => ?_
  obtain ⟨sa, xs, rfl, hx, lx, q⟩ := h
  refine ⟨_, (pss_cons (ps_set (i := 3) sc_law_pool.nd rfl (Or.inl rfl) (C8.pe_c C_law_draws hr (by omega) rfl (pa_cons (pv 0) (pa_cons (pv 1) (pa_cons (pe_lst (pa_cons pe_int (pa_cons (pe_op op_pow pe_int pe_int) (pa_cons pe_int pa_nil)))) pa_nil))))) 
    (pss_cons (ps_set (i := 4) sc_law_pool.nd rfl (Or.inl rfl) (pe_op op_add pe_int (pe_ix (kix_list K rfl) (pv 3) pe_int (fun _ _ => rfl)))) 
    (pss_cons (ps_set (i := 5) sc_law_pool.nd rfl (Or.inl rfl) (pe_op op_add pe_int (pe_op op_mul (pe_ix (kix_list K rfl) (pv 3) pe_int (fun _ _ => rfl)) (pe_callTy call_int1 (by rfl) T.z_int (by decide +kernel) (pa_cons (pe_cmpR op_gt (pv 4) pe_int (nomark _)) pa_nil))))) 
    (pss_cons (ps_set (i := 6) sc_law_pool.nd rfl (Or.inl rfl) (pe_lst pa_nil)) 
    (pss_cons (ps_for PassesOwn.never rfl (pi_range1 rfl T.z_range (pa_cons (pv 2) pa_nil)) (pg_name (i := 7) sc_law_pool.nd rfl (Or.inl rfl)) 
      (pss_cons (ps_set (i := 8) sc_law_pool.nd rfl (Or.inl rfl) (pe_op op_add (pe_ix (kix_list K rfl) (pv 3) pe_int (fun _ _ => rfl)) (pe_op op_mul (pe_op op_fdiv (pv 7) pe_int) (pv 5)))) 
      (pss_cons (ps_set (i := 9) sc_law_pool.nd rfl (Or.inl rfl) pe_str) 
      (pss_cons (ps_for PassesOwn.never rfl (pi_range1 rfl T.z_range (pa_cons (pv 4) pa_nil)) (pg_name (i := 10) sc_law_pool.nd rfl (Or.inl rfl)) 
        (pss_cons (ps_set (i := 9) sc_law_pool.nd rfl (Or.inl rfl) (pe_op op_add_str (pv 9) (pe_item_str pe_str (pe_op op_mod (pe_callTy call_int1 (by rfl) T.z_int (by decide +kernel) (pa_cons (pv 8) pa_nil)) pe_int) (fun _ _ => rfl)))) 
        (pss_one (ps_set (i := 8) sc_law_pool.nd rfl (Or.inl rfl) (pe_op op_fdiv (pv 8) pe_int))))) 
      (pss_cons (ps_if (pt_cmpR (kin_seq K rfl) (pv 9) (pe_lst (pa_cons pe_str (pa_cons pe_str (pa_cons pe_str (pa_cons pe_str (pa_cons pe_str (pa_cons pe_str (pa_cons pe_str (pa_cons pe_str pa_nil))))))))) (by rfl)) (pss_one (ps_set (i := 9) sc_law_pool.nd rfl (Or.inl rfl) (pe_op op_add_str (pv 9) pe_str))) pss_nil) 
      (pss_one (ps_expr (pe_bm PySem.F.plainAttrs_list PySem.F.slot_list_append PySem.F.type_list_append mt_append (pv 6) (pa_cons (pe_op op_add_str (pv 9) (pe_op op_mulBit pe_str (pe_op op_mod (pe_callTy call_int1 (by rfl) T.z_int (by decide +kernel) (pa_cons (pv 7) pa_nil)) pe_int))) pa_nil))))))))) 
    (pss_one (ps_ret (pv 6)))))))), ?_⟩
  refine ⟨_, rfl, _, rfl, _, _, rfl, rfl, ⟨by decide, by decide, by decide⟩, le_line (by show 3 ≤ 1000; decide), fun b1 hb1 => ?_⟩
  have s1 := same_new hb1 (.lst [V.int 7, V.int (26 ^ (8 : Int).toNat), V.int 9])
  refine ⟨sa, b1, xs, [7, 26 ^ (8 : Int).toNat, 9], 0, rfl, s1.seq hx, lx, by decide, upd_same, by decide, by decide, fun H2 r2 ds s2 hr2 dr => ?_⟩
  have s02 := s1.trans s2
  obtain ⟨d0, d1, d2, rfl⟩ : ∃ a b c, ds = [a, b, c] := by
    match ds, dr.1 with
    | [a, b, c], _ => exact ⟨a, b, c, rfl⟩
  have g0 := dr.2 0 d0 7 rfl rfl
  have g1 := dr.2 1 d1 _ rfl rfl
  have g2 := dr.2 2 d2 9 rfl rfl
  clear dr hb1 s1 s2
  refine ⟨_, rfl, _, _, _, _, rfl, rfl, SqL.of hr2, at0, _, _, rfl, rfl, ?_⟩
  have step : ∀ (Z : Int → Prop), (∀ st : Int, 1 ≤ st → st ≤ 9 → Z st) → Z (1 + d2 * (if decide (1 + d0 > 1) = true then 1 else 0)) := fun Z h => by
    by_cases c : 1 + d0 > 1
    · rw [if_pos (decide_eq_true c)]
      exact h _ (by omega) (by omega)
    · rw [if_neg (by rw [decide_eq_false c]; exact Bool.false_ne_true)]
      exact h _ (by omega) (by omega)
  refine ⟨_, rfl, _, _, _, _, rfl, rfl, SqL.of hr2, at2, _, rfl, _, _, rfl, rfl, .inr ⟨_, rfl, _, _, rfl, rfl, .inl ⟨by omega, by omega⟩, _, _, rfl, rfl, ?_⟩⟩
  obtain ⟨st, hst⟩ : ∃ st, 1 + d2 * (if decide (1 + d0 > 1) = true then 1 else 0) = st := ⟨_, rfl⟩
  obtain ⟨st1, st9⟩ : 1 ≤ st ∧ st ≤ 9 := by rw [← hst]; exact step (fun z => 1 ≤ z ∧ z ≤ 9) fun z a b => ⟨a, b⟩
  refine ⟨Nat.zero_le _, fun D hD => ⟨_, rfl, 5, rfl, by decide, by decide, ?_⟩⟩
  have s3 := same_new hD (.lst [])
  have hD3 : upd H2 D (.lst []) D = some (.lst []) := upd_same
  generalize upd H2 D (.lst []) = H3 at s3 hD3
  have hr3 := s3 _ _ hr2
  obtain ⟨L, eL⟩ : ∃ L : Nat, 1 + d0 = (L : Int) := ⟨(1 + d0).toNat, by omega⟩
  have L1 : 1 ≤ L := by omega
  have L7 : L ≤ 7 := by omega
  have nrD : r2 ≠ D := fun z => by rw [z, hD] at hr2; cases hr2
  have fD : H D = none := by
    cases z : H D with
    | none => rfl
    | some o => rw [s02 _ _ z] at hD; cases hD
  show ∃ W : Nat → Nat → L2.St → Hp → Prop, _
  refine for_range (lo := 0) (n := 5) (fun i σ G => (∃ (c7 c8 c9 c10 : Option V), σ = [some (.ref sa), some (.int 0), some (.int 5), some (.ref r2), some (.int (1 + d0)), some (.int st), some (.ref D), c7, c8, c9, c10]) ∧ Kp [D] H3 G ∧ ∃ ns : List Str, G D = some (.lst (ns.map V.str)) ∧ ns.length = i ∧ ∀ (j : Nat) u, ns[j]? = some u → PoW L (cdOf (d1 + ((j / 2 : Nat) : Int) * st)) j u)
    ⟨⟨none, none, none, none, by subst hst; rfl⟩, Kp.refl _ _, [], hD3, rfl, fun j u h => by simp at h⟩ (fun i σ G hi h => ?_) fun σ G h => ?_
  · obtain ⟨⟨c7, c8, c9, c10, rfl⟩, kG, ns, hns, lns, hall⟩ := h
    have z0 : (0 : Int) + (i : Nat) = (i : Int) := by omega
    rw [z0]
    have hrG := kG _ _ hr3 (by rw [List.mem_singleton]; exact nrD)
    refine ⟨_, rfl, _, _, _, _, rfl, rfl, SqL.of hrG, at1, _, rfl, _, _, rfl, rfl, ⟨by decide, by decide⟩, _, rfl, _, _, rfl, rfl, .inr ⟨by omega, by omega⟩, _, _, rfl, rfl, ?_⟩
    have en : (i : Int) / 2 = ((i / 2 : Nat) : Int) := by omega
    rw [en]
    obtain ⟨N, hN⟩ : ∃ N, d1 + ((i / 2 : Nat) : Int) * st = N := ⟨_, rfl⟩
    refine ⟨_, rfl, 1 + d0, rfl, by omega, by omega, ?_⟩
    rw [show (1 + d0).toNat = L by omega]
    refine for_range (lo := 0) (n := L) (fun m σ G2 => (∃ (n10 : Option V) (nn : Int) (x : Str), σ = [some (.ref sa), some (.int 0), some (.int 5), some (.ref r2), some (.int (1 + d0)), some (.int st), some (.ref D), some (.int (i : Nat)), some (.int nn), some (.str x), n10] ∧ x.length = m ∧ Lets x ∧ (m = 0 → nn = N) ∧ (0 < m → x.cps.toList[0]? = some (cdOf N))) ∧ G2 = G)
      ⟨⟨c10, N, "", by subst hN; rfl, by decide, lets_e, fun _ => rfl, fun z => by omega⟩, rfl⟩ (fun m σ G2 hm h => ?_) fun σ G2 h => ?_
    · obtain ⟨⟨n10, nn, x, rfl, lx, ox, z1, z2⟩, rfl⟩ := h
      obtain ⟨c, hc, ec, mc⟩ := letter_at nn
      have lc : (⟨#[c]⟩ : Str).length = 1 := rfl
      have oc : Lets (⟨#[c]⟩ : Str) := fun y hy => by
        have : y = c := by simpa using hy
        rw [this]; exact mc
      have l26 : (("abcdefghijklmnopqrstuvwxyz" : Str).length : Int) = 26 := by decide
      have h0 := Int.emod_nonneg nn (show (26 : Int) ≠ 0 by decide)
      have h26 := Int.emod_lt_of_pos nn (show (0 : Int) < 26 by decide)
      refine ⟨_, rfl, _, rfl, .inl ⟨_, rfl, _, _, rfl, rfl, (by show (0 : Int) < 26; decide), _, _, c, rfl, rfl, h0, Int.lt_trans h26 (by decide), by rw [l26]; exact h26, hc, _, _, rfl, rfl, le_line (by rw [lx, lc]; omega), ?_⟩⟩
      refine ⟨_, rfl, _, _, rfl, rfl, ⟨by decide, by decide⟩, ⟨_, _, x ++ ⟨#[c]⟩, rfl, by rw [app_len, lx, lc], ox.app oc, fun z => by omega, fun _ => ?_⟩, rfl⟩
      by_cases m0 : m = 0
      · have e0 : x.cps.toList = [] := by
          rw [len_toList] at lx
          exact List.length_eq_zero_iff.mp (by omega)
        rw [app_toList, e0, ec, z1 m0]
        rfl
      · exact hd_app (z2 (by omega))
    · obtain ⟨⟨n10, nn, x, rfl, lx, ox, z1, z2⟩, rfl⟩ := h
      have pw := pw_of (i := i) L1 L7 ⟨lx, z2 (by omega), ox⟩
      refine ⟨_, rfl, le_line (by show 8 ≤ 1000; decide), fun p8 hp8 => ?_⟩
      have hp81 : upd G2 p8 (.lst [V.str "if", V.str "fork", V.str "each", V.str "fold", V.str "start", V.str "await", V.str "max", V.str "min"]) p8 = some (.lst [V.str "if", V.str "fork", V.str "each", V.str "fold", V.str "start", V.str "await", V.str "max", V.str "min"]) := upd_same
      have s8 := same_new hp8 (.lst [V.str "if", V.str "fork", V.str "each", V.str "fold", V.str "start", V.str "await", V.str "max", V.str "min"])
      refine ⟨_, _, rfl, .inl (SqL.of hp81), rfl, rfl, _, rfl, ?_⟩
      have hns8 := s8 _ _ hns
      have k8 : Kp [D] H3 (upd G2 p8 (.lst [V.str "if", V.str "fork", V.str "each", V.str "fold", V.str "start", V.str "await", V.str "max", V.str "min"])) := kG.trans (Kp.same s8)
      show if inV (.str x) (nameL.map V.str) = true then _ else _
      rw [inV_strs]
      generalize upd G2 p8 (.lst [V.str "if", V.str "fork", V.str "each", V.str "fold", V.str "start", V.str "await", V.str "max", V.str "min"]) = G3 at hns8 k8
      have h20 := Int.emod_nonneg (i : Int) (show (2 : Int) ≠ 0 by decide)
      have ebit : (if (i : Int) % 2 = 0 then Str.empty else ("z" : Str)) = (if i % 2 = 0 then ("" : Str) else ("z" : Str)) := by
        by_cases e : i % 2 = 0
        · rw [if_pos e, if_pos (by omega)]; rfl
        · rw [if_neg e, if_neg (by omega)]
      have lbit : (if (i : Int) % 2 = 0 then Str.empty else ("z" : Str)).length ≤ 1 := by
        split <;> decide
      have put : ∀ (y : Str) (σ' : List (Option V)), y = (if x ∈ nameL then x ++ "x" else x) → (∃ (c7 c8 c9 c10 : Option V), σ' = [some (.ref sa), some (.int 0), some (.int 5), some (.ref r2), some (.int (1 + d0)), some (.int st), some (.ref D), c7, c8, c9, c10]) →
          ((∃ (c7 c8 c9 c10 : Option V), σ' = [some (.ref sa), some (.int 0), some (.int 5), some (.ref r2), some (.int (1 + d0)), some (.int st), some (.ref D), c7, c8, c9, c10]) ∧ Kp [D] H3 (upd G3 D (.lst (ns.map V.str ++ [V.str (y ++ (if (i : Int) % 2 = 0 then Str.empty else ("z" : Str)))]))) ∧
            ∃ ns' : List Str, upd G3 D (.lst (ns.map V.str ++ [V.str (y ++ (if (i : Int) % 2 = 0 then Str.empty else ("z" : Str)))])) D = some (.lst (ns'.map V.str)) ∧ ns'.length = i + 1 ∧ ∀ (j : Nat) u, ns'[j]? = some u → PoW L (cdOf (d1 + ((j / 2 : Nat) : Int) * st)) j u) := fun y σ' ey hσ => by
        refine ⟨hσ, k8.trans (Kp.upd (by simp)), ns ++ [y ++ (if (i : Int) % 2 = 0 then Str.empty else ("z" : Str))], by rw [upd_same, List.map_append]; rfl, by rw [List.length_append, lns]; rfl, fun j u g1 => ?_⟩
        by_cases cj : j < i
        · rw [List.getElem?_append_left (by omega)] at g1
          exact hall j u g1
        · have ej : j = i := by
            have := (List.getElem?_eq_some_iff.mp g1).1
            rw [List.length_append, lns] at this
            simp at this
            omega
          subst ej
          rw [List.getElem?_append_right (by omega), lns, Nat.sub_self] at g1
          cases g1
          rw [ebit, ey, hN]
          exact pw
      have lz : (ns.map V.str).length < sizeLine := lt_line (by rw [List.length_map]; omega)
      have zz : ("z" : Str).length ≤ 1000 := by decide
      have l1 : ("x" : Str).length = 1 := by decide
      have bit : (i : Int) % 2 = 0 ∨ (i : Int) % 2 = 1 := by omega
      by_cases c : x ∈ nameL
      · refine iteD c ⟨_, rfl, _, _, rfl, rfl, le_line (by rw [l1]; omega), _, rfl, .inl ⟨rfl, _, SqL.of hns8⟩, _, rfl, _, rfl, .inl ⟨_, rfl, _, _, rfl, rfl, (by show (0 : Int) < 2; decide), _, _, rfl, rfl, bit, zz, _, _, rfl, rfl, le_line (by rw [app_len, l1]; omega), D, _, _, rfl, rfl, hns8, lz, put _ _ (by rw [if_pos c]) ⟨_, _, _, _, rfl⟩⟩⟩
      · refine iteDF c ⟨_, rfl, .inl ⟨rfl, _, SqL.of hns8⟩, _, rfl, _, rfl, .inl ⟨_, rfl, _, _, rfl, rfl, (by show (0 : Int) < 2; decide), _, _, rfl, rfl, bit, zz, _, _, rfl, rfl, le_line (by omega), D, _, _, rfl, rfl, hns8, lz, put _ _ (by rw [if_neg c]) ⟨_, _, _, _, rfl⟩⟩⟩
  · obtain ⟨⟨c7, c8, c9, c10, rfl⟩, kG, ns, hns, lns, hall⟩ := h
    refine ⟨_, rfl, q G D ns (fun b o e => kG _ _ (s3 _ _ (s02 _ _ e)) ?_) hns (pool_ok st1 st9 lns hall)⟩
    rw [List.mem_singleton]
    intro z
    rw [z, fD] at e
    cases e
end
end K11
set_option Elab.async false
set_option linter.all false
set_option maxRecDepth 100000
set_option maxHeartbeats 4000000
namespace K11
open PySem PySem.Spec PyProof.Rows L2
theorem at_modM {α : Type} (f : α → V) (xs : List α) (x : Int) (h : 0 < xs.length) : ∃ y, y ∈ xs ∧ atI (xs.map f) (x % ((xs.map f).length : Int)) = some (f y) := by
  have el : (xs.map f).length = xs.length := List.length_map _
  rw [el]
  have h0 := Int.emod_nonneg x (show (xs.length : Int) ≠ 0 by omega)
  have h1 := Int.emod_lt_of_pos x (show (0 : Int) < (xs.length : Int) by omega)
  obtain ⟨j, hj⟩ : ∃ j : Nat, x % (xs.length : Int) = (j : Int) := ⟨(x % (xs.length : Int)).toNat, by omega⟩
  have hjl : j < xs.length := by omega
  refine ⟨xs[j], List.getElem_mem hjl, ?_⟩
  rw [hj]
  exact atI_nat (by rw [List.getElem?_map, List.getElem?_eq_getElem hjl]; rfl)
theorem at_modN {α : Type} (f : α → V) (xs : List α) (x m : Int) (e : (xs.length : Int) = m) (h : 0 < xs.length) : ∃ y, y ∈ xs ∧ atI (xs.map f) (x % m) = some (f y) := by
  have := at_modM f xs x h
  rw [List.length_map, e] at this
  exact this
/-- the draws in a row -/
structure Strm (H : Hp) (ss : List Int) (a : Addr) : Prop where
  at_ : H a = some (.lst (ss.map V.int))
  pos : 0 < ss.length
  ok : ∀ n ∈ ss, 0 ≤ n ∧ n < 2520
theorem Strm.same {H H' : Hp} {ss : List Int} {a : Addr} (h : Strm H ss a) (s : Same H H') : Strm H' ss a := ⟨s _ _ h.at_, h.pos, h.ok⟩
/-- names at an address -/
structure Nms (H : Hp) (ns : List Str) (a : Addr) : Prop where
  at_ : H a = some (.lst (ns.map V.str))
  ok : ∀ x ∈ ns, NameOk x
theorem Nms.same {H H' : Hp} {ns : List Str} {a : Addr} (h : Nms H ns a) (s : Same H H') : Nms H' ns a := ⟨s _ _ h.at_, h.ok⟩
section
variable {P : Program} {w : World} {K : PySem.W.Frag} {mg : Str → Option Value} {base : Heap}
def spLStream (K : PySem.W.Frag) : Sp := fun vs H Q _ => ∃ (sa : Addr) (xs : List Int) (k : Nat), vs = [.ref sa, .int (k : Int), .int 8] ∧ SqL K H sa (xs.map V.int) ∧ xs.length ≤ 63 ∧ k ≤ 100 ∧ ∀ H' r ss, Same H H' → Strm H' ss r → Q (.ref r) H'
theorem sc_law_stream : FnScope ["_law_script", "_law_k", "_law_cells", "_law_stream_here", "_law_j"] ["_law_script", "_law_k", "_law_cells"] (defScope s_law_stream) := ⟨rfl, rfl, rfl, by decide +kernel, rfl, by decide +kernel, by decide +kernel⟩
theorem ok_law_stream (T : Txt w K mg) (C_law_draws : C8.Cal P w K mg base 1 "_law_draws" (spLDraws K) []) : C8.Cal P w K mg base 2 "_law_stream" (spLStream K) [] := by
  refine T.f_law_stream.cal sc_law_stream (fun vs H Q E h => by obtain ⟨_, _, _, rfl, _⟩ := h; rfl) fun f cdv A outer s H vs Q E hr h => ?_
  obtain ⟨sa, xs, k, rfl, hx, lx, lk, q⟩ := h
  refine ⟨_, (pss_cons (ps_set (i := 3) sc_law_stream.nd rfl (Or.inl rfl) (pe_lst pa_nil)) 
    (pss_cons (ps_for PassesOwn.never rfl (pi_range1 rfl T.z_range (pa_cons (pv 2) pa_nil)) (pg_name (i := 4) sc_law_stream.nd rfl (Or.inl rfl)) (pss_one (ps_set (i := 3) sc_law_stream.nd rfl (Or.inl rfl) (pe_op op_cat (pv 3) (C8.pe_c C_law_draws hr (by omega) rfl (pa_cons (pv 0) (pa_cons (pe_op op_add (pv 1) (pv 4)) (pa_cons (pe_lst (pa_cons pe_int (pa_cons pe_int (pa_cons pe_int (pa_cons pe_int (pa_cons pe_int (pa_cons pe_int pa_nil))))))) pa_nil)))))))) 
    (pss_one (ps_ret (pv 3))))), ?_⟩
  refine ⟨Nat.zero_le _, fun D hD => ⟨_, rfl, 8, rfl, by decide, by decide, ?_⟩⟩
  have s1 := same_new hD (.lst [])
  show ∃ W : Nat → Nat → L2.St → Hp → Prop, _
  refine for_range (lo := 0) (n := 8) (fun i σ G => (∃ (r : Addr) (c4 : Option V) (ss : List Int), σ = [some (.ref sa), some (.int (k : Int)), some (.int 8), some (.ref r), c4] ∧ G r = some (.lst (ss.map V.int)) ∧ ss.length = 6 * i ∧ ∀ n ∈ ss, 0 ≤ n ∧ n < 2520) ∧ Same H G)
    ⟨⟨D, none, [], rfl, upd_same, rfl, fun n h => by cases h⟩, s1⟩ (fun i σ G hi h => ?_) fun σ G h => ?_
  · obtain ⟨⟨r, c4, ss, rfl, hs, ls, oks⟩, sG⟩ := h
    refine ⟨_, rfl, _, rfl, _, rfl, _, rfl, _, _, rfl, rfl, le_line (by show 6 ≤ 1000; decide), fun b1 hb1 => ?_⟩
    have s2 := same_new hb1 (.lst [V.int 2520, V.int 2520, V.int 2520, V.int 2520, V.int 2520, V.int 2520])
    have s02 := sG.trans s2
    refine ⟨sa, b1, xs, [2520, 2520, 2520, 2520, 2520, 2520], k + i, ?_, s02.seq hx, lx, by omega, upd_same, by decide, by decide, fun H3 r3 ds s3 hr3 dr => ?_⟩
    · have : (k : Int) + (0 + (i : Nat)) = ((k + i : Nat) : Int) := by omega
      exact congrArg (fun z => [V.ref sa, V.int z, V.ref b1]) this
    · have hs3 := s3 _ _ (s2 _ _ hs)
      have l1 : (ss.map V.int).length = ss.length := List.length_map _
      have l2 : (ds.map V.int).length = ds.length := List.length_map _
      have l6 : ds.length = 6 := dr.1
      refine ⟨r, r3, _, _, rfl, rfl, hs3, hr3, le_line (by omega), fun p hp => ?_⟩
      refine ⟨⟨p, _, ss ++ ds, rfl, by rw [upd_same, List.map_append], by rw [List.length_append, ls, l6]; omega, fun n hn => ?_⟩, s02.trans (s3.trans (same_new hp _))⟩
      rcases List.mem_append.mp hn with z | z
      · exact oks n z
      · obtain ⟨j, hj⟩ := List.mem_iff_getElem?.mp z
        have hj6 : j < 6 := by have := (List.getElem?_eq_some_iff.mp hj).1; omega
        have hb : ([2520, 2520, 2520, 2520, 2520, 2520] : List Int)[j]? = some 2520 := by
          have : ∀ j < 6, ([2520, 2520, 2520, 2520, 2520, 2520] : List Int)[j]? = some 2520 := by decide
          exact this j hj6
        exact dr.2 j n 2520 hj hb
  · obtain ⟨⟨r, c4, ss, rfl, hs, ls, oks⟩, sG⟩ := h
    exact ⟨_, rfl, q G r ss sG ⟨hs, by omega, oks⟩⟩
def spLTurns : Sp := fun vs H Q _ => ∃ (v : V) (e : Exp) (L : List Str), vs = [v] ∧ DE H e v ∧ WFE L e ∧ ∀ m : Int, 0 ≤ m → m ≤ 6 → Q (.int m) H
theorem sc_law_turns : FnScope ["_law_expression_here"] ["_law_expression_here"] (defScope s_law_turns) := ⟨rfl, rfl, rfl, by decide +kernel, rfl, by decide +kernel, by decide +kernel⟩
theorem ok_law_turns (T : Txt w K mg) : C8.Cal P w K mg base 1 "_law_turns" spLTurns [] := by
  refine T.f_law_turns.cal sc_law_turns (fun vs H Q E h => by obtain ⟨_, _, _, rfl, _⟩ := h; rfl) fun f cdv A outer s H vs Q E hr h => ?_
  obtain ⟨v, e, L, rfl, de, wf, q⟩ := h
  refine ⟨_, (pss_cons (ps_if (pt_cmpR op_eq (pe_ix (kix_tup K rfl) (pv 0) pe_int (fun _ _ => rfl)) pe_str (nomark _)) (pss_one (ps_ret (pe_op op_mod (pe_callTy call_int1 (by rfl) T.z_int (by decide +kernel) (pa_cons (pe_ix (kix_tup K rfl) (pv 0) pe_int (fun _ _ => rfl)) pa_nil)) pe_int))) pss_nil) 
    (pss_one (ps_ret pe_int))), ?_⟩
  cases e with
  | num n =>
    obtain ⟨a, rfl, ha⟩ := de
    have h0 := Int.emod_nonneg n (show (7 : Int) ≠ 0 by decide)
    have h1 := Int.emod_lt_of_pos n (show (0 : Int) < 7 by decide)
    exact ⟨_, rfl, _, _, _, _, rfl, rfl, SqT.of ha, at0, rfl, _, rfl, iteD (by decide) ⟨_, rfl, _, _, _, _, rfl, rfl, SqT.of ha, at1, .inl ⟨_, rfl, _, _, rfl, rfl, (by show (0 : Int) < 7; decide), q _ h0 (by omega)⟩⟩⟩
  | word x =>
    obtain ⟨a, rfl, ha⟩ := de
    exact ⟨_, rfl, _, _, _, _, rfl, rfl, SqT.of ha, at0, rfl, _, rfl, iteDF (by decide) (q 6 (by decide) (by decide))⟩
  | loc x =>
    obtain ⟨a, rfl, ha⟩ := de
    exact ⟨_, rfl, _, _, _, _, rfl, rfl, SqT.of ha, at0, rfl, _, rfl, iteDF (by decide) (q 6 (by decide) (by decide))⟩
  | op o l r =>
    obtain ⟨a, vl, vr, rfl, ha, _⟩ := de
    exact ⟨_, rfl, _, _, _, _, rfl, rfl, SqT.of ha, at0, rfl, _, rfl, iteDF (by decide) (q 6 (by decide) (by decide))⟩
def spLExpr (n : Nat) : Sp := fun vs H Q _ => ∃ (sa pa la : Addr) (ss : List Int) (ns L : List Str) (at_ : Int) (deep : Nat), vs = [.ref sa, .int at_, .ref pa, .ref la, .int (deep : Int)] ∧ Strm H ss sa ∧ Nms H ns pa ∧ 0 < ns.length ∧ Nms H L la ∧ deep < n ∧
  ∀ H' r v e (at' : Int), Same H H' → H' r = some (.tup [v, .int at']) → DE H' e v → WFE L e → e.dep ≤ deep → Q (.ref r) H'
theorem sc_law_expression : FnScope ["_law_stream_here", "_law_at", "_law_pool_here", "_law_locals_here", "_law_deep", "_law_n", "_law_rest", "_law_left", "_law_right", "_law_value_here"] ["_law_stream_here", "_law_at", "_law_pool_here", "_law_locals_here", "_law_deep"] (defScope s_law_expression) := ⟨rfl, rfl, rfl, by decide +kernel, rfl, by decide +kernel, by decide +kernel⟩
theorem law_expression_1 {k n : Nat} (T : Txt w K mg) (C_law_expression : C8.Cal P w K mg base k "_law_expression" (spLExpr n) []) : C8.Cal P w K mg base (k + 1) "_law_expression" (spLExpr (n + 1)) [] := by
  refine T.f_law_expression.cal sc_law_expression (fun vs H Q E h => by obtain ⟨_, _, _, _, _, _, _, _, rfl, _⟩ := h; rfl) fun f cdv A outer s H vs Q E hr h => ?_
  obtain ⟨sa, pa, la, ss, ns, L, at_, deep, rfl, hs, hp, np, hl, hd, q⟩ := h
  refine ⟨_, (pss_cons (ps_set (i := 5) sc_law_expression.nd rfl (Or.inl rfl) (pe_ix (kix_list K rfl) (pv 0) (pe_op op_mod (pe_callTy call_int1 (by rfl) T.z_int (by decide +kernel) (pa_cons (pv 1) pa_nil)) (pe_callB (klen_seq K rfl) (by rfl) T.z_len (by decide +kernel) (pa_cons (pv 0) pa_nil))) (fun _ _ => rfl))) 
    (pss_cons (ps_set (i := 6) sc_law_expression.nd rfl (Or.inl rfl) (pe_op op_fdiv (pv 5) pe_int)) 
    (C8.pss_cut (ps_if (PW.pt (pw_and (pt_cmpR op_eq (pe_op op_mod (pe_callTy call_int1 (by rfl) T.z_int (by decide +kernel) (pa_cons (pv 5) pa_nil)) pe_int) pe_int (nomark _)) (pw_and1 (pt_cmpR op_gt (pv 4) pe_int (nomark _))))) 
      (pss_cons (ps_set (i := 7) sc_law_expression.nd rfl (Or.inl rfl) (C8.pe_c C_law_expression hr (by omega) rfl (pa_cons (pv 0) (pa_cons (pe_op op_add (pv 1) pe_int) (pa_cons (pv 2) (pa_cons (pv 3) (pa_cons (pe_op op_sub (pv 4) pe_int) pa_nil))))))) 
      (pss_cons (ps_set (i := 8) sc_law_expression.nd rfl (Or.inl rfl) (C8.pe_c C_law_expression hr (by omega) rfl (pa_cons (pv 0) (pa_cons (pe_ix (kix_tup K rfl) (pv 7) pe_int (fun _ _ => rfl)) (pa_cons (pv 2) (pa_cons (pv 3) (pa_cons (pe_op op_sub (pv 4) pe_int) pa_nil))))))) 
      (pss_one (ps_ret (pe_tup (pa_cons (pe_tup (pa_cons pe_str (pa_cons (pe_ix (kix_list K rfl) (pe_lst (pa_cons pe_str (pa_cons pe_str (pa_cons pe_str (pa_cons pe_str (pa_cons pe_str (pa_cons pe_str (pa_cons pe_str pa_nil)))))))) (pe_op op_mod (pe_callTy call_int1 (by rfl) T.z_int (by decide +kernel) (pa_cons (pv 6) pa_nil)) pe_int) (fun _ _ => rfl)) (pa_cons (pe_ix (kix_tup K rfl) (pv 7) pe_int (fun _ _ => rfl)) (pa_cons (pe_ix (kix_tup K rfl) (pv 8) pe_int (fun _ _ => rfl)) pa_nil))))) (pa_cons (pe_ix (kix_tup K rfl) (pv 8) pe_int (fun _ _ => rfl)) pa_nil))))))) pss_nil) 
    (C8.pss_cut (ps_if (PW.pt (pw_and (pt_cmpR op_gt (pe_op op_mod (pe_callTy call_int1 (by rfl) T.z_int (by decide +kernel) (pa_cons (pv 5) pa_nil)) pe_int) pe_int (nomark _)) (pw_and1 (pt_cmpR op_gt (pe_callB (klen_seq K rfl) (by rfl) T.z_len (by decide +kernel) (pa_cons (pv 3) pa_nil)) pe_int (nomark _))))) (pss_one (ps_ret (pe_tup (pa_cons (pe_tup (pa_cons pe_str (pa_cons (pe_ix (kix_list K rfl) (pv 3) (pe_op op_mod (pe_callTy call_int1 (by rfl) T.z_int (by decide +kernel) (pa_cons (pv 6) pa_nil)) (pe_callB (klen_seq K rfl) (by rfl) T.z_len (by decide +kernel) (pa_cons (pv 3) pa_nil))) (fun _ _ => rfl)) pa_nil))) (pa_cons (pe_op op_add (pv 1) pe_int) pa_nil))))) pss_nil) 
    (pss_cons (ps_if (pt_cmpR op_gt (pe_op op_mod (pe_callTy call_int1 (by rfl) T.z_int (by decide +kernel) (pa_cons (pv 5) pa_nil)) pe_int) pe_int (nomark _)) (pss_one (ps_ret (pe_tup (pa_cons (pe_tup (pa_cons pe_str (pa_cons (pe_ix (kix_list K rfl) (pv 2) (pe_op op_mod (pe_callTy call_int1 (by rfl) T.z_int (by decide +kernel) (pa_cons (pv 6) pa_nil)) (pe_callB (klen_seq K rfl) (by rfl) T.z_len (by decide +kernel) (pa_cons (pv 2) pa_nil))) (fun _ _ => rfl)) pa_nil))) (pa_cons (pe_op op_add (pv 1) pe_int) pa_nil))))) pss_nil) 
    (pss_cons (ps_set (i := 9) sc_law_expression.nd rfl (Or.inl rfl) (pe_ix (kix_list K rfl) (pe_lst (pa_cons pe_int (pa_cons pe_int (pa_cons pe_int (pa_cons pe_int (pa_cons pe_int (pa_cons pe_int (pa_cons pe_int (pa_cons (pv 6) pa_nil))))))))) (pe_op op_mod (pe_callTy call_int1 (by rfl) T.z_int (by decide +kernel) (pa_cons (pv 6) pa_nil)) pe_int) (fun _ _ => rfl))) 
    (pss_one (ps_ret (pe_tup (pa_cons (pe_tup (pa_cons pe_str (pa_cons (pv 9) pa_nil))) (pa_cons (pe_op op_add (pv 1) pe_int) pa_nil))))))))))), ?_⟩
  obtain ⟨m, hm, em⟩ := at_modM V.int ss at_ hs.pos
  obtain ⟨m0, m1⟩ := hs.ok m hm
  refine ⟨_, rfl, _, rfl, .inl ⟨_, rfl, _, rfl, _, _, rfl, .inl (SqL.of hs.at_), _, _, rfl, rfl, (by show (0 : Int) < _; rw [List.length_map]; have := hs.pos; omega), _, _, _, _, rfl, rfl, SqL.of hs.at_, em, ?_⟩⟩
  have h70 := Int.emod_nonneg m (show (7 : Int) ≠ 0 by decide)
  refine ⟨_, rfl, _, _, rfl, rfl, ⟨by decide, by decide⟩, fun σ H' => σ = [some (.ref sa), some (.int at_), some (.ref pa), some (.ref la), some (.int (deep : Int)), some (.int m), some (.int (m / 7)), none, none, none] ∧ H = H', ?_, ?_⟩
  · refine ⟨_, rfl, .inl ⟨_, rfl, _, _, rfl, rfl, (by show (0 : Int) < 7; decide), rfl, _, rfl, ?_⟩⟩
    by_cases c : m % 7 = 6
    · refine iteD (congrArg V.int c) ⟨_, rfl, _, _, rfl, rfl, _, rfl, ?_⟩
      by_cases c2 : 0 < deep
      · refine iteD (by omega) ?_
        have ed : (deep : Int) - 1 = ((deep - 1 : Nat) : Int) := by omega
        refine ⟨_, rfl, _, rfl, _, _, rfl, rfl, _, rfl, _, rfl, _, rfl, _, _, rfl, rfl, sa, pa, la, ss, ns, L, at_ + 1, deep - 1, congrArg (fun z => [V.ref sa, V.int (at_ + 1), V.ref pa, V.ref la, V.int z]) ed, hs, hp, np, hl, by omega, fun H1 r1 v1 e1 a1 s1 hr1 de1 wf1 dp1 => ?_⟩
        refine ⟨_, rfl, _, rfl, _, _, _, _, rfl, rfl, SqT.of hr1, at1, _, rfl, _, rfl, _, rfl, _, _, rfl, rfl, sa, pa, la, ss, ns, L, a1, deep - 1, congrArg (fun z => [V.ref sa, V.int a1, V.ref pa, V.ref la, V.int z]) ed, hs.same s1, hp.same s1, np, hl.same s1, by omega, fun H2 r2 v2 e2 a2 s2 hr2 de2 wf2 dp2 => ?_⟩
        refine ⟨le_line (by show 7 ≤ 1000; decide), fun p hp3 => ?_⟩
        have s3 := same_new hp3 (.lst [V.str "+", V.str "-", V.str "*", V.str "max", V.str "min", V.str "<", V.str "="])
        have hp31 : upd H2 p (.lst [V.str "+", V.str "-", V.str "*", V.str "max", V.str "min", V.str "<", V.str "="]) p = some (.lst [V.str "+", V.str "-", V.str "*", V.str "max", V.str "min", V.str "<", V.str "="]) := upd_same
        generalize upd H2 p (.lst [V.str "+", V.str "-", V.str "*", V.str "max", V.str "min", V.str "<", V.str "="]) = H3 at s3 hp31
        have hr13 := s3 _ _ (s2 _ _ hr1)
        have hr23 := s3 _ _ hr2
        obtain ⟨o, ho, eo⟩ := at_modN V.str opsL (m / 7) 7 (by decide) (by decide)
        refine ⟨_, rfl, .inl ⟨_, rfl, _, _, rfl, rfl, (by show (0 : Int) < 7; decide), _, _, _, _, rfl, rfl, SqL.of hp31, eo, _, rfl, _, _, _, _, rfl, rfl, SqT.of hr13, at0, _, rfl, _, _, _, _, rfl, rfl, SqT.of hr23, at0, le_line (by show 4 ≤ 1000; decide), fun t ht => ?_⟩⟩
        have s4 := same_new ht (.tup [V.str "do", V.str o, v1, v2])
        have hr24 := s4 _ _ hr23
        refine ⟨_, rfl, _, _, _, _, rfl, rfl, SqT.of hr24, at1, le_line (by show 2 ≤ 1000; decide), fun t2 ht2 => ?_⟩
        have s5 := same_new ht2 (.tup [V.ref t, V.int a2])
        have s25 := s3.trans (s4.trans s5)
        exact q _ t2 (.ref t) (.op o e1 e2) a2 (s1.trans (s2.trans s25)) upd_same ⟨t, v1, v2, rfl, s5 _ _ upd_same, de1.mono (Tk.same (s2.trans s25)), de2.mono (Tk.same s25)⟩ ⟨ho, wf1, wf2⟩ (by show max e1.dep e2.dep + 1 ≤ deep; omega)
      · exact iteDF (by omega) ⟨rfl, rfl⟩
    · exact iteDF (fun z => c (V.int.inj z)) (iteF ⟨rfl, rfl⟩)
  · rintro σ H' ⟨rfl, eH⟩
    subst eH
    refine ⟨fun σ H' => σ = [some (.ref sa), some (.int at_), some (.ref pa), some (.ref la), some (.int (deep : Int)), some (.int m), some (.int (m / 7)), none, none, none] ∧ H = H', ?_, ?_⟩
    · refine ⟨_, rfl, .inl ⟨_, rfl, _, _, rfl, rfl, (by show (0 : Int) < 7; decide), _, _, rfl, rfl, _, rfl, ?_⟩⟩
      by_cases c : m % 7 > 3
      · refine iteD c ⟨_, rfl, _, _, rfl, .inl (SqL.of hl.at_), _, _, rfl, rfl, _, rfl, ?_⟩
        by_cases c2 : 0 < L.length
        · obtain ⟨x, hx, ex⟩ := at_modM V.str L (m / 7) c2
          refine iteD (by rw [List.length_map]; omega) ⟨_, rfl, _, rfl, .inl ⟨_, rfl, _, rfl, _, _, rfl, .inl (SqL.of hl.at_), _, _, rfl, rfl, (by show (0 : Int) < _; rw [List.length_map]; omega), _, _, _, _, rfl, rfl, SqL.of hl.at_, ex, le_line (by show 2 ≤ 1000; decide), fun t ht => ?_⟩⟩
          have s1 := same_new ht (.tup [V.str "local", V.str x])
          refine ⟨_, rfl, _, _, rfl, rfl, le_line (by show 2 ≤ 1000; decide), fun t2 ht2 => ?_⟩
          have s2 := same_new ht2 (.tup [V.ref t, V.int (at_ + 1)])
          exact q _ t2 (.ref t) (.loc x) (at_ + 1) (s1.trans s2) upd_same ⟨t, rfl, s2 _ _ upd_same⟩ ⟨hl.ok x hx, hx⟩ (Nat.zero_le _)
        · exact iteDF (by rw [List.length_map]; omega) ⟨rfl, rfl⟩
      · exact iteDF c (iteF ⟨rfl, rfl⟩)
    · rintro σ H' ⟨rfl, eH⟩
      subst eH
      refine ⟨_, rfl, .inl ⟨_, rfl, _, _, rfl, rfl, (by show (0 : Int) < 7; decide), _, _, rfl, rfl, _, rfl, ?_⟩⟩
      by_cases c : m % 7 > 2
      · obtain ⟨x, hx, ex⟩ := at_modM V.str ns (m / 7) np
        refine iteD c ⟨_, rfl, _, rfl, .inl ⟨_, rfl, _, rfl, _, _, rfl, .inl (SqL.of hp.at_), _, _, rfl, rfl, (by show (0 : Int) < _; rw [List.length_map]; omega), _, _, _, _, rfl, rfl, SqL.of hp.at_, ex, le_line (by show 2 ≤ 1000; decide), fun t ht => ?_⟩⟩
        have s1 := same_new ht (.tup [V.str "word", V.str x])
        refine ⟨_, rfl, _, _, rfl, rfl, le_line (by show 2 ≤ 1000; decide), fun t2 ht2 => ?_⟩
        have s2 := same_new ht2 (.tup [V.ref t, V.int (at_ + 1)])
        exact q _ t2 (.ref t) (.word x) (at_ + 1) (s1.trans s2) upd_same ⟨t, rfl, s2 _ _ upd_same⟩ (hp.ok x hx) (Nat.zero_le _)
      · refine iteDF c ⟨_, rfl, le_line (by show 8 ≤ 1000; decide), fun p hp3 => ?_⟩
        have s0 := same_new hp3 (.lst [V.int 0, V.int 1, V.int 2, V.int 3, V.int 6, V.int 7, V.int 1000002, V.int (m / 7)])
        have hp31 : upd H p (.lst [V.int 0, V.int 1, V.int 2, V.int 3, V.int 6, V.int 7, V.int 1000002, V.int (m / 7)]) p = some (.lst [V.int 0, V.int 1, V.int 2, V.int 3, V.int 6, V.int 7, V.int 1000002, V.int (m / 7)]) := upd_same
        generalize upd H p (.lst [V.int 0, V.int 1, V.int 2, V.int 3, V.int 6, V.int 7, V.int 1000002, V.int (m / 7)]) = H0 at s0 hp31
        obtain ⟨z, hz, ez⟩ := at_modN V.int [0, 1, 2, 3, 6, 7, 1000002, m / 7] (m / 7) 8 (by show ((8 : Nat) : Int) = 8; rfl) (by show 0 < 8; decide)
        have z01 : 0 ≤ z ∧ z < 1000003 := by
          simp only [List.mem_cons, List.not_mem_nil, or_false] at hz
          omega
        refine ⟨_, rfl, .inl ⟨_, rfl, _, _, rfl, rfl, (by show (0 : Int) < 8; decide), _, _, _, _, rfl, rfl, SqL.of hp31, ez, _, rfl, le_line (by show 2 ≤ 1000; decide), fun t ht => ?_⟩⟩
        have s1 := same_new ht (.tup [V.str "number", V.int z])
        refine ⟨_, rfl, _, _, rfl, rfl, le_line (by show 2 ≤ 1000; decide), fun t2 ht2 => ?_⟩
        have s2 := same_new ht2 (.tup [V.ref t, V.int (at_ + 1)])
        exact q _ t2 (.ref t) (.num z) (at_ + 1) (s0.trans (s1.trans s2)) upd_same ⟨t, rfl, s2 _ _ upd_same⟩ z01 (Nat.zero_le _)
theorem ok_law_expression (T : Txt w K mg) : ∀ n : Nat, C8.Cal P w K mg base n "_law_expression" (spLExpr n) []
  | 0 => T.f_law_expression.none fun vs H Q E h => by
    obtain ⟨_, _, _, _, _, _, _, _, _, _, _, _, _, h, _⟩ := h
    omega
  | n + 1 => law_expression_1 T (ok_law_expression T n)
end
end K11
set_option Elab.async false
set_option linter.all false
set_option maxRecDepth 100000
set_option maxHeartbeats 4000000
namespace K11
open PySem PySem.Spec PyProof.Rows L2
theorem WFB.snoc : ∀ {ss : List Stm} {d : Nat} {L T : List Str} {s : Stm}, WFB d L T ss → WFS d L (tick T ss ss.length) s → WFB d L T (ss ++ [s])
  | [], _, _, T, s, _, h => ⟨h, trivial⟩
  | u :: r, _, _, T, s, ⟨h1, h2⟩, h => ⟨h1, WFB.snoc (ss := r) h2 h⟩
theorem tick_app : ∀ (T : List Str) (ss : List Stm) (s : Stm), tick T (ss ++ [s]) (ss ++ [s]).length = after (tick T ss ss.length) s
  | T, [], s => rfl
  | T, u :: r, s => tick_app (after T u) r s
theorem DSs.snoc {H : Hp} : ∀ {ss : List Stm} {vs : List V} {s : Stm} {v : V}, DSs H ss vs → DS H s v → DSs H (ss ++ [s]) (vs ++ [v])
  | [], _, s, v, h, hs => by rw [show _ = _ from h]; exact ⟨v, [], rfl, hs, rfl⟩
  | _ :: _, _, s, v, ⟨u, r, e, h, d⟩, hs => by subst e; exact ⟨u, _, rfl, h, DSs.snoc d hs⟩
theorem DBs.snoc {H : Hp} : ∀ {bs : List (List Stm)} {vs : List V} {b : List Stm} {a : Addr}, DBs H bs vs → DB H b a → DBs H (bs ++ [b]) (vs ++ [V.ref a])
  | [], _, b, a, h, ⟨xs, h1, h2⟩ => by rw [show _ = _ from h]; exact ⟨a, xs, [], rfl, h1, h2, rfl⟩
  | _ :: _, _, b, a, ⟨u, xs, r, e, h1, h2, d⟩, hb => by subst e; exact ⟨u, xs, _, rfl, h1, h2, DBs.snoc d hb⟩
theorem WFBs.snoc : ∀ {bs : List (List Stm)} {d : Nat} {L T : List Str} {b : List Stm}, WFBs d L T bs → b.length ≤ 6 → WFB d L T b → WFBs d L T (bs ++ [b])
  | [], _, _, _, _, _, h1, h2 => ⟨h1, h2, trivial⟩
  | _ :: _, _, _, _, _, ⟨a, b, c⟩, h1, h2 => ⟨a, b, WFBs.snoc c h1 h2⟩
theorem nms_snoc {L : List Str} {x : Str} (h : ∀ y ∈ L, NameOk y) (hx : NameOk x) : ∀ y ∈ L ++ [x], NameOk y := fun y hy => by
  rcases List.mem_append.mp hy with z | z
  · exact h y z
  · rw [List.mem_singleton.mp z]; exact hx
section
variable {P : Program} {w : World} {K : PySem.W.Frag} {mg : Str → Option Value} {base : Heap}
def spGStm (n : Nat) : Sp := fun vs H Q _ => ∃ (sa pa la ta : Addr) (ss : List Int) (ns L TT : List Str) (at_ : Int) (deep : Nat), vs = [.ref sa, .int at_, .ref pa, .ref la, .ref ta, .int (deep : Int)] ∧ Strm H ss sa ∧ Nms H ns pa ∧ 0 < ns.length ∧ Nms H L la ∧ Nms H TT ta ∧ deep < n ∧ L.length + deep ≤ 100 ∧ TT.length + 7 * deep ≤ 66 ∧ deep ≤ 3 ∧
  ∀ H' r v s (at' : Int), Same H H' → H' r = some (.tup [v, .int at']) → DS H' s v → WFS deep L TT s → Q (.ref r) H'
def spGBlk (n : Nat) : Sp := fun vs H Q _ => ∃ (sa pa la ta : Addr) (ss : List Int) (ns L TT : List Str) (at_ : Int) (deep : Nat), vs = [.ref sa, .int at_, .ref pa, .ref la, .ref ta, .int (deep : Int)] ∧ Strm H ss sa ∧ Nms H ns pa ∧ 0 < ns.length ∧ Nms H L la ∧ Nms H TT ta ∧ deep < n ∧ L.length + deep ≤ 100 ∧ TT.length + 7 * deep ≤ 60 ∧ deep ≤ 3 ∧
  ∀ H' r ba b (at' : Int), Same H H' → H' r = some (.tup [.ref ba, .int at']) → DB H' b ba → WFB deep L TT b → b.length ≤ 6 → Q (.ref r) H'
theorem sc_law_statement : FnScope ["_law_stream_here", "_law_at", "_law_pool_here", "_law_locals_here", "_law_tickets", "_law_deep", "_law_n", "_law_name", "_law_kind", "_law_block_here", "_law_blocks", "_law_turn", "_law_first", "_law_other", "_law_local", "_law_last"] ["_law_stream_here", "_law_at", "_law_pool_here", "_law_locals_here", "_law_tickets", "_law_deep"] (defScope s_law_statement) := ⟨rfl, rfl, rfl, by decide +kernel, rfl, by decide +kernel, by decide +kernel⟩
theorem law_gstm_1 {kl n : Nat} (T : Txt w K mg) (hkl : 3 ≤ kl) (C_law_expression : C8.Cal P w K mg base 3 "_law_expression" (spLExpr 3) []) (C_law_block : C8.Cal P w K mg base kl "_law_block" (spGBlk n) []) : C8.Cal P w K mg base (kl + 1) "_law_statement" (spGStm (n + 1)) [] := by
  refine T.f_law_statement.cal sc_law_statement (fun vs H Q E h => by obtain ⟨_, _, _, _, _, _, _, _, _, _, rfl, _⟩ := h; rfl) fun f cdv A outer s H vs Q E hr h => ?_
  obtain ⟨sa, pa, la, ta, ss, ns, L, TT, at_, deep, rfl, hs, hp, np, hl, ht, hd, ldl, ldt, d3, q⟩ := h
  refine ⟨_, (pss_cons (ps_set (i := 6) sc_law_statement.nd rfl (Or.inl rfl) (pe_ix (kix_list K rfl) (pv 0) (pe_op op_mod (pe_callTy call_int1 (by rfl) T.z_int (by decide +kernel) (pa_cons (pv 1) pa_nil)) (pe_callB (klen_seq K rfl) (by rfl) T.z_len (by decide +kernel) (pa_cons (pv 0) pa_nil))) (fun _ _ => rfl))) 
    (pss_cons (ps_set (i := 7) sc_law_statement.nd rfl (Or.inl rfl) (pe_ix (kix_list K rfl) (pv 2) (pe_op op_mod (pe_callTy call_int1 (by rfl) T.z_int (by decide +kernel) (pa_cons (pe_op op_fdiv (pv 6) pe_int) pa_nil)) (pe_callB (klen_seq K rfl) (by rfl) T.z_len (by decide +kernel) (pa_cons (pv 2) pa_nil))) (fun _ _ => rfl))) 
    (pss_cons (ps_set (i := 8) sc_law_statement.nd rfl (Or.inl rfl) (pe_op op_mod (pe_callTy call_int1 (by rfl) T.z_int (by decide +kernel) (pa_cons (pv 6) pa_nil)) pe_int)) 
    (C8.pss_cut (ps_if (PW.pt (pw_and (pt_cmpR op_eq (pv 8) pe_int (nomark _)) (pw_and1 (pt_cmpR op_gt (pe_callB (klen_seq K rfl) (by rfl) T.z_len (by decide +kernel) (pa_cons (pv 4) pa_nil)) pe_int (nomark _))))) (pss_one (ps_ret (pe_tup (pa_cons (pe_tup (pa_cons pe_str (pa_cons (pe_ix (kix_list K rfl) (pv 4) (pe_op op_mod (pe_callTy call_int1 (by rfl) T.z_int (by decide +kernel) (pa_cons (pe_op op_fdiv (pv 6) pe_int) pa_nil)) (pe_callB (klen_seq K rfl) (by rfl) T.z_len (by decide +kernel) (pa_cons (pv 4) pa_nil))) (fun _ _ => rfl)) pa_nil))) (pa_cons (pe_op op_add (pv 1) pe_int) pa_nil))))) pss_nil) 
    (C8.pss_cut (ps_if (PW.pt (pw_and (pt_cmpR op_eq (pv 8) pe_int (nomark _)) (pw_and1 (pt_cmpR op_gt (pv 5) pe_int (nomark _))))) 
      (pss_cons (ps_set (i := 9) sc_law_statement.nd rfl (Or.inl rfl) (C8.pe_c C_law_block hr (by omega) rfl (pa_cons (pv 0) (pa_cons (pe_op op_add (pv 1) pe_int) (pa_cons (pv 2) (pa_cons (pv 3) (pa_cons (pv 4) (pa_cons (pe_op op_sub (pv 5) pe_int) pa_nil)))))))) 
      (pss_one (ps_ret (pe_tup (pa_cons (pe_tup (pa_cons pe_str (pa_cons (pv 7) (pa_cons (pe_ix (kix_tup K rfl) (pv 9) pe_int (fun _ _ => rfl)) pa_nil)))) (pa_cons (pe_ix (kix_tup K rfl) (pv 9) pe_int (fun _ _ => rfl)) pa_nil)))))) pss_nil) 
    (C8.pss_cut (ps_if (PW.pt (pw_and (pt_cmpR op_eq (pv 8) pe_int (nomark _)) (pw_and1 (pt_cmpR op_gt (pv 5) pe_int (nomark _))))) 
      (pss_cons (ps_set (i := 10) sc_law_statement.nd rfl (Or.inl rfl) (pe_lst pa_nil)) 
      (pss_cons (ps_set (i := 1) sc_law_statement.nd rfl (Or.inl rfl) (pe_op op_add (pv 1) pe_int)) 
      (pss_cons (ps_for PassesOwn.never rfl (pi_range1 rfl T.z_range (pa_cons (pe_op op_add pe_int (pe_op op_mod (pe_callTy call_int1 (by rfl) T.z_int (by decide +kernel) (pa_cons (pe_op op_fdiv (pv 6) pe_int) pa_nil)) pe_int)) pa_nil)) (pg_name (i := 11) sc_law_statement.nd rfl (Or.inl rfl)) 
        (pss_cons (ps_set (i := 9) sc_law_statement.nd rfl (Or.inl rfl) (C8.pe_c C_law_block hr (by omega) rfl (pa_cons (pv 0) (pa_cons (pv 1) (pa_cons (pv 2) (pa_cons (pv 3) (pa_cons (pv 4) (pa_cons (pe_op op_sub (pv 5) pe_int) pa_nil)))))))) 
        (pss_cons (ps_expr (pe_bm PySem.F.plainAttrs_list PySem.F.slot_list_append PySem.F.type_list_append mt_append (pv 10) (pa_cons (pe_ix (kix_tup K rfl) (pv 9) pe_int (fun _ _ => rfl)) pa_nil))) 
        (pss_one (ps_set (i := 1) sc_law_statement.nd rfl (Or.inl rfl) (pe_ix (kix_tup K rfl) (pv 9) pe_int (fun _ _ => rfl))))))) 
      (pss_one (ps_ret (pe_tup (pa_cons (pe_tup (pa_cons pe_str (pa_cons (pe_callTy (ktuple_of K rfl) (by rfl) T.z_tuple (by decide +kernel) (pa_cons (pv 10) pa_nil)) pa_nil))) (pa_cons (pv 1) pa_nil)))))))) pss_nil) 
    (pss_cons (ps_set (i := 12) sc_law_statement.nd rfl (Or.inl rfl) (C8.pe_c C_law_expression hr (by omega) rfl (pa_cons (pv 0) (pa_cons (pe_op op_add (pv 1) pe_int) (pa_cons (pv 2) (pa_cons (pv 3) (pa_cons pe_int pa_nil))))))) 
    (C8.pss_cut (ps_if (PW.pt (pw_and (pt_cmpR op_eq (pv 8) pe_int (nomark _)) (pw_and1 (pt_cmpR op_gt (pv 5) pe_int (nomark _))))) 
      (pss_cons (ps_set (i := 9) sc_law_statement.nd rfl (Or.inl rfl) (C8.pe_c C_law_block hr (by omega) rfl (pa_cons (pv 0) (pa_cons (pe_ix (kix_tup K rfl) (pv 12) pe_int (fun _ _ => rfl)) (pa_cons (pv 2) (pa_cons (pv 3) (pa_cons (pv 4) (pa_cons (pe_op op_sub (pv 5) pe_int) pa_nil)))))))) 
      (pss_cons (ps_set (i := 13) sc_law_statement.nd rfl (Or.inl rfl) (C8.pe_c C_law_block hr (by omega) rfl (pa_cons (pv 0) (pa_cons (pe_ix (kix_tup K rfl) (pv 9) pe_int (fun _ _ => rfl)) (pa_cons (pv 2) (pa_cons (pv 3) (pa_cons (pv 4) (pa_cons (pe_op op_sub (pv 5) pe_int) pa_nil)))))))) 
      (pss_one (ps_ret (pe_tup (pa_cons (pe_tup (pa_cons pe_str (pa_cons (pe_ix (kix_tup K rfl) (pv 12) pe_int (fun _ _ => rfl)) (pa_cons (pe_ix (kix_tup K rfl) (pv 9) pe_int (fun _ _ => rfl)) (pa_cons (pe_ix (kix_tup K rfl) (pv 13) pe_int (fun _ _ => rfl)) pa_nil))))) (pa_cons (pe_ix (kix_tup K rfl) (pv 13) pe_int (fun _ _ => rfl)) pa_nil))))))) pss_nil) 
    (C8.pss_cut (ps_if (PW.pt (pw_and (pt_cmpR op_eq (pv 8) pe_int (nomark _)) (pw_and1 (pt_cmpR op_gt (pv 5) pe_int (nomark _))))) 
      (pss_cons (ps_set (i := 9) sc_law_statement.nd rfl (Or.inl rfl) (C8.pe_c C_law_block hr (by omega) rfl (pa_cons (pv 0) (pa_cons (pe_ix (kix_tup K rfl) (pv 12) pe_int (fun _ _ => rfl)) (pa_cons (pv 2) (pa_cons (pe_op op_cat (pv 3) (pe_lst (pa_cons (pv 7) pa_nil))) (pa_cons (pv 4) (pa_cons (pe_op op_sub (pv 5) pe_int) pa_nil)))))))) 
      (pss_one (ps_ret (pe_tup (pa_cons (pe_tup (pa_cons pe_str (pa_cons (pv 7) (pa_cons (pe_ix (kix_tup K rfl) (pv 12) pe_int (fun _ _ => rfl)) (pa_cons (pe_ix (kix_tup K rfl) (pv 9) pe_int (fun _ _ => rfl)) pa_nil))))) (pa_cons (pe_ix (kix_tup K rfl) (pv 9) pe_int (fun _ _ => rfl)) pa_nil)))))) pss_nil) 
    (pss_cons (ps_set (i := 14) sc_law_statement.nd rfl (Or.inl rfl) (pe_ix (kix_list K rfl) (pv 2) (pe_op op_mod (pe_callTy call_int1 (by rfl) T.z_int (by decide +kernel) (pa_cons (pe_op op_fdiv (pv 6) pe_int) pa_nil)) (pe_callB (klen_seq K rfl) (by rfl) T.z_len (by decide +kernel) (pa_cons (pv 2) pa_nil))) (fun _ _ => rfl))) 
    (C8.pss_cut (ps_if (pt_cmpR op_eq (pv 8) pe_int (nomark _)) 
      (pss_cons (ps_set (i := 15) sc_law_statement.nd rfl (Or.inl rfl) (C8.pe_c C_law_expression hr (by omega) rfl (pa_cons (pv 0) (pa_cons (pe_ix (kix_tup K rfl) (pv 12) pe_int (fun _ _ => rfl)) (pa_cons (pv 2) (pa_cons (pe_op op_cat (pv 3) (pe_lst (pa_cons (pv 14) pa_nil))) (pa_cons pe_int pa_nil))))))) 
      (pss_one (ps_ret (pe_tup (pa_cons (pe_tup (pa_cons pe_str (pa_cons (pv 7) (pa_cons (pe_ix (kix_list K rfl) (pe_lst (pa_cons pe_str (pa_cons pe_str (pa_cons pe_str (pa_cons pe_str (pa_cons pe_str pa_nil)))))) (pe_op op_mod (pe_callTy call_int1 (by rfl) T.z_int (by decide +kernel) (pa_cons (pe_op op_fdiv (pv 6) pe_int) pa_nil)) pe_int) (fun _ _ => rfl)) (pa_cons (pv 14) (pa_cons (pe_ix (kix_tup K rfl) (pv 12) pe_int (fun _ _ => rfl)) (pa_cons (pe_ix (kix_tup K rfl) (pv 15) pe_int (fun _ _ => rfl)) pa_nil))))))) (pa_cons (pe_ix (kix_tup K rfl) (pv 15) pe_int (fun _ _ => rfl)) pa_nil)))))) pss_nil) 
    (C8.pss_cut (ps_if (PW.pt (pw_or (pt_cmpR op_eq (pv 8) pe_int (nomark _)) (pw_or1 (pt_cmpR op_eq (pv 8) pe_int (nomark _))))) (pss_one (ps_ret (pe_tup (pa_cons (pe_tup (pa_cons pe_str (pa_cons (pv 7) (pa_cons (pe_ix (kix_list K rfl) (pe_lst (pa_cons pe_str (pa_cons pe_str (pa_cons pe_str (pa_cons pe_str pa_nil))))) (pe_op op_mod (pe_callTy call_int1 (by rfl) T.z_int (by decide +kernel) (pa_cons (pe_op op_fdiv (pv 6) pe_int) pa_nil)) pe_int) (fun _ _ => rfl)) (pa_cons (pe_ix (kix_tup K rfl) (pv 12) pe_int (fun _ _ => rfl)) pa_nil))))) (pa_cons (pe_ix (kix_tup K rfl) (pv 12) pe_int (fun _ _ => rfl)) pa_nil))))) pss_nil) 
    (pss_one (ps_ret (pe_tup (pa_cons (pe_tup (pa_cons pe_str (pa_cons (pv 7) (pa_cons (pe_ix (kix_tup K rfl) (pv 12) pe_int (fun _ _ => rfl)) pa_nil)))) (pa_cons (pe_ix (kix_tup K rfl) (pv 12) pe_int (fun _ _ => rfl)) pa_nil))))))))))))))))), ?_⟩
  obtain ⟨m, hm, em⟩ := at_modM V.int ss at_ hs.pos
  obtain ⟨m0, m1⟩ := hs.ok m hm
  obtain ⟨x, hx, ex⟩ := at_modM V.str ns (m / 12) np
  have okx := hp.ok x hx
  have okl := nms_snoc hl.ok okx
  refine ⟨_, rfl, _, rfl, .inl ⟨_, rfl, _, rfl, _, _, rfl, .inl (SqL.of hs.at_), _, _, rfl, rfl, (by show (0 : Int) < _; rw [List.length_map]; have := hs.pos; omega), _, _, _, _, rfl, rfl, SqL.of hs.at_, em, ?_⟩⟩
  refine ⟨_, rfl, _, rfl, _, _, rfl, rfl, ⟨by decide, by decide⟩, .inl ⟨_, rfl, _, rfl, _, _, rfl, .inl (SqL.of hp.at_), _, _, rfl, rfl, (by show (0 : Int) < _; rw [List.length_map]; omega), _, _, _, _, rfl, rfl, SqL.of hp.at_, ex, ?_⟩⟩
  refine ⟨_, rfl, .inl ⟨_, rfl, _, _, rfl, rfl, (by show (0 : Int) < 12; decide), ?_⟩⟩
  refine ⟨fun σ H' => σ = [some (.ref sa), some (.int at_), some (.ref pa), some (.ref la), some (.ref ta), some (.int (deep : Int)), some (.int m), some (.str x), some (.int (m % 12)), none, none, none, none, none, none, none] ∧ H = H', ?_, ?_⟩
  rotate_left
  rintro σ H' ⟨rfl, eH⟩
  subst eH
  refine ⟨fun σ H' => σ = [some (.ref sa), some (.int at_), some (.ref pa), some (.ref la), some (.ref ta), some (.int (deep : Int)), some (.int m), some (.str x), some (.int (m % 12)), none, none, none, none, none, none, none] ∧ H = H', ?_, ?_⟩
  rotate_left
  rintro σ H' ⟨rfl, eH⟩
  subst eH
  refine ⟨fun σ H' => σ = [some (.ref sa), some (.int at_), some (.ref pa), some (.ref la), some (.ref ta), some (.int (deep : Int)), some (.int m), some (.str x), some (.int (m % 12)), none, none, none, none, none, none, none] ∧ H = H', ?_, ?_⟩
  rotate_left
  rintro σ H' ⟨rfl, eH⟩
  subst eH
  refine ⟨_, rfl, _, rfl, _, _, rfl, rfl, _, rfl, _, rfl, sa, pa, la, ss, ns, L, at_ + 1, 2, rfl, hs, hp, np, hl, by decide, fun H1 r1 v1 e1 a1 s1 hr1 de1 wf1 dp1 => ?_⟩
  refine ⟨fun σ H' => σ = [some (.ref sa), some (.int at_), some (.ref pa), some (.ref la), some (.ref ta), some (.int (deep : Int)), some (.int m), some (.str x), some (.int (m % 12)), none, none, none, some (.ref r1), none, none, none] ∧ H1 = H', ?_, ?_⟩
  rotate_left
  rintro σ H' ⟨rfl, eH⟩
  subst eH
  refine ⟨fun σ H' => σ = [some (.ref sa), some (.int at_), some (.ref pa), some (.ref la), some (.ref ta), some (.int (deep : Int)), some (.int m), some (.str x), some (.int (m % 12)), none, none, none, some (.ref r1), none, none, none] ∧ H1 = H', ?_, ?_⟩
  rotate_left
  rintro σ H' ⟨rfl, eH⟩
  subst eH
  obtain ⟨y, hy, ey⟩ := at_modM V.str ns (m / 60) np
  have oky := hp.ok y hy
  have okly := nms_snoc hl.ok oky
  have hp1 := hp.same s1
  refine ⟨_, rfl, _, rfl, _, _, rfl, rfl, ⟨by decide, by decide⟩, .inl ⟨_, rfl, _, rfl, _, _, rfl, .inl (SqL.of hp1.at_), _, _, rfl, rfl, (by show (0 : Int) < _; rw [List.length_map]; omega), _, _, _, _, rfl, rfl, SqL.of hp1.at_, ey, ?_⟩⟩
  refine ⟨fun σ H' => σ = [some (.ref sa), some (.int at_), some (.ref pa), some (.ref la), some (.ref ta), some (.int (deep : Int)), some (.int m), some (.str x), some (.int (m % 12)), none, none, none, some (.ref r1), none, some (.str y), none] ∧ H1 = H', ?_, ?_⟩
  rotate_left
  rintro σ H' ⟨rfl, eH⟩
  subst eH
  refine ⟨fun σ H' => σ = [some (.ref sa), some (.int at_), some (.ref pa), some (.ref la), some (.ref ta), some (.int (deep : Int)), some (.int m), some (.str x), some (.int (m % 12)), none, none, none, some (.ref r1), none, some (.str y), none] ∧ H1 = H', ?_, ?_⟩
  rotate_left
  rintro σ H' ⟨rfl, eH⟩
  subst eH
  refine ⟨_, rfl, _, rfl, _, _, _, _, rfl, rfl, SqT.of hr1, at0, le_line (by show 3 ≤ 1000; decide), fun t1 ht1 => ?_⟩
  have s6 := same_new ht1 (.tup [V.str "set", V.str x, v1])
  have hr16 := s6 _ _ hr1
  refine ⟨_, rfl, _, _, _, _, rfl, rfl, SqT.of hr16, at1, le_line (by show 2 ≤ 1000; decide), fun t2 ht2 => ?_⟩
  have s7 := same_new ht2 (.tup [V.ref t1, V.int a1])
  have s17 := s6.trans s7
  exact q _ t2 (.ref t1) (.set x e1) a1 (s1.trans s17) upd_same ⟨t1, v1, rfl, s7 _ _ upd_same, de1.mono (Tk.same s17)⟩ ⟨okx, wf1, dp1⟩
  -- the ifs, from the last to the first
  · refine ⟨_, rfl, rfl, _, rfl, ?_⟩
    by_cases c : m % 12 = 10
    · refine iteD (congrArg V.int c) ⟨_, rfl, _, _, rfl, .inl (SqL.of ht.at_), _, _, rfl, rfl, _, rfl, ?_⟩
      by_cases c2 : 0 < TT.length
      · refine iteD (by rw [List.length_map]; omega) ?_
        obtain ⟨y, hy, ey⟩ := at_modM V.str TT (m / 12) c2
        refine ⟨_, rfl, _, rfl, _, _, rfl, rfl, ⟨by decide, by decide⟩, .inl ⟨_, rfl, _, rfl, _, _, rfl, .inl (SqL.of ht.at_), _, _, rfl, rfl, (by show (0 : Int) < _; rw [List.length_map]; omega), _, _, _, _, rfl, rfl, SqL.of ht.at_, ey, le_line (by show 2 ≤ 1000; decide), fun t1 ht1 => ?_⟩⟩
        have s1 := same_new ht1 (.tup [V.str "await", V.str y])
        refine ⟨_, rfl, _, _, rfl, rfl, le_line (by show 2 ≤ 1000; decide), fun t2 ht2 => ?_⟩
        have s2 := same_new ht2 (.tup [V.ref t1, V.int (at_ + 1)])
        exact q _ t2 (.ref t1) (.wait y) (at_ + 1) (s1.trans s2) upd_same ⟨t1, rfl, s2 _ _ upd_same⟩ ⟨ht.ok y hy, hy⟩
      · exact iteDF (by rw [List.length_map]; omega) ⟨rfl, rfl⟩
    · exact iteDF (fun z => c (V.int.inj z)) (iteF ⟨rfl, rfl⟩)
  · refine ⟨_, rfl, rfl, _, rfl, ?_⟩
    by_cases c : m % 12 = 9
    · refine iteD (congrArg V.int c) ⟨_, rfl, _, _, rfl, rfl, _, rfl, ?_⟩
      by_cases c2 : 0 < deep
      · refine iteD (by omega) ?_
        have ed : (deep : Int) - 1 = ((deep - 1 : Nat) : Int) := by omega
    
        refine ⟨_, rfl, _, rfl, _, _, rfl, rfl, _, rfl, _, rfl, _, rfl, _, rfl, _, _, rfl, rfl, sa, pa, la, ta, ss, ns, L, TT, at_ + 1, deep - 1, congrArg (fun z => [V.ref sa, V.int (at_ + 1), V.ref pa, V.ref la, V.ref ta, V.int z]) ed, hs, hp, np, hl, ht, by omega, by omega, by omega, by omega, fun H1 r1 ba b a1 s1 hr1 db wf lb => ?_⟩
        refine ⟨_, rfl, _, rfl, _, _, _, _, rfl, rfl, SqT.of hr1, at0, le_line (by show 3 ≤ 1000; decide), fun t1 ht1 => ?_⟩
        have s2 := same_new ht1 (.tup [V.str "start", V.str x, V.ref ba])
        have hr2 := s2 _ _ hr1
        refine ⟨_, rfl, _, _, _, _, rfl, rfl, SqT.of hr2, at1, le_line (by show 2 ≤ 1000; decide), fun t2 ht2 => ?_⟩
        have s3 := same_new ht2 (.tup [V.ref t1, V.int a1])
        have k13 : Tk H1 _ := Tk.same (s2.trans s3)
        obtain ⟨bv, hb, ds⟩ := db.mono k13
        exact q _ t2 (.ref t1) (.start x b) a1 (s1.trans (s2.trans s3)) upd_same ⟨t1, ba, bv, rfl, s3 _ _ upd_same, hb, ds⟩ ⟨okx, c2, lb, wf⟩
      · exact iteDF (by omega) ⟨rfl, rfl⟩
    · exact iteDF (fun z => c (V.int.inj z)) (iteF ⟨rfl, rfl⟩)
  · refine ⟨_, rfl, rfl, _, rfl, ?_⟩
    by_cases c : m % 12 = 6
    · refine iteD (congrArg V.int c) ⟨_, rfl, _, _, rfl, rfl, _, rfl, ?_⟩
      by_cases c2 : 0 < deep
      · refine iteD (by omega) ?_
        have ed : (deep : Int) - 1 = ((deep - 1 : Nat) : Int) := by omega
    
        refine ⟨Nat.zero_le _, fun D hD => ?_⟩
        have s1 := same_new hD (.lst [])
        have hD1 : upd H D (.lst []) D = some (.lst []) := upd_same
        generalize upd H D (.lst []) = H1 at s1 hD1
        have h40 := Int.emod_nonneg (m / 12) (show (4 : Int) ≠ 0 by decide)
        have h44 := Int.emod_lt_of_pos (m / 12) (show (0 : Int) < 4 by decide)
        refine ⟨_, rfl, _, _, rfl, rfl, _, rfl, _, _, rfl, rfl, ⟨by decide, by decide⟩, .inl ⟨_, rfl, _, _, rfl, rfl, (by show (0 : Int) < 4; decide), _, _, rfl, rfl, 1 + m / 12 % 4, rfl, by omega, by omega, ?_⟩⟩
        obtain ⟨nb, enb⟩ : ∃ nb : Nat, (1 + m / 12 % 4).toNat = nb := ⟨_, rfl⟩
        rw [enb]
        refine for_range (lo := 0) (n := nb) (fun i σ G => (∃ (a : Int) (c9 c11 : Option V), σ = [some (.ref sa), some (.int a), some (.ref pa), some (.ref la), some (.ref ta), some (.int (deep : Int)), some (.int m), some (.str x), some (.int (m % 12)), c9, some (.ref D), c11, none, none, none, none]) ∧ Kp [D] H1 G ∧ ∃ (bs : List (List Stm)) (vs : List V), G D = some (.lst vs) ∧ DBs G bs vs ∧ bs.length = i ∧ WFBs (deep - 1) L TT bs)
          ⟨⟨_, _, _, rfl⟩, Kp.refl _ _, [], [], hD1, rfl, rfl, trivial⟩ (fun i σ G hi h => ?_) fun σ G h => ?_
        · obtain ⟨⟨a, c9, c11, rfl⟩, kG, bs, vs, hv, dbs, lbs, wfs⟩ := h
          have nD : ∀ {b : Addr} {o : HO}, H b = some o → b ∉ [D] := fun e z => by
            rw [List.mem_singleton.mp z, hD] at e
            cases e
          have sHG : Same H G := fun b o e => kG _ _ (s1 _ _ e) (nD e)
          refine ⟨_, rfl, _, rfl, _, rfl, _, rfl, _, rfl, _, rfl, _, _, rfl, rfl, sa, pa, la, ta, ss, ns, L, TT, a, deep - 1, congrArg (fun z => [V.ref sa, V.int a, V.ref pa, V.ref la, V.ref ta, V.int z]) ed, hs.same sHG, hp.same sHG, np, hl.same sHG, ht.same sHG, by omega, by omega, by omega, by omega, fun H2 r1 ba b a1 s2 hr1 db wf lb => ?_⟩
          have hv2 := s2 _ _ hv
          have lvs := dbs.length
          refine ⟨_, rfl, .inl ⟨rfl, _, SqL.of hv2⟩, _, rfl, _, _, _, _, rfl, rfl, SqT.of hr1, at0, D, vs, _, rfl, rfl, hv2, lt_line (by omega), ?_⟩
          have k3 : Tk H2 (upd H2 D (.lst (vs ++ [V.ref ba]))) := tk_upd fun ws e => by rw [hv2] at e; cases e
          have hr3 := k3 _ _ hr1
          refine ⟨_, rfl, _, _, _, _, rfl, rfl, SqT.of hr3, at1, ⟨_, _, _, rfl⟩, kG.trans ((Kp.same s2).trans (Kp.upd (by simp))), bs ++ [b], vs ++ [V.ref ba], upd_same, DBs.snoc ((dbs.mono (Tk.same s2)).mono k3) (db.mono k3), by rw [List.length_append, lbs]; rfl, wfs.snoc lb wf⟩
        · obtain ⟨⟨a, c9, c11, rfl⟩, kG, bs, vs, hv, dbs, lbs, wfs⟩ := h
          have sHG : Same H G := fun b o e => kG _ _ (s1 _ _ e) fun z => by
            rw [List.mem_singleton.mp z, hD] at e
            cases e
          refine ⟨_, rfl, D, vs, rfl, .inl ⟨SqL.of hv, fun l hl2 => ?_⟩⟩
          have s2 := same_new hl2 (.tup vs)
          refine ⟨le_line (by show 2 ≤ 1000; decide), fun t1 ht1 => ?_⟩
          have s3 := same_new ht1 (.tup [V.str "fork", V.ref l])
          refine ⟨_, rfl, le_line (by show 2 ≤ 1000; decide), fun t2 ht2 => ?_⟩
          have s4 := same_new ht2 (.tup [V.ref t1, V.int a])
          exact q _ t2 (.ref t1) (.fork bs) a (sHG.trans (s2.trans (s3.trans s4))) upd_same ⟨t1, l, vs, rfl, s4 _ _ upd_same, (s3.trans s4) _ _ upd_same, dbs.mono (Tk.same (s2.trans (s3.trans s4)))⟩ ⟨c2, by omega, by omega, wfs⟩
      · exact iteDF (by omega) ⟨rfl, rfl⟩
    · exact iteDF (fun z => c (V.int.inj z)) (iteF ⟨rfl, rfl⟩)
  · refine ⟨_, rfl, rfl, _, rfl, ?_⟩
    by_cases c : m % 12 = 5
    · refine iteD (congrArg V.int c) ⟨_, rfl, _, _, rfl, rfl, _, rfl, ?_⟩
      by_cases c2 : 0 < deep
      · refine iteD (by omega) ?_
        have ed : (deep : Int) - 1 = ((deep - 1 : Nat) : Int) := by omega
    
        refine ⟨_, rfl, _, rfl, _, _, _, _, rfl, rfl, SqT.of hr1, at1, _, rfl, _, rfl, _, rfl, _, rfl, _, _, rfl, rfl, sa, pa, la, ta, ss, ns, L, TT, a1, deep - 1, congrArg (fun z => [V.ref sa, V.int a1, V.ref pa, V.ref la, V.ref ta, V.int z]) ed, hs.same s1, hp.same s1, np, hl.same s1, ht.same s1, by omega, by omega, by omega, by omega, fun H2 r2 ba b a2 s2 hr2 db wf lb => ?_⟩
        have s02 := s1.trans s2
        refine ⟨_, rfl, _, rfl, _, _, _, _, rfl, rfl, SqT.of hr2, at1, _, rfl, _, rfl, _, rfl, _, rfl, _, _, rfl, rfl, sa, pa, la, ta, ss, ns, L, TT, a2, deep - 1, congrArg (fun z => [V.ref sa, V.int a2, V.ref pa, V.ref la, V.ref ta, V.int z]) ed, hs.same s02, hp.same s02, np, hl.same s02, ht.same s02, by omega, by omega, by omega, by omega, fun H3 r3 bb b2 a3 s3 hr3 db2 wf2 lb2 => ?_⟩
        have hr13 := s3 _ _ (s2 _ _ hr1)
        have hr23 := s3 _ _ hr2
        refine ⟨_, rfl, _, _, _, _, rfl, rfl, SqT.of hr13, at0, _, rfl, _, _, _, _, rfl, rfl, SqT.of hr23, at0, _, rfl, _, _, _, _, rfl, rfl, SqT.of hr3, at0, le_line (by show 4 ≤ 1000; decide), fun t1 ht1 => ?_⟩
        have s4 := same_new ht1 (.tup [V.str "if", v1, V.ref ba, V.ref bb])
        have hr34 := s4 _ _ hr3
        refine ⟨_, rfl, _, _, _, _, rfl, rfl, SqT.of hr34, at1, le_line (by show 2 ≤ 1000; decide), fun t2 ht2 => ?_⟩
        have s5 := same_new ht2 (.tup [V.ref t1, V.int a3])
        have s35 := s4.trans s5
        obtain ⟨bv, hb, dsb⟩ := db.mono (Tk.same (s3.trans s35))
        obtain ⟨bv2, hb2, dsb2⟩ := db2.mono (Tk.same s35)
        exact q _ t2 (.ref t1) (.cond e1 b b2) a3 (s02.trans (s3.trans s35)) upd_same ⟨t1, v1, ba, bb, bv, bv2, rfl, s5 _ _ upd_same, de1.mono (Tk.same (s2.trans (s3.trans s35))), hb, dsb, hb2, dsb2⟩ ⟨⟨wf1, dp1⟩, c2, lb, wf, lb2, wf2⟩
      · exact iteDF (by omega) ⟨rfl, rfl⟩
    · exact iteDF (fun z => c (V.int.inj z)) (iteF ⟨rfl, rfl⟩)
  · refine ⟨_, rfl, rfl, _, rfl, ?_⟩
    by_cases c : m % 12 = 7
    · refine iteD (congrArg V.int c) ⟨_, rfl, _, _, rfl, rfl, _, rfl, ?_⟩
      by_cases c2 : 0 < deep
      · refine iteD (by omega) ?_
        have ed : (deep : Int) - 1 = ((deep - 1 : Nat) : Int) := by omega
    
        refine ⟨_, rfl, _, rfl, _, _, _, _, rfl, rfl, SqT.of hr1, at1, _, rfl, _, rfl, _, rfl, le_line (by show 1 ≤ 1000; decide), fun p2 hp2 => ?_⟩
        have s2 := same_new hp2 (.lst [V.str x])
        have hp21 : upd H1 p2 (.lst [V.str x]) p2 = some (.lst [V.str x]) := upd_same
        generalize upd H1 p2 (.lst [V.str x]) = H2 at s2 hp21
        have hl2 := s2 _ _ (s1 _ _ hl.at_)
        refine ⟨la, p2, _, _, rfl, rfl, hl2, hp21, le_line (by rw [List.length_map]; show L.length + 1 ≤ 1000; omega), fun p3 hp3 => ?_⟩
        have s3 := same_new hp3 (.lst (L.map V.str ++ [V.str x]))
        have hl3 : upd H2 p3 (.lst (L.map V.str ++ [V.str x])) p3 = some (.lst ((L ++ [x]).map V.str)) := by rw [upd_same, List.map_append]; rfl
        generalize upd H2 p3 (.lst (L.map V.str ++ [V.str x])) = H3 at s3 hl3
        have s03 := s1.trans (s2.trans s3)
        have hr13 := s3 _ _ (s2 _ _ hr1)
        refine ⟨_, rfl, _, rfl, _, _, rfl, rfl, sa, pa, p3, ta, ss, ns, L ++ [x], TT, a1, deep - 1, congrArg (fun z => [V.ref sa, V.int a1, V.ref pa, V.ref p3, V.ref ta, V.int z]) ed, hs.same s03, hp.same s03, np, ⟨hl3, okl⟩, ht.same s03, by omega, by rw [List.length_append]; show L.length + 1 + (deep - 1) ≤ 100; omega, by omega, by omega, fun H4 r2 ba b a2 s4 hr2 db wf lb => ?_⟩
        have hr14 := s4 _ _ hr13
        refine ⟨_, rfl, _, rfl, _, _, _, _, rfl, rfl, SqT.of hr14, at0, _, rfl, _, _, _, _, rfl, rfl, SqT.of hr2, at0, le_line (by show 4 ≤ 1000; decide), fun t1 ht1 => ?_⟩
        have s5 := same_new ht1 (.tup [V.str "each", V.str x, v1, V.ref ba])
        have hr25 := s5 _ _ hr2
        refine ⟨_, rfl, _, _, _, _, rfl, rfl, SqT.of hr25, at1, le_line (by show 2 ≤ 1000; decide), fun t2 ht2 => ?_⟩
        have s6 := same_new ht2 (.tup [V.ref t1, V.int a2])
        have s46 := s5.trans s6
        obtain ⟨bv, hb, dsb⟩ := db.mono (Tk.same s46)
        exact q _ t2 (.ref t1) (.each x e1 b) a2 (s03.trans (s4.trans s46)) upd_same ⟨t1, v1, ba, bv, rfl, s6 _ _ upd_same, de1.mono (Tk.same (s2.trans (s3.trans (s4.trans s46)))), hb, dsb⟩ ⟨okx, ⟨wf1, dp1⟩, c2, lb, wf⟩
      · exact iteDF (by omega) ⟨rfl, rfl⟩
    · exact iteDF (fun z => c (V.int.inj z)) (iteF ⟨rfl, rfl⟩)
  · refine ⟨_, rfl, rfl, _, rfl, ?_⟩
    by_cases c : m % 12 = 8
    · refine iteD (congrArg V.int c) ⟨_, rfl, _, rfl, _, _, _, _, rfl, rfl, SqT.of hr1, at1, _, rfl, _, rfl, _, rfl, le_line (by show 1 ≤ 1000; decide), fun p2 hp2 => ?_⟩
      have s2 := same_new hp2 (.lst [V.str y])
      have hp21 : upd H1 p2 (.lst [V.str y]) p2 = some (.lst [V.str y]) := upd_same
      generalize upd H1 p2 (.lst [V.str y]) = H2 at s2 hp21
      have hl2 := s2 _ _ (s1 _ _ hl.at_)
      refine ⟨la, p2, _, _, rfl, rfl, hl2, hp21, le_line (by rw [List.length_map]; show L.length + 1 ≤ 1000; omega), fun p3 hp3 => ?_⟩
      have s3 := same_new hp3 (.lst (L.map V.str ++ [V.str y]))
      have hl3 : upd H2 p3 (.lst (L.map V.str ++ [V.str y])) p3 = some (.lst ((L ++ [y]).map V.str)) := by rw [upd_same, List.map_append]; rfl
      generalize upd H2 p3 (.lst (L.map V.str ++ [V.str y])) = H3 at s3 hl3
      have s03 := s1.trans (s2.trans s3)
      have hr13 := s3 _ _ (s2 _ _ hr1)
      refine ⟨sa, pa, p3, ss, ns, L ++ [y], a1, 1, rfl, hs.same s03, hp.same s03, np, ⟨hl3, okly⟩, by decide, fun H4 r2 v2 e2 a2 s4 hr2 de2 wf2 dp2 => ?_⟩
      refine ⟨_, rfl, le_line (by show 5 ≤ 1000; decide), fun p5 hp5 => ?_⟩
      have s5 := same_new hp5 (.lst [V.str "+", V.str "-", V.str "*", V.str "max", V.str "min"])
      have hp51 : upd H4 p5 (.lst [V.str "+", V.str "-", V.str "*", V.str "max", V.str "min"]) p5 = some (.lst [V.str "+", V.str "-", V.str "*", V.str "max", V.str "min"]) := upd_same
      generalize upd H4 p5 (.lst [V.str "+", V.str "-", V.str "*", V.str "max", V.str "min"]) = H5 at s5 hp51
      obtain ⟨o, ho, eo⟩ := at_modN V.str foldL (m / 300) 5 (by decide) (by decide)
      have hr15 := s5 _ _ (s4 _ _ hr13)
      have hr25 := s5 _ _ hr2
      refine ⟨_, rfl, _, _, rfl, rfl, ⟨by decide, by decide⟩, .inl ⟨_, rfl, _, _, rfl, rfl, (by show (0 : Int) < 5; decide), _, _, _, _, rfl, rfl, SqL.of hp51, eo, _, rfl, _, rfl, _, _, _, _, rfl, rfl, SqT.of hr15, at0, _, rfl, _, _, _, _, rfl, rfl, SqT.of hr25, at0, le_line (by show 6 ≤ 1000; decide), fun t1 ht1 => ?_⟩⟩
      have s6 := same_new ht1 (.tup [V.str "fold", V.str x, V.str o, V.str y, v1, v2])
      have hr26 := s6 _ _ hr25
      refine ⟨_, rfl, _, _, _, _, rfl, rfl, SqT.of hr26, at1, le_line (by show 2 ≤ 1000; decide), fun t2 ht2 => ?_⟩
      have s7 := same_new ht2 (.tup [V.ref t1, V.int a2])
      have s47 := s5.trans (s6.trans s7)
      exact q _ t2 (.ref t1) (.fold x o y e1 e2) a2 (s03.trans (s4.trans s47)) upd_same ⟨t1, v1, v2, rfl, s7 _ _ upd_same, de1.mono (Tk.same (s2.trans (s3.trans (s4.trans s47)))), de2.mono (Tk.same s47)⟩ ⟨okx, ho, oky, ⟨wf1, dp1⟩, wf2, by omega⟩
    · exact iteDF (fun z => c (V.int.inj z)) ⟨rfl, rfl⟩
  · refine ⟨_, rfl, rfl, _, rfl, ?_⟩
    by_cases c : m % 12 = 3
    · refine iteD (congrArg V.int c) (iteT ⟨_, rfl, le_line (by show 4 ≤ 1000; decide), fun p5 hp5 => ?_⟩)
      have s5 := same_new hp5 (.lst [V.str "+", V.str "*", V.str "max", V.str "min"])
      have hp51 : upd H1 p5 (.lst [V.str "+", V.str "*", V.str "max", V.str "min"]) p5 = some (.lst [V.str "+", V.str "*", V.str "max", V.str "min"]) := upd_same
      generalize upd H1 p5 (.lst [V.str "+", V.str "*", V.str "max", V.str "min"]) = H5 at s5 hp51
      obtain ⟨o, ho, eo⟩ := at_modN V.str addL (m / 60) 4 (by decide) (by decide)
      have hr15 := s5 _ _ hr1
      refine ⟨_, rfl, _, _, rfl, rfl, ⟨by decide, by decide⟩, .inl ⟨_, rfl, _, _, rfl, rfl, (by show (0 : Int) < 4; decide), _, _, _, _, rfl, rfl, SqL.of hp51, eo, _, rfl, _, _, _, _, rfl, rfl, SqT.of hr15, at0, le_line (by show 4 ≤ 1000; decide), fun t1 ht1 => ?_⟩⟩
      have s6 := same_new ht1 (.tup [V.str "add", V.str x, V.str o, v1])
      have hr16 := s6 _ _ hr15
      refine ⟨_, rfl, _, _, _, _, rfl, rfl, SqT.of hr16, at1, le_line (by show 2 ≤ 1000; decide), fun t2 ht2 => ?_⟩
      have s7 := same_new ht2 (.tup [V.ref t1, V.int a1])
      have s17 := s5.trans (s6.trans s7)
      exact q _ t2 (.ref t1) (.add x o e1) a1 (s1.trans s17) upd_same ⟨t1, v1, rfl, s7 _ _ upd_same, de1.mono (Tk.same s17)⟩ ⟨okx, ho, wf1, dp1⟩
    · refine iteDF (fun z => c (V.int.inj z)) ⟨_, rfl, rfl, _, rfl, ?_⟩
      by_cases c2 : m % 12 = 4
      · refine iteD (congrArg V.int c2) ⟨_, rfl, le_line (by show 4 ≤ 1000; decide), fun p5 hp5 => ?_⟩
        have s5 := same_new hp5 (.lst [V.str "+", V.str "*", V.str "max", V.str "min"])
        have hp51 : upd H1 p5 (.lst [V.str "+", V.str "*", V.str "max", V.str "min"]) p5 = some (.lst [V.str "+", V.str "*", V.str "max", V.str "min"]) := upd_same
        generalize upd H1 p5 (.lst [V.str "+", V.str "*", V.str "max", V.str "min"]) = H5 at s5 hp51
        obtain ⟨o, ho, eo⟩ := at_modN V.str addL (m / 60) 4 (by decide) (by decide)
        have hr15 := s5 _ _ hr1
        refine ⟨_, rfl, _, _, rfl, rfl, ⟨by decide, by decide⟩, .inl ⟨_, rfl, _, _, rfl, rfl, (by show (0 : Int) < 4; decide), _, _, _, _, rfl, rfl, SqL.of hp51, eo, _, rfl, _, _, _, _, rfl, rfl, SqT.of hr15, at0, le_line (by show 4 ≤ 1000; decide), fun t1 ht1 => ?_⟩⟩
        have s6 := same_new ht1 (.tup [V.str "add", V.str x, V.str o, v1])
        have hr16 := s6 _ _ hr15
        refine ⟨_, rfl, _, _, _, _, rfl, rfl, SqT.of hr16, at1, le_line (by show 2 ≤ 1000; decide), fun t2 ht2 => ?_⟩
        have s7 := same_new ht2 (.tup [V.ref t1, V.int a1])
        have s17 := s5.trans (s6.trans s7)
        exact q _ t2 (.ref t1) (.add x o e1) a1 (s1.trans s17) upd_same ⟨t1, v1, rfl, s7 _ _ upd_same, de1.mono (Tk.same s17)⟩ ⟨okx, ho, wf1, dp1⟩
      · exact iteDF (fun z => c2 (V.int.inj z)) ⟨rfl, rfl⟩
end
end K11
set_option Elab.async false
set_option linter.all false
set_option maxRecDepth 100000
set_option maxHeartbeats 4000000
namespace K11
open PySem PySem.Spec PyProof.Rows L2
theorem after_ne {T : List Str} {s : Stm} (h : ∀ t b, s ≠ .start t b) : after T s = T := by
  cases s with
  | start t b => exact absurd rfl (h t b)
  | _ => rfl
section
variable {P : Program} {w : World} {K : PySem.W.Frag} {mg : Str → Option Value} {base : Heap}
theorem sc_law_block : FnScope ["_law_stream_here", "_law_at", "_law_pool_here", "_law_locals_here", "_law_tickets", "_law_deep", "_law_n", "_law_statements", "_law_known", "_law_size", "_law_turn", "_law_found"] ["_law_stream_here", "_law_at", "_law_pool_here", "_law_locals_here", "_law_tickets", "_law_deep"] (defScope s_law_block) := ⟨rfl, rfl, rfl, by decide +kernel, rfl, by decide +kernel, by decide +kernel⟩
theorem law_gblk_1 {kl n : Nat} (T : Txt w K mg) (C_law_statement : C8.Cal P w K mg base kl "_law_statement" (spGStm n) []) : C8.Cal P w K mg base (kl + 1) "_law_block" (spGBlk n) [] := by
  refine T.f_law_block.cal sc_law_block (fun vs H Q E h => by obtain ⟨_, _, _, _, _, _, _, _, _, _, rfl, _⟩ := h; rfl) fun f cdv A outer s H vs Q E hr h => ?_
  obtain ⟨sa, pa, la, ta, ss, ns, L, TT, at_, deep, rfl, hs, hp, np, hl, ht, hd, ldl, ldt, d3, q⟩ := h
  refine ⟨_, (pss_cons (ps_set (i := 6) sc_law_block.nd rfl (Or.inl rfl) (pe_ix (kix_list K rfl) (pv 0) (pe_op op_mod (pe_callTy call_int1 (by rfl) T.z_int (by decide +kernel) (pa_cons (pv 1) pa_nil)) (pe_callB (klen_seq K rfl) (by rfl) T.z_len (by decide +kernel) (pa_cons (pv 0) pa_nil))) (fun _ _ => rfl))) 
    (pss_cons (ps_set (i := 7) sc_law_block.nd rfl (Or.inl rfl) (pe_lst pa_nil)) 
    (pss_cons (ps_set (i := 8) sc_law_block.nd rfl (Or.inl rfl) (pe_callTy (klist_of K rfl) (by rfl) T.z_list (by decide +kernel) (pa_cons (pv 4) pa_nil))) 
    (pss_cons (ps_set (i := 1) sc_law_block.nd rfl (Or.inl rfl) (pe_op op_add (pv 1) pe_int)) 
    (pss_cons (ps_set (i := 9) sc_law_block.nd rfl (Or.inl rfl) (pe_op op_add (pe_ix (kix_list K rfl) (pe_lst (pa_cons pe_int (pa_cons pe_int (pa_cons pe_int (pa_cons pe_int (pa_cons pe_int (pa_cons pe_int (pa_cons pe_int (pa_cons pe_int pa_nil))))))))) (pe_op op_mod (pe_callTy call_int1 (by rfl) T.z_int (by decide +kernel) (pa_cons (pv 6) pa_nil)) pe_int) (fun _ _ => rfl)) (pe_op op_mul (pe_callTy call_int1 (by rfl) T.z_int (by decide +kernel) (pa_cons (pe_cmpR op_eq (pv 5) pe_int (nomark _)) pa_nil)) (pe_op op_add pe_int (pe_op op_mod (pe_callTy call_int1 (by rfl) T.z_int (by decide +kernel) (pa_cons (pe_op op_fdiv (pv 6) pe_int) pa_nil)) pe_int))))) 
    (pss_cons (ps_for PassesOwn.never rfl (pi_range1 rfl T.z_range (pa_cons (pe_op op_mul (pv 9) (pe_callTy call_int1 (by rfl) T.z_int (by decide +kernel) (pa_cons (pe_cmpR op_lt (pv 1) pe_int (nomark _)) pa_nil))) pa_nil)) (pg_name (i := 10) sc_law_block.nd rfl (Or.inl rfl)) 
      (pss_cons (ps_set (i := 11) sc_law_block.nd rfl (Or.inl rfl) (C8.pe_c C_law_statement hr (by omega) rfl (pa_cons (pv 0) (pa_cons (pv 1) (pa_cons (pv 2) (pa_cons (pv 3) (pa_cons (pv 8) (pa_cons (pv 5) pa_nil)))))))) 
      (pss_cons (ps_expr (pe_bm PySem.F.plainAttrs_list PySem.F.slot_list_append PySem.F.type_list_append mt_append (pv 7) (pa_cons (pe_ix (kix_tup K rfl) (pv 11) pe_int (fun _ _ => rfl)) pa_nil))) 
      (pss_cons (ps_set (i := 1) sc_law_block.nd rfl (Or.inl rfl) (pe_ix (kix_tup K rfl) (pv 11) pe_int (fun _ _ => rfl))) 
      (pss_one (ps_if (pt_cmpR op_eq (pe_ix (kix_tup K rfl) (pe_ix (kix_tup K rfl) (pv 11) pe_int (fun _ _ => rfl)) pe_int (fun _ _ => rfl)) pe_str (nomark _)) (pss_one (ps_expr (pe_bm PySem.F.plainAttrs_list PySem.F.slot_list_append PySem.F.type_list_append mt_append (pv 8) (pa_cons (pe_ix (kix_tup K rfl) (pe_ix (kix_tup K rfl) (pv 11) pe_int (fun _ _ => rfl)) pe_int (fun _ _ => rfl)) pa_nil)))) pss_nil)))))) 
    (pss_one (ps_ret (pe_tup (pa_cons (pe_callTy (ktuple_of K rfl) (by rfl) T.z_tuple (by decide +kernel) (pa_cons (pv 7) pa_nil)) (pa_cons (pv 1) pa_nil))))))))))), ?_⟩
  obtain ⟨m, hm, em⟩ := at_modM V.int ss at_ hs.pos
  obtain ⟨m0, m1⟩ := hs.ok m hm
  refine ⟨_, rfl, _, rfl, .inl ⟨_, rfl, _, rfl, _, _, rfl, .inl (SqL.of hs.at_), _, _, rfl, rfl, (by show (0 : Int) < _; rw [List.length_map]; have := hs.pos; omega), _, _, _, _, rfl, rfl, SqL.of hs.at_, em, ?_⟩⟩
  refine ⟨Nat.zero_le _, fun D hD => ?_⟩
  have s1 := same_new hD (.lst [])
  have hD1 : upd H D (.lst []) D = some (.lst []) := upd_same
  generalize upd H D (.lst []) = H1 at s1 hD1
  refine ⟨_, rfl, ta, _, rfl, .inl (SqL.of (s1 _ _ ht.at_)), fun kp hkp => ?_⟩
  have s2 := same_new hkp (.lst (TT.map V.str))
  have hkp2 : upd H1 kp (.lst (TT.map V.str)) kp = some (.lst (TT.map V.str)) := upd_same
  have hD2 := s2 _ _ hD1
  have nDk : D ≠ kp := fun z => by rw [z, hkp] at hD1; cases hD1
  generalize upd H1 kp (.lst (TT.map V.str)) = H2 at s2 hkp2 hD2
  have s02 := s1.trans s2
  refine ⟨_, rfl, _, _, rfl, rfl, le_line (by show 8 ≤ 1000; decide), fun p hp3 => ?_⟩
  have s3 := same_new hp3 (.lst [V.int 0, V.int 1, V.int 1, V.int 1, V.int 2, V.int 2, V.int 1, V.int 1])
  have hp31 : upd H2 p (.lst [V.int 0, V.int 1, V.int 1, V.int 1, V.int 2, V.int 2, V.int 1, V.int 1]) p = some (.lst [V.int 0, V.int 1, V.int 1, V.int 1, V.int 2, V.int 2, V.int 1, V.int 1]) := upd_same
  generalize upd H2 p (.lst [V.int 0, V.int 1, V.int 1, V.int 1, V.int 2, V.int 2, V.int 1, V.int 1]) = H3 at s3 hp31
  have s03 := s02.trans s3
  have hD3 := s3 _ _ hD2
  have hkp3 := s3 _ _ hkp2
  obtain ⟨z, hz, ez⟩ := at_modN V.int [0, 1, 1, 1, 2, 2, 1, 1] m 8 (by decide) (by decide)
  have z02 : 0 ≤ z ∧ z ≤ 2 := by
    simp only [List.mem_cons, List.not_mem_nil, or_false] at hz
    omega
  have h40 := Int.emod_nonneg (m / 8) (show (4 : Int) ≠ 0 by decide)
  have h44 := Int.emod_lt_of_pos (m / 8) (show (0 : Int) < 4 by decide)
  have bit : ∀ b : Bool, (0 : Int) ≤ (if b = true then 1 else 0) ∧ (if b = true then (1 : Int) else 0) ≤ 1 := by decide
  have bm : ∀ (b : Bool) (x : Int), 0 ≤ x → 0 ≤ (if b = true then (1 : Int) else 0) * x ∧ (if b = true then (1 : Int) else 0) * x ≤ x := fun b x hx => by
    cases b with
    | true => rw [if_pos rfl]; omega
    | false => rw [if_neg Bool.false_ne_true]; omega
  have mb : ∀ (b : Bool) (x : Int), 0 ≤ x → 0 ≤ x * (if b = true then (1 : Int) else 0) ∧ x * (if b = true then (1 : Int) else 0) ≤ x := fun b x hx => by
    rw [Int.mul_comm]; exact bm b x hx
  refine ⟨_, rfl, .inl ⟨_, rfl, _, _, rfl, rfl, (by show (0 : Int) < 8; decide), _, _, _, _, rfl, rfl, SqL.of hp31, ez, _, rfl, rfl, .inr ⟨_, rfl, _, rfl, _, _, rfl, rfl, ⟨by decide, by decide⟩, .inl ⟨_, rfl, _, _, rfl, rfl, (by show (0 : Int) < 4; decide), _, _, rfl, rfl, _, _, rfl, rfl, .inr ⟨by omega, by omega⟩, _, _, rfl, rfl, ?_⟩⟩⟩⟩
  obtain ⟨b0, b1⟩ := bm (decide (V.int (deep : Int) = V.int 3)) (1 + m / 8 % 4) (by omega)
  obtain ⟨sz, esz⟩ : ∃ sz : Int, z + (if decide (V.int (deep : Int) = V.int 3) = true then 1 else 0) * (1 + m / 8 % 4) = sz := ⟨_, rfl⟩
  have sz6 : 0 ≤ sz ∧ sz ≤ 6 := by omega
  refine ⟨_, rfl, _, rfl, _, _, rfl, rfl, .inr ⟨_, rfl, _, _, rfl, rfl, .inl ⟨by omega, by omega⟩, _, rfl, ?_⟩⟩
  rw [esz]
  obtain ⟨c0, c1⟩ := mb (decide (at_ + 1 < 90)) sz sz6.1
  refine ⟨by omega, by omega, ?_⟩
  obtain ⟨tn, etn⟩ : ∃ tn : Nat, (sz * (if decide (at_ + 1 < 90) = true then 1 else 0)).toNat = tn := ⟨_, rfl⟩
  rw [etn]
  have tn6 : tn ≤ 6 := by omega
  have fD : H D = none := hD
  have fk : H kp = none := by
    cases z : H kp with
    | none => rfl
    | some o => rw [s1 _ _ z] at hkp; cases hkp
  refine for_range (lo := 0) (n := tn) (fun i σ G => (∃ (a : Int) (c10 c11 : Option V), σ = [some (.ref sa), some (.int a), some (.ref pa), some (.ref la), some (.ref ta), some (.int (deep : Int)), some (.int m), some (.ref D), some (.ref kp), some (.int sz), c10, c11]) ∧ Kp [D, kp] H3 G ∧ ∃ (bb : List Stm) (vs : List V), G D = some (.lst vs) ∧ DSs G bb vs ∧ bb.length = i ∧ WFB deep L TT bb ∧ Nms G (tick TT bb bb.length) kp)
    ⟨⟨at_ + 1, none, none, by subst esz; rfl⟩, Kp.refl _ _, [], [], hD3, rfl, rfl, trivial, ⟨hkp3, ht.ok⟩⟩ (fun i σ G hi h => ?_) fun σ G h => ?_
  · obtain ⟨⟨a, c10, c11, rfl⟩, kG, bb, vs, hv, dss, lbb, wfb, hk⟩ := h
    have sHG : Same H G := fun b o e => kG _ _ (s03 _ _ e) fun z => by
      simp only [List.mem_cons, List.not_mem_nil, or_false] at z
      rcases z with z | z
      · rw [z, fD] at e; cases e
      · rw [z, fk] at e; cases e
    have lt := tick_length TT bb bb.length
    refine ⟨_, rfl, _, rfl, _, rfl, _, rfl, _, rfl, _, rfl, sa, pa, la, kp, ss, ns, L, tick TT bb bb.length, a, deep, rfl, hs.same sHG, hp.same sHG, np, hl.same sHG, hk, hd, ldl, by omega, d3, fun G2 r v st a2 s4 hr2 ds2 wfs => ?_⟩
    have hv2 := s4 _ _ hv
    have hk2 := hk.same s4
    have lvs := dss.length
    refine ⟨_, rfl, .inl ⟨rfl, _, SqL.of hv2⟩, _, rfl, _, _, _, _, rfl, rfl, SqT.of hr2, at0, D, vs, _, rfl, rfl, hv2, lt_line (by omega), ?_⟩
    have k3 : Tk G2 (upd G2 D (.lst (vs ++ [v]))) := tk_upd fun ws e => by rw [hv2] at e; cases e
    have hk3 : Nms (upd G2 D (.lst (vs ++ [v]))) (tick TT bb bb.length) kp := ⟨by rw [upd_ne (Ne.symm nDk)]; exact hk2.at_, hk2.ok⟩
    have hv3 : upd G2 D (.lst (vs ++ [v])) D = some (.lst (vs ++ [v])) := upd_same
    have kp3 : Kp [D, kp] G2 (upd G2 D (.lst (vs ++ [v]))) := Kp.upd (by simp)
    have hr3 := k3 _ _ hr2
    have ds3 := ds2.mono k3
    have dss3 := DSs.snoc ((dss.mono (Tk.same s4)).mono k3) ds3
    generalize upd G2 D (.lst (vs ++ [v])) = G3 at hk3 hv3 kp3 hr3 ds3 dss3
    have k03 : Kp [D, kp] H3 G3 := kG.trans ((Kp.same s4).trans kp3)
    have wf3 := wfb.snoc wfs
    have tk3 := tick_app TT bb st
    obtain ⟨a0, z0, rr, rfl, ha0, alt⟩ := ds3.two
    refine ⟨_, rfl, _, _, _, _, rfl, rfl, SqT.of hr3, at1, _, rfl, _, _, _, _, rfl, rfl, SqT.of hr3, at0, _, _, _, _, rfl, rfl, SqT.of ha0, at0, rfl, _, rfl, ?_⟩
    rcases alt with ⟨t, b, rfl, rfl⟩ | ⟨no, _⟩
    · have okt : NameOk t := wfs.1
      refine iteD rfl ⟨_, rfl, .inl ⟨rfl, _, SqL.of hk3.at_⟩, _, rfl, _, _, _, _, rfl, rfl, SqT.of hr3, at0, _, _, _, _, rfl, rfl, SqT.of ha0, at1, kp, _, _, rfl, rfl, hk3.at_, lt_line (by rw [List.length_map]; omega), ?_⟩
      have k4 : Tk G3 (upd G3 kp (.lst ((tick TT bb bb.length).map V.str ++ [V.str t]))) := tk_upd fun ws e => by rw [hk3.at_] at e; cases e
      refine ⟨⟨_, _, _, rfl⟩, k03.trans (Kp.upd (by simp)), bb ++ [.start t b], vs ++ [V.ref a0], by rw [upd_ne nDk]; exact hv3, dss3.mono k4, by rw [List.length_append, lbb]; rfl, wf3, ⟨?_, ?_⟩⟩
      · rw [upd_same, tk3]
        show _ = some (HO.lst ((tick TT bb bb.length ++ [t]).map V.str))
        rw [List.map_append]
        rfl
      · rw [tk3]
        exact nms_snoc hk3.ok okt
    · refine iteDF (fun e => ?_) ⟨⟨_, _, _, rfl⟩, k03, bb ++ [st], vs ++ [V.ref a0], hv3, dss3, by rw [List.length_append, lbb]; rfl, wf3, ?_⟩
      · have := kd_start st no
        rw [decide_eq_true (V.str.inj e)] at this
        cases this
      · rw [tk3, after_ne no]
        exact hk3
  · obtain ⟨⟨a, c10, c11, rfl⟩, kG, bb, vs, hv, dss, lbb, wfb, hk⟩ := h
    have sHG : Same H G := fun b o e => kG _ _ (s03 _ _ e) fun z => by
      simp only [List.mem_cons, List.not_mem_nil, or_false] at z
      rcases z with z | z
      · rw [z, fD] at e; cases e
      · rw [z, fk] at e; cases e
    refine ⟨_, rfl, D, vs, rfl, .inl ⟨SqL.of hv, fun l hl2 => ?_⟩⟩
    have s4 := same_new hl2 (.tup vs)
    refine ⟨_, rfl, le_line (by show 2 ≤ 1000; decide), fun t1 ht1 => ?_⟩
    have s5 := same_new ht1 (.tup [V.ref l, V.int a])
    exact q _ t1 l bb a (sHG.trans (s4.trans s5)) upd_same ⟨vs, s5 _ _ upd_same, dss.mono (Tk.same (s4.trans s5))⟩ wfb (by omega)
theorem ok_law_gblk (T : Txt w K mg) (C_law_expression : C8.Cal P w K mg base 3 "_law_expression" (spLExpr 3) []) : ∀ n : Nat, C8.Cal P w K mg base (4 + 2 * n) "_law_block" (spGBlk n) []
  | 0 => T.f_law_block.none fun vs H Q E h => by
    obtain ⟨_, _, _, _, _, _, _, _, _, _, _, _, _, _, _, _, h, _⟩ := h
    omega
  | n + 1 => law_gblk_1 (kl := 4 + 2 * n + 1) T (law_gstm_1 (kl := 4 + 2 * n) T (by omega) C_law_expression (ok_law_gblk T C_law_expression n))
end
end K11
set_option Elab.async false
set_option linter.all false
set_option maxRecDepth 100000
set_option maxHeartbeats 4000000
namespace K11
open PySem PySem.Spec PyProof.Rows L2
theorem bitM (b : Bool) : -(2 ^ 64) < (if b = true then (1 : Int) else 0) ∧ (if b = true then (1 : Int) else 0) < 2 ^ 64 := by cases b <;> decide
theorem DSs.take {H : Hp} : ∀ {ss : List Stm} {vs : List V}, DSs H ss vs → ∀ k, DSs H (ss.take k) (vs.take k)
  | [], _, h, k => by rw [show _ = _ from h, List.take_nil, List.take_nil]; rfl
  | _ :: _, _, ⟨u, r, e, h, d⟩, 0 => by rw [List.take_zero, List.take_zero]; rfl
  | _ :: _, _, ⟨u, r, e, h, d⟩, k + 1 => by subst e; exact ⟨u, _, rfl, h, DSs.take d k⟩
section
variable {P : Program} {w : World} {K : PySem.W.Frag} {mg : Str → Option Value} {base : Heap}
def spLMost (n : Nat) : Sp := fun vs H Q _ => ∃ (a : Addr) (b : List Stm) (d : Nat) (L TT : List Str), vs = [.ref a] ∧ DB H b a ∧ WFB d L TT b ∧ d < n ∧ ∀ (H' : Hp) (t : Int), Same H H' → Q (.int t) H'
theorem sc_law_most : FnScope ["_law_block_here", "_law_total", "_law_statement_here", "_law_kind", "_law_one", "_law_two", "_law_inner"] ["_law_block_here"] (defScope s_law_most) := ⟨rfl, rfl, rfl, by decide +kernel, rfl, by decide +kernel, by decide +kernel⟩
theorem law_most_1 {k n : Nat} (T : Txt w K mg) (hk : 1 ≤ k) (C_law_turns : C8.Cal P w K mg base 1 "_law_turns" spLTurns []) (C_law_most : C8.Cal P w K mg base k "_law_most" (spLMost n) []) : C8.Cal P w K mg base (k + 1) "_law_most" (spLMost (n + 1)) [] := by
  refine T.f_law_most.cal sc_law_most (fun vs H Q E h => by obtain ⟨_, _, _, _, _, rfl, _⟩ := h; rfl) fun f cdv A outer s H vs Q E hr h => ?_
  obtain ⟨a, b, d, L, TT, rfl, ⟨xs, ha, dss⟩, wf, hd, q⟩ := h
  refine ⟨_, (pss_cons (ps_set (i := 1) sc_law_most.nd rfl (Or.inl rfl) pe_int) 
    (pss_cons (ps_for PassesOwn.never rfl (pi_tup (pv 0)) (pg_name (i := 2) sc_law_most.nd rfl (Or.inl rfl)) 
      (pss_cons (ps_set (i := 3) sc_law_most.nd rfl (Or.inl rfl) (pe_ix (kix_tup K rfl) (pv 2) pe_int (fun _ _ => rfl))) 
      (pss_cons (ps_set (i := 1) sc_law_most.nd rfl (Or.inl rfl) (pe_op op_add (pv 1) pe_int)) 
      (pss_cons (ps_if (pt_cmpR op_eq (pv 3) pe_str (nomark _)) 
        (pss_cons (ps_set (i := 4) sc_law_most.nd rfl (Or.inl rfl) (C8.pe_c C_law_most hr (by omega) rfl (pa_cons (pe_ix (kix_tup K rfl) (pv 2) pe_int (fun _ _ => rfl)) pa_nil))) 
        (pss_cons (ps_set (i := 5) sc_law_most.nd rfl (Or.inl rfl) (C8.pe_c C_law_most hr (by omega) rfl (pa_cons (pe_ix (kix_tup K rfl) (pv 2) pe_int (fun _ _ => rfl)) pa_nil))) 
        (pss_one (ps_set (i := 1) sc_law_most.nd rfl (Or.inl rfl) (pe_op op_add (pe_op op_add (pv 1) (pv 4)) (pe_op op_mul (pe_op op_sub (pv 5) (pv 4)) (pe_callTy call_int1 (by rfl) T.z_int (by decide +kernel) (pa_cons (pe_cmpR op_gt (pv 5) (pv 4) (nomark _)) pa_nil)))))))) pss_nil) 
      (pss_cons (ps_if (pt_cmpR op_eq (pv 3) pe_str (nomark _)) 
        (pss_cons (ps_set (i := 1) sc_law_most.nd rfl (Or.inl rfl) (pe_op op_add (pv 1) pe_int)) 
        (pss_one (ps_for PassesOwn.never rfl (pi_tup (pe_ix (kix_tup K rfl) (pv 2) pe_int (fun _ _ => rfl))) (pg_name (i := 6) sc_law_most.nd rfl (Or.inl rfl)) (pss_one (ps_set (i := 1) sc_law_most.nd rfl (Or.inl rfl) (pe_op op_add (pv 1) (C8.pe_c C_law_most hr (by omega) rfl (pa_cons (pv 6) pa_nil)))))))) pss_nil) 
      (pss_cons (ps_if (pt_cmpR op_eq (pv 3) pe_str (nomark _)) (pss_one (ps_set (i := 1) sc_law_most.nd rfl (Or.inl rfl) (pe_op op_add (pe_op op_add (pv 1) pe_int) (pe_op op_mul (C8.pe_c C_law_turns hr (by omega) rfl (pa_cons (pe_ix (kix_tup K rfl) (pv 2) pe_int (fun _ _ => rfl)) pa_nil)) (C8.pe_c C_law_most hr (by omega) rfl (pa_cons (pe_ix (kix_tup K rfl) (pv 2) pe_int (fun _ _ => rfl)) pa_nil)))))) pss_nil) 
      (pss_cons (ps_if (pt_cmpR op_eq (pv 3) pe_str (nomark _)) (pss_one (ps_set (i := 1) sc_law_most.nd rfl (Or.inl rfl) (pe_op op_add (pe_op op_add (pv 1) pe_int) (pe_callB (call_max2 rfl) (by rfl) T.z_max (by decide +kernel) (pa_cons pe_int (pa_cons (pe_op op_sub (pe_op op_mul pe_int (C8.pe_c C_law_turns hr (by omega) rfl (pa_cons (pe_ix (kix_tup K rfl) (pv 2) pe_int (fun _ _ => rfl)) pa_nil))) pe_int) pa_nil)))))) pss_nil) 
      (pss_one (ps_if (pt_cmpR op_eq (pv 3) pe_str (nomark _)) (pss_one (ps_set (i := 1) sc_law_most.nd rfl (Or.inl rfl) (pe_op op_add (pv 1) (C8.pe_c C_law_most hr (by omega) rfl (pa_cons (pe_ix (kix_tup K rfl) (pv 2) pe_int (fun _ _ => rfl)) pa_nil))))) pss_nil))))))))) 
    (pss_one (ps_ret (pv 1))))), ?_⟩
  refine ⟨_, rfl, a, rfl, ⟨_, SqT.of ha⟩, for_tup (xs := xs) (fun i σ G => (∃ (t : Int) (c2 c3 c4 c5 c6 : Option V), σ = [some (.ref a), some (.int t), c2, c3, c4, c5, c6]) ∧ Same H G) ⟨⟨_, _, _, _, _, _, rfl⟩, Same.refl _⟩ (fun i σ G _ h => SqT.of (h.2 _ _ ha)) (fun i v σ G hx h => ?_) fun σ G h => ?_⟩
  · obtain ⟨⟨t, c2, c3, c4, c5, c6, rfl⟩, sG⟩ := h
    obtain ⟨st, hst, ds⟩ := (dss.mono (Tk.same sG)).get hx
    have wfs := wf.at hst
    cases st with
    | set y e =>
      obtain ⟨p, ve, rfl, hp, de⟩ := ds
      exact ⟨_, rfl, _, _, _, _, rfl, rfl, SqT.of hp, at0, _, rfl, _, _, rfl, rfl, _, rfl, rfl, _, rfl, iteDF (by decide) ⟨_, rfl, rfl, _, rfl, iteDF (by decide) ⟨_, rfl, rfl, _, rfl, iteDF (by decide) ⟨_, rfl, rfl, _, rfl, iteDF (by decide) ⟨_, rfl, rfl, _, rfl, iteDF (by decide) ⟨⟨_, _, _, _, _, _, rfl⟩, sG⟩⟩⟩⟩⟩⟩
    | add y o e =>
      obtain ⟨p, ve, rfl, hp, de⟩ := ds
      exact ⟨_, rfl, _, _, _, _, rfl, rfl, SqT.of hp, at0, _, rfl, _, _, rfl, rfl, _, rfl, rfl, _, rfl, iteDF (by decide) ⟨_, rfl, rfl, _, rfl, iteDF (by decide) ⟨_, rfl, rfl, _, rfl, iteDF (by decide) ⟨_, rfl, rfl, _, rfl, iteDF (by decide) ⟨_, rfl, rfl, _, rfl, iteDF (by decide) ⟨⟨_, _, _, _, _, _, rfl⟩, sG⟩⟩⟩⟩⟩⟩
    | wait y =>
      obtain ⟨p, rfl, hp⟩ := ds
      exact ⟨_, rfl, _, _, _, _, rfl, rfl, SqT.of hp, at0, _, rfl, _, _, rfl, rfl, _, rfl, rfl, _, rfl, iteDF (by decide) ⟨_, rfl, rfl, _, rfl, iteDF (by decide) ⟨_, rfl, rfl, _, rfl, iteDF (by decide) ⟨_, rfl, rfl, _, rfl, iteDF (by decide) ⟨_, rfl, rfl, _, rfl, iteDF (by decide) ⟨⟨_, _, _, _, _, _, rfl⟩, sG⟩⟩⟩⟩⟩⟩
    | cond e b1 b2 =>
      obtain ⟨p, ve, vb, vc, xb, xc, rfl, hp, de, hvb, d1, hvc, d2⟩ := ds
      have d0 : 0 < d := wfs.2.1
      refine ⟨_, rfl, _, _, _, _, rfl, rfl, SqT.of hp, at0, _, rfl, _, _, rfl, rfl, _, rfl, rfl, _, rfl, iteD (by decide) ⟨_, rfl, _, _, _, _, rfl, rfl, SqT.of hp, at2, vb, b1, d - 1, L, _, rfl, ⟨xb, hvb, d1⟩, wfs.2.2.2.1, by omega, fun H1 t1 s1 => ?_⟩⟩
      have hp1 := s1 _ _ hp
      refine ⟨_, rfl, _, _, _, _, rfl, rfl, SqT.of hp1, at3, vc, b2, d - 1, L, _, rfl, ⟨xc, s1 _ _ hvc, d2.mono (Tk.same s1)⟩, wfs.2.2.2.2.2, by omega, fun H2 t2 s2 => ?_⟩
      exact ⟨_, rfl, _, rfl, _, _, rfl, rfl, _, rfl, _, rfl, _, _, rfl, rfl, _, rfl, _, rfl, _, _, rfl, rfl, .inr ⟨_, rfl, _, _, rfl, rfl, .inr (bitM _), _, _, rfl, rfl, _, rfl, rfl, _, rfl, iteDF (by decide) ⟨_, rfl, rfl, _, rfl, iteDF (by decide) ⟨_, rfl, rfl, _, rfl, iteDF (by decide) ⟨_, rfl, rfl, _, rfl, iteDF (by decide) ⟨⟨_, _, _, _, _, _, rfl⟩, sG.trans (s1.trans s2)⟩⟩⟩⟩⟩⟩
    | fork bs =>
      obtain ⟨p, vb, xb, rfl, hp, hvb, dbs⟩ := ds
      have d0 : 0 < d := wfs.1
      refine ⟨_, rfl, _, _, _, _, rfl, rfl, SqT.of hp, at0, _, rfl, _, _, rfl, rfl, _, rfl, rfl, _, rfl, iteDF (by decide) ⟨_, rfl, rfl, _, rfl, iteD (by decide) ⟨_, rfl, _, _, rfl, rfl, ?_⟩⟩⟩
      refine ⟨_, rfl, _, _, _, _, rfl, rfl, SqT.of hp, at1, vb, rfl, ⟨_, SqT.of hvb⟩, for_tup (xs := xb) (fun j σ G2 => (∃ (t : Int) (c6 : Option V), σ = [some (.ref a), some (.int t), some (.ref p), some (.str "fork"), c4, c5, c6]) ∧ Same G G2) ⟨⟨_, _, rfl⟩, Same.refl _⟩ (fun j σ G2 _ h => SqT.of (h.2 _ _ hvb)) (fun j v σ G2 hx2 h => ?_) fun σ G2 h => ?_⟩
      · obtain ⟨⟨t2, c6, rfl⟩, s2⟩ := h
        obtain ⟨bj, aj, hbj, rfl, dbj⟩ := (dbs.mono (Tk.same s2)).get hx2
        exact ⟨_, rfl, _, rfl, aj, bj, d - 1, L, _, rfl, dbj, (wfs.2.2.2.at hbj).2, by omega, fun H3 t3 s3 => ⟨_, _, rfl, rfl, ⟨_, _, rfl⟩, s2.trans s3⟩⟩
      · obtain ⟨⟨t2, c6, rfl⟩, s2⟩ := h
        exact ⟨_, rfl, rfl, _, rfl, iteDF (by decide) ⟨_, rfl, rfl, _, rfl, iteDF (by decide) ⟨_, rfl, rfl, _, rfl, iteDF (by decide) ⟨⟨_, _, _, _, _, _, rfl⟩, sG.trans s2⟩⟩⟩⟩
    | each y e b1 =>
      obtain ⟨p, ve, vb, xb, rfl, hp, de, hvb, d1⟩ := ds
      have d0 : 0 < d := wfs.2.2.1
      refine ⟨_, rfl, _, _, _, _, rfl, rfl, SqT.of hp, at0, _, rfl, _, _, rfl, rfl, _, rfl, rfl, _, rfl, iteDF (by decide) ⟨_, rfl, rfl, _, rfl, iteDF (by decide) ⟨_, rfl, rfl, _, rfl, iteD (by decide) ⟨_, rfl, _, _, rfl, rfl, _, rfl, _, _, _, _, rfl, rfl, SqT.of hp, at2, ve, e, L, rfl, de, wfs.2.1.1, fun m m0 m6 => ?_⟩⟩⟩⟩
      exact ⟨_, rfl, _, _, _, _, rfl, rfl, SqT.of hp, at3, vb, b1, d - 1, _, _, rfl, ⟨xb, hvb, d1⟩, wfs.2.2.2.2, by omega, fun H1 t1 s1 => ⟨_, _, rfl, rfl, .inl ⟨by omega, by omega⟩, _, _, rfl, rfl, _, rfl, rfl, _, rfl, iteDF (by decide) ⟨_, rfl, rfl, _, rfl, iteDF (by decide) ⟨⟨_, _, _, _, _, _, rfl⟩, sG.trans s1⟩⟩⟩⟩
    | fold y o i e l =>
      obtain ⟨p, ve, vl, rfl, hp, de, dl⟩ := ds
      refine ⟨_, rfl, _, _, _, _, rfl, rfl, SqT.of hp, at0, _, rfl, _, _, rfl, rfl, _, rfl, rfl, _, rfl, iteDF (by decide) ⟨_, rfl, rfl, _, rfl, iteDF (by decide) ⟨_, rfl, rfl, _, rfl, iteDF (by decide) ⟨_, rfl, rfl, _, rfl, iteD (by decide) ⟨_, rfl, _, _, rfl, rfl, _, rfl, _, _, _, _, rfl, rfl, SqT.of hp, at4, ve, e, L, rfl, de, wfs.2.2.2.1.1, fun m m0 m6 => ?_⟩⟩⟩⟩⟩
      exact ⟨_, _, rfl, rfl, .inl ⟨by decide, by decide⟩, _, _, rfl, rfl, _, _, rfl, _, _, rfl, rfl, _, rfl, rfl, _, rfl, iteDF (by decide) ⟨⟨_, _, _, _, _, _, rfl⟩, sG⟩⟩
    | start y b1 =>
      obtain ⟨p, vb, xb, rfl, hp, hvb, d1⟩ := ds
      have d0 : 0 < d := wfs.2.1
      exact ⟨_, rfl, _, _, _, _, rfl, rfl, SqT.of hp, at0, _, rfl, _, _, rfl, rfl, _, rfl, rfl, _, rfl, iteDF (by decide) ⟨_, rfl, rfl, _, rfl, iteDF (by decide) ⟨_, rfl, rfl, _, rfl, iteDF (by decide) ⟨_, rfl, rfl, _, rfl, iteDF (by decide) ⟨_, rfl, rfl, _, rfl, iteD (by decide) ⟨_, rfl, _, rfl, _, _, _, _, rfl, rfl, SqT.of hp, at2, vb, b1, d - 1, _, _, rfl, ⟨xb, hvb, d1⟩, wfs.2.2.2, by omega, fun H1 t1 s1 => ⟨_, _, rfl, rfl, ⟨_, _, _, _, _, _, rfl⟩, sG.trans s1⟩⟩⟩⟩⟩⟩⟩
  · obtain ⟨⟨t, c2, c3, c4, c5, c6, rfl⟩, sG⟩ := h
    exact ⟨_, rfl, q G t sG⟩
theorem ok_law_most (T : Txt w K mg) (C_law_turns : C8.Cal P w K mg base 1 "_law_turns" spLTurns []) : ∀ n : Nat, C8.Cal P w K mg base (1 + n) "_law_most" (spLMost n) []
  | 0 => T.f_law_most.none fun vs H Q E h => by
    obtain ⟨_, _, _, _, _, _, _, _, h, _⟩ := h
    omega
  | n + 1 => law_most_1 (k := 1 + n) T (by omega) C_law_turns (ok_law_most T C_law_turns n)
def spLProg (K : PySem.W.Frag) : Sp := fun vs H Q _ => ∃ (sa pa : Addr) (xs : List Int) (ns : List Str), vs = [.ref sa, .int 1, .ref pa, .int 60] ∧ SqL K H sa (xs.map V.int) ∧ xs.length ≤ 63 ∧ Nms H ns pa ∧ 0 < ns.length ∧ ∀ H' ba b, Same H H' → DB H' b ba → POk b → Q (.ref ba) H'
theorem sc_law_program : FnScope ["_law_script", "_law_k", "_law_pool_here", "_law_most_here", "_law_block_here", "_law_turn"] ["_law_script", "_law_k", "_law_pool_here", "_law_most_here"] (defScope s_law_program) := ⟨rfl, rfl, rfl, by decide +kernel, rfl, by decide +kernel, by decide +kernel⟩
theorem ok_law_program (T : Txt w K mg) (C_law_stream : C8.Cal P w K mg base 2 "_law_stream" (spLStream K) []) (C_law_block : C8.Cal P w K mg base 12 "_law_block" (spGBlk 4) []) (C_law_most : C8.Cal P w K mg base 5 "_law_most" (spLMost 4) []) : C8.Cal P w K mg base 13 "_law_program" (spLProg K) [] := by
  refine T.f_law_program.cal sc_law_program (fun vs H Q E h => by obtain ⟨_, _, _, _, rfl, _⟩ := h; rfl) fun f cdv A outer s H vs Q E hr h => ?_
  obtain ⟨sa, pa, xs, ns, rfl, hx, lx, hp, np, q⟩ := h
  refine ⟨_, (pss_cons (ps_set (i := 4) sc_law_program.nd rfl (Or.inl rfl) (pe_ix (kix_tup K rfl) (C8.pe_c C_law_block hr (by omega) rfl (pa_cons (C8.pe_c C_law_stream hr (by omega) rfl (pa_cons (pv 0) (pa_cons (pv 1) (pa_cons pe_int pa_nil)))) (pa_cons pe_int (pa_cons (pv 2) (pa_cons (pe_lst pa_nil) (pa_cons (pe_lst pa_nil) (pa_cons pe_int pa_nil))))))) pe_int (fun _ _ => rfl))) 
    (pss_cons (ps_for PassesOwn.never rfl (pi_range1 rfl T.z_range (pa_cons pe_int pa_nil)) (pg_name (i := 5) sc_law_program.nd rfl (Or.inl rfl)) (pss_one (ps_if (pt_cmpR op_gt (C8.pe_c C_law_most hr (by omega) rfl (pa_cons (pv 4) pa_nil)) (pv 3) (nomark _)) (pss_one (ps_set (i := 4) sc_law_program.nd rfl (Or.inl rfl) (pe_slice (ksl_tup K rfl) (pv 4) po_none (po_some (pe_un un_neg pe_int))))) pss_nil))) 
    (pss_one (ps_ret (pv 4))))), ?_⟩
  refine ⟨_, rfl, _, rfl, sa, xs, 1, rfl, hx, lx, by decide, fun H1 r1 ss s1 hs => ?_⟩
  refine ⟨_, rfl, Nat.zero_le _, fun la hla => ⟨Nat.zero_le _, fun ta hta => ?_⟩⟩
  have s2 := same_new hla (.lst [])
  have s3 := same_new hta (.lst [])
  have hla3 := s3 _ _ (upd_same : upd H1 la (.lst []) la = _)
  have hta3 : upd (upd H1 la (.lst [])) ta (.lst []) ta = some (.lst []) := upd_same
  have s23 := s2.trans s3
  generalize upd (upd H1 la (.lst [])) ta (.lst []) = H3 at hla3 hta3 s23
  have s03 := s1.trans s23
  refine ⟨r1, pa, la, ta, ss, ns, [], [], 0, 3, rfl, hs.same s23, hp.same s03, np, ⟨hla3, fun y hy => by cases hy⟩, ⟨hta3, fun y hy => by cases hy⟩, by decide, by decide, by decide, by decide, fun H4 r4 ba b a4 s4 hr4 db wf lb => ?_⟩
  refine ⟨_, _, _, _, rfl, rfl, SqT.of hr4, at0, 8, rfl, by decide, by decide, ?_⟩
  have s04 := s03.trans s4
  show ∃ W : Nat → Nat → L2.St → Hp → Prop, _
  refine for_range (lo := 0) (n := 8) (fun i σ G => (∃ (ba : Addr) (b : List Stm) (c5 : Option V), σ = [some (.ref sa), some (.int 1), some (.ref pa), some (.int 60), some (.ref ba), c5] ∧ DB G b ba ∧ WFB 3 [] [] b ∧ b.length ≤ 6) ∧ Same H G)
    ⟨⟨ba, b, _, rfl, db, wf, lb⟩, s04⟩ (fun i σ G hi h => ?_) fun σ G h => ?_
  · obtain ⟨⟨ba, b, c5, rfl, db, wf, lb⟩, sG⟩ := h
    refine ⟨_, rfl, ba, b, 3, [], [], rfl, db, wf, by decide, fun G2 t s5 => ⟨_, rfl, _, _, rfl, rfl, _, rfl, ?_⟩⟩
    have db2 := db.mono (Tk.same s5)
    by_cases c : t > 60
    · obtain ⟨xv, hxv, dsx⟩ := db2
      refine iteD c ⟨_, rfl, 1, rfl, _, rfl, ba, xv, rfl, SqT.of hxv, fun _ => ⟨⟨ba, b, _, rfl, ⟨xv, hxv, dsx⟩, wf, lb⟩, sG.trans s5⟩, fun _ p hp2 => ?_⟩
      have s6 := same_new hp2 (.tup (cutV xv none (some (-1))))
      have ek : ∃ k, cutV xv none (some (-1)) = xv.take k := ⟨_, by unfold cutV; rw [HT.sIx_none, List.drop_zero]⟩
      obtain ⟨k, ek⟩ := ek
      refine ⟨⟨p, b.take k, _, rfl, ⟨xv.take k, by rw [← ek]; exact upd_same, DSs.take (dsx.mono (Tk.same s6)) k⟩, wf.take k, by rw [List.length_take]; omega⟩, sG.trans (s5.trans s6)⟩
    · exact iteDF c ⟨⟨ba, b, _, rfl, db2, wf, lb⟩, sG.trans s5⟩
  · obtain ⟨⟨ba, b, c5, rfl, db, wf, lb⟩, sG⟩ := h
    exact ⟨_, rfl, q G ba b sG db ⟨lb, wf⟩⟩
end
end K11
set_option Elab.async false
set_option linter.all false
set_option maxRecDepth 100000
set_option maxHeartbeats 4000000
namespace K11
open PySem PySem.Spec PyProof.Rows L2
/-! ### words put in their places, plainly -/
def ltS (a b : Str) : Prop := a.cps.toList < b.cps.toList
instance (a b : Str) : Decidable (ltS a b) := inferInstanceAs (Decidable (a.cps.toList < b.cps.toList))
theorem ltS_trans {a b c : Str} (h1 : ltS a b) (h2 : ltS b c) : ltS a c := List.lt_trans h1 h2
theorem ltS_irrefl (a : Str) : ¬ ltS a a := List.lt_irrefl _
theorem str_ext2 {a b : Str} (h : a.cps.toList = b.cps.toList) : a = b := by
  cases a with
  | mk x =>
    cases b with
    | mk y =>
      have : x = y := Array.ext' h
      rw [this]
theorem ltS_of {a b : Str} (h : ¬ ltS a b) (n : a ≠ b) : ltS b a := by
  by_cases h2 : ltS b a
  · exact h2
  · exact absurd (str_ext2 (List.le_antisymm (List.not_lt.mp h2) (List.not_lt.mp h))) n
def Sorted (ws : List (Str × Int)) : Prop := ws.Pairwise fun p q => ltS p.1 q.1
def cnt (x : Str) (ws : List (Str × Int)) : Nat := (ws.filter fun p => decide (ltS p.1 x)).length
theorem cnt_le (x : Str) (ws : List (Str × Int)) : cnt x ws ≤ ws.length := List.length_filter_le _ _
theorem cnt_take {x : Str} {ws : List (Str × Int)} {i : Nat} {p : Str × Int} (h : ws[i]? = some p) : cnt x (ws.take (i + 1)) = cnt x (ws.take i) + (if ltS p.1 x then 1 else 0) := by
  unfold cnt
  rw [List.take_succ, h, List.filter_append, List.length_append]
  congr 1
  by_cases c : ltS p.1 x
  · rw [if_pos c, show (some p).toList = [p] from rfl, List.filter_cons_of_pos (p := fun p : Str × Int => decide (ltS p.1 x)) (decide_eq_true c)]; rfl
  · rw [if_neg c, show (some p).toList = [p] from rfl, List.filter_cons_of_neg (by rw [decide_eq_false c]; exact Bool.false_ne_true)]; rfl
def insW (x : Str) (v : Int) (ws : List (Str × Int)) : List (Str × Int) := ws.take (cnt x ws) ++ [(x, v)] ++ ws.drop (cnt x ws)
theorem cnt_zero {x : Str} {ws : List (Str × Int)} (h : ∀ p ∈ ws, ¬ ltS p.1 x) : cnt x ws = 0 := by
  unfold cnt
  rw [List.length_eq_zero_iff, List.filter_eq_nil_iff]
  intro p hp
  rw [decide_eq_true_eq]
  exact h p hp
theorem mem_insW {x : Str} {v : Int} {ws : List (Str × Int)} {p : Str × Int} (h : p ∈ insW x v ws) : p = (x, v) ∨ p ∈ ws := by
  unfold insW at h
  rcases List.mem_append.mp h with h | h
  · rcases List.mem_append.mp h with h | h
    · exact .inr (List.mem_of_mem_take h)
    · exact .inl (List.mem_singleton.mp h)
  · exact .inr (List.mem_of_mem_drop h)
theorem len_insW (x : Str) (v : Int) (ws : List (Str × Int)) : (insW x v ws).length = ws.length + 1 := by
  have := cnt_le x ws
  unfold insW
  rw [List.length_append, List.length_append, List.length_take, List.length_drop, List.length_singleton]
  omega
theorem insW_sorted {x : Str} {v : Int} : ∀ {ws : List (Str × Int)}, Sorted ws → (∀ p ∈ ws, p.1 ≠ x) → Sorted (insW x v ws)
  | [], _, _ => by
    show List.Pairwise _ [(x, v)]
    exact List.pairwise_singleton _ _
  | p :: r, h, hx => by
    obtain ⟨h1, h2⟩ := List.pairwise_cons.mp h
    by_cases c : ltS p.1 x
    · have ec : cnt x (p :: r) = cnt x r + 1 := by
        unfold cnt
        rw [List.filter_cons_of_pos (p := fun p : Str × Int => decide (ltS p.1 x)) (decide_eq_true c), List.length_cons]
      have e : insW x v (p :: r) = p :: insW x v r := by
        unfold insW
        rw [ec]
        rfl
      rw [e]
      refine List.pairwise_cons.mpr ⟨fun q hq => ?_, insW_sorted h2 fun q hq => hx q (List.mem_cons_of_mem _ hq)⟩
      rcases mem_insW hq with rfl | hq
      · exact c
      · exact h1 q hq
    · have lt := ltS_of c (hx p List.mem_cons_self)
      have ec : cnt x (p :: r) = 0 := cnt_zero fun q hq => by
        rcases List.mem_cons.mp hq with rfl | hq
        · exact c
        · exact fun z => ltS_irrefl x (ltS_trans lt (ltS_trans (h1 q hq) z))
      have e : insW x v (p :: r) = (x, v) :: p :: r := by
        unfold insW
        rw [ec]
        rfl
      rw [e]
      refine List.pairwise_cons.mpr ⟨fun q hq => ?_, h⟩
      rcases List.mem_cons.mp hq with rfl | hq
      · exact lt
      · exact ltS_trans lt (h1 q hq)
theorem wordsOk_of {ws : List (Str × Int)} (h : Sorted ws) (hp : ∀ p ∈ ws, PairOk p) (hl : ws.length ≤ 5) : WordsOk ws := by
  refine ⟨hp, fun i p q e1 e2 => ?_, hl⟩
  obtain ⟨h1, rfl⟩ := List.getElem?_eq_some_iff.mp e1
  obtain ⟨h2, rfl⟩ := List.getElem?_eq_some_iff.mp e2
  exact List.pairwise_iff_getElem.mp h i (i + 1) h1 h2 (by omega)
theorem DPs.ins {H : Hp} : ∀ {ws : List (Str × Int)} {vs : List V} {p : Str × Int} {v : V} (k : Nat), DPs H ws vs → DP H p v → DPs H (ws.take k ++ [p] ++ ws.drop k) (vs.take k ++ [v] ++ vs.drop k)
  | [], _, p, v, k, h, hp => by
    rw [show _ = _ from h]
    rw [List.take_nil, List.drop_nil, List.take_nil, List.drop_nil]
    exact ⟨v, [], rfl, hp, rfl⟩
  | _ :: _, _, p, v, 0, ⟨u, r, e, h, d⟩, hp => by subst e; exact ⟨v, _, rfl, hp, u, r, rfl, h, d⟩
  | _ :: _, _, p, v, k + 1, ⟨u, r, e, h, d⟩, hp => by subst e; exact ⟨u, _, rfl, h, DPs.ins k d hp⟩
end K11
set_option Elab.async false
set_option linter.all false
set_option maxRecDepth 100000
set_option maxHeartbeats 4000000
namespace K11
open PySem PySem.Spec PyProof.Rows L2
section
variable {P : Program} {w : World} {K : PySem.W.Frag} {mg : Str → Option Value} {base : Heap}
def spLWords (K : PySem.W.Frag) : Sp := fun vs H Q _ => ∃ (sa pa : Addr) (xs : List Int) (ns : List Str) (k : Nat), vs = [.ref sa, .int (k : Int), .ref pa] ∧ SqL K H sa (xs.map V.int) ∧ xs.length ≤ 63 ∧ k ≤ 1000 ∧ H pa = some (.lst (ns.map V.str)) ∧ PoolOk ns ∧ ∀ H' wa ws, Same H H' → DW H' ws wa → WordsOk ws → Q (.ref wa) H'
theorem sc_law_words : FnScope ["_law_script", "_law_k", "_law_pool_here", "_law_drawn", "_law_words_here", "_law_j", "_law_value_here", "_law_at", "_law_pair"] ["_law_script", "_law_k", "_law_pool_here"] (defScope s_law_words) := ⟨rfl, rfl, rfl, by decide +kernel, rfl, by decide +kernel, by decide +kernel⟩
theorem ok_law_words (T : Txt w K mg) (C_law_draws : C8.Cal P w K mg base 1 "_law_draws" (spLDraws K) []) : C8.Cal P w K mg base 2 "_law_words" (spLWords K) [] := by
  refine T.f_law_words.cal sc_law_words (fun vs H Q E h => by obtain ⟨_, _, _, _, _, rfl, _⟩ := h; rfl) fun f cdv A outer s H vs Q E hr h => ?_
  obtain ⟨sa, pa, xs, ns, k, rfl, hx, lx, lk, hp, po, q⟩ := h
  refine ⟨_, (pss_cons (ps_set (i := 3) sc_law_words.nd rfl (Or.inl rfl) (C8.pe_c C_law_draws hr (by omega) rfl (pa_cons (pv 0) (pa_cons (pv 1) (pa_cons (pe_op op_rep (pe_lst (pa_cons pe_int (pa_cons pe_int pa_nil))) pe_int) pa_nil))))) 
    (pss_cons (ps_set (i := 4) sc_law_words.nd rfl (Or.inl rfl) (pe_lst pa_nil)) 
    (pss_cons (ps_for PassesOwn.never rfl (pi_range1 rfl T.z_range (pa_cons (pe_callB (klen_seq K rfl) (by rfl) T.z_len (by decide +kernel) (pa_cons (pv 2) pa_nil)) pa_nil)) (pg_name (i := 5) sc_law_words.nd rfl (Or.inl rfl)) 
      (pss_cons (ps_set (i := 6) sc_law_words.nd rfl (Or.inl rfl) (pe_ix (kix_list K rfl) (pe_lst (pa_cons pe_int (pa_cons (pe_op op_mod (pe_callTy call_int1 (by rfl) T.z_int (by decide +kernel) (pa_cons (pe_ix (kix_list K rfl) (pv 3) (pe_op op_add (pe_op op_mul pe_int (pv 5)) pe_int) (fun _ _ => rfl)) pa_nil)) pe_int) (pa_cons (pe_op op_add pe_int (pe_ix (kix_list K rfl) (pv 3) (pe_op op_add (pe_op op_mul pe_int (pv 5)) pe_int) (fun _ _ => rfl))) pa_nil)))) (pe_ix (kix_list K rfl) (pv 3) (pe_op op_mul pe_int (pv 5)) (fun _ _ => rfl)) (fun _ _ => rfl))) 
      (pss_cons (ps_set (i := 7) sc_law_words.nd rfl (Or.inl rfl) pe_int) 
      (pss_cons (ps_for PassesOwn.never rfl (pi_list (pv 4)) (pg_name (i := 8) sc_law_words.nd rfl (Or.inl rfl)) (pss_one (ps_if (pt_cmpR op_lt_str (pe_ix (kix_tup K rfl) (pv 8) pe_int (fun _ _ => rfl)) (pe_ix (kix_list K rfl) (pv 2) (pv 5) (fun _ _ => rfl)) (nomark _)) (pss_one (ps_set (i := 7) sc_law_words.nd rfl (Or.inl rfl) (pe_op op_add (pv 7) pe_int))) pss_nil))) 
      (pss_one (ps_if (pt_cmpR op_gt (pv 6) pe_int (nomark _)) (pss_one (ps_expr (pe_bm PySem.F.plainAttrs_list PySem.F.slot_list_insert PySem.F.type_list_insert mt_insert (pv 4) (pa_cons (pv 7) (pa_cons (pe_tup (pa_cons (pe_ix (kix_list K rfl) (pv 2) (pv 5) (fun _ _ => rfl)) (pa_cons (pv 6) pa_nil))) pa_nil))))) pss_nil)))))) 
    (pss_one (ps_ret (pe_callTy (ktuple_of K rfl) (by rfl) T.z_tuple (by decide +kernel) (pa_cons (pv 4) pa_nil))))))), ?_⟩
  have ln := po.len
  refine ⟨_, rfl, _, rfl, le_line (by show 2 ≤ 1000; decide), fun p1 hp1 => ?_⟩
  have s1 := same_new hp1 (.lst [V.int 3, V.int 1000002])
  have hp11 : upd H p1 (.lst [V.int 3, V.int 1000002]) p1 = some (.lst [V.int 3, V.int 1000002]) := upd_same
  generalize upd H p1 (.lst [V.int 3, V.int 1000002]) = H1 at s1 hp11
  refine ⟨p1, 5, _, rfl, rfl, hp11, by decide, by decide, le_line (by show 2 * 5 ≤ 1000; decide), fun p2 hp2 => ?_⟩
  have s2 := same_new hp2 (.lst (List.replicate ((5 : Int)).toNat [V.int 3, V.int 1000002]).flatten)
  have s02 := s1.trans s2
  refine ⟨sa, p2, xs, [3, 1000002, 3, 1000002, 3, 1000002, 3, 1000002, 3, 1000002], k, rfl, s02.seq hx, lx, lk, upd_same, by decide, by decide, fun H3 r3 ds s3 hr3 dr => ?_⟩
  have s03 := s02.trans s3
  clear s1 s2 hp1 hp2 hp11
  have l10 : ds.length = 10 := dr.1
  refine ⟨Nat.zero_le _, fun D hD => ⟨_, rfl, _, _, rfl, .inl (SqL.of ((same_new hD (.lst [])) _ _ (s03 _ _ hp))), _, rfl, by rw [List.length_map, ln]; decide, by rw [List.length_map, ln]; decide, ?_⟩⟩
  have s4 := same_new hD (.lst [])
  have hD4 : upd H3 D (.lst []) D = some (.lst []) := upd_same
  generalize upd H3 D (.lst []) = H4 at s4 hD4
  rw [show (((ns.map V.str).length : Nat) : Int).toNat = 5 by rw [List.length_map, ln]; rfl]
  have s04 := s03.trans s4
  have hr4 := s4 _ _ hr3
  have hp4 := s04 _ _ hp
  have npD : pa ≠ D := fun z => by rw [z] at hp; rw [s03 _ _ hp] at hD; cases hD
  have nrD : r3 ≠ D := fun z => by rw [z, hD] at hr3; cases hr3
  have fD : H D = none := by
    cases z : H D with
    | none => rfl
    | some o => rw [s03 _ _ z] at hD; cases hD
  refine for_range (lo := 0) (n := 5) (fun i σ G => (∃ (c5 c6 c7 c8 : Option V), σ = [some (.ref sa), some (.int (k : Int)), some (.ref pa), some (.ref r3), some (.ref D), c5, c6, c7, c8]) ∧ Kp [D] H4 G ∧ ∃ (ws : List (Str × Int)) (vs : List V), G D = some (.lst vs) ∧ DPs G ws vs ∧ Sorted ws ∧ ws.length ≤ i ∧ (∀ p ∈ ws, PairOk p) ∧ ∀ p ∈ ws, ∃ j : Nat, j < i ∧ ns[j]? = some p.1)
    ⟨⟨_, _, _, _, rfl⟩, Kp.refl _ _, [], [], hD4, rfl, List.Pairwise.nil, Nat.le_refl _, (fun p h => by cases h), fun p h => by cases h⟩ (fun i σ G hi h => ?_) fun σ G h => ?_
  · obtain ⟨⟨c5, c6, c7, c8, rfl⟩, kG, ws, vs, hv, dps, srt, lws, okw, frm⟩ := h
    have z0 : (0 : Int) + (i : Nat) = (i : Int) := by omega
    rw [z0]
    have hrG := kG _ _ hr4 (by rw [List.mem_singleton]; exact nrD)
    have hpG := kG _ _ hp4 (by rw [List.mem_singleton]; exact npD)
    have lvs := dps.length
    obtain ⟨d0, e0⟩ : ∃ d, ds[2 * i]? = some d := ⟨_, List.getElem?_eq_getElem (by omega)⟩
    obtain ⟨d1, e1⟩ : ∃ d, ds[2 * i + 1]? = some d := ⟨_, List.getElem?_eq_getElem (by omega)⟩
    have hb : ∀ i < 5, ([3, 1000002, 3, 1000002, 3, 1000002, 3, 1000002, 3, 1000002] : List Int)[2 * i]? = some 3 ∧ ([3, 1000002, 3, 1000002, 3, 1000002, 3, 1000002, 3, 1000002] : List Int)[2 * i + 1]? = some 1000002 := by decide
    have b0 := dr.2 (2 * i) d0 3 e0 (hb i hi).1
    have b1 := dr.2 (2 * i + 1) d1 1000002 e1 (hb i hi).2
    have a0 : atI (ds.map V.int) (2 * (i : Int)) = some (.int d0) := by
      rw [show 2 * (i : Int) = ((2 * i : Nat) : Int) by omega]
      exact atI_nat (by rw [List.getElem?_map, e0]; rfl)
    have a1 : atI (ds.map V.int) (2 * (i : Int) + 1) = some (.int d1) := by
      rw [show 2 * (i : Int) + 1 = ((2 * i + 1 : Nat) : Int) by omega]
      exact atI_nat (by rw [List.getElem?_map, e1]; rfl)
    have hi5 : i < ns.length := by omega
    have ex : ns[i]? = some ns[i] := List.getElem?_eq_getElem hi5
    have okx := po.ok ns[i] (List.getElem_mem hi5)
    have notx : ∀ p ∈ ws, p.1 ≠ ns[i] := fun p hp2 e => by
      obtain ⟨j, hj, ej⟩ := frm p hp2
      have hj5 : j < ns.length := by omega
      rw [List.getElem?_eq_getElem hj5] at ej
      have ee := Option.some.inj ej
      exact List.pairwise_iff_getElem.mp po.nd j i hj5 hi5 hj (ee.trans e)
    generalize ns[i] = x at ex okx notx
    have ax : atI (ns.map V.str) (i : Int) = some (.str x) := atI_nat (by rw [List.getElem?_map, ex]; rfl)
    have b2 : (2 : Int) > -(2 ^ 64) ∧ (2 : Int) < 2 ^ 64 := by decide
    refine ⟨_, rfl, _, rfl, _, _, rfl, rfl, .inl b2, _, _, rfl, rfl, _, _, _, _, rfl, rfl, SqL.of hrG, a1, .inl ⟨_, rfl, _, _, rfl, rfl, (by show (0 : Int) < 9; decide), _, rfl, _, rfl, _, _, rfl, rfl, .inl b2, _, _, rfl, rfl, _, _, _, _, rfl, rfl, SqL.of hrG, a1, _, _, rfl, rfl, le_line (by show 3 ≤ 1000; decide), fun p5 hp5 => ?_⟩⟩
    have s5 := same_new hp5 (.lst [V.int 0, V.int (d1 % 9), V.int (1 + d1)])
    have hp51 : upd G p5 (.lst [V.int 0, V.int (d1 % 9), V.int (1 + d1)]) p5 = some (.lst [V.int 0, V.int (d1 % 9), V.int (1 + d1)]) := upd_same
    generalize upd G p5 (.lst [V.int 0, V.int (d1 % 9), V.int (1 + d1)]) = G5 at s5 hp51
    obtain ⟨v, av, v0, v1⟩ : ∃ v : Int, atI [V.int 0, V.int (d1 % 9), V.int (1 + d1)] d0 = some (.int v) ∧ 0 ≤ v ∧ v < 1000003 := by
      rcases (show d0 = 0 ∨ d0 = 1 ∨ d0 = 2 by omega) with rfl | rfl | rfl
      · exact ⟨0, at0, by decide, by decide⟩
      · exact ⟨d1 % 9, at1, by omega, by omega⟩
      · exact ⟨1 + d1, at2, by omega, by omega⟩
    refine ⟨_, rfl, _, rfl, _, _, rfl, rfl, .inl b2, _, _, _, _, rfl, rfl, SqL.of (s5 _ _ hrG), a0, _, _, _, _, rfl, rfl, SqL.of hp51, av, ?_⟩
    have hv5 := s5 _ _ hv
    have dps5 := dps.mono (Tk.same s5)
    have hp55 := s5 _ _ hpG
    have k5 : Kp [D] H4 G5 := kG.trans (Kp.same s5)
    refine ⟨_, rfl, D, rfl, ⟨_, SqL.of hv5⟩, for_list (xs := vs) (fun m σ G2 => (∃ (c8 : Option V), σ = [some (.ref sa), some (.int (k : Int)), some (.ref pa), some (.ref r3), some (.ref D), some (.int (i : Nat)), some (.int v), some (.int (cnt x (ws.take m) : Nat)), c8]) ∧ G2 = G5) ⟨⟨_, rfl⟩, rfl⟩ (fun m σ G2 _ h => by rw [h.2]; exact SqL.of hv5) (fun m u σ G2 hx2 h => ?_) fun σ G2 h => ?_⟩
    · obtain ⟨⟨c8, rfl⟩, rfl⟩ := h
      obtain ⟨p, hpm, t, rfl, ht⟩ := dps5.get hx2
      have ct := cnt_take (x := x) hpm
      refine ⟨_, rfl, _, _, _, _, rfl, rfl, SqT.of ht, at0, _, rfl, _, rfl, _, _, _, _, rfl, rfl, SqL.of hp55, ax, _, _, rfl, rfl, _, rfl, ?_⟩
      by_cases c : ltS p.1 x
      · rw [if_pos c] at ct
        rw [ct]
        exact iteD c ⟨_, rfl, _, _, rfl, rfl, ⟨_, rfl⟩, rfl⟩
      · rw [if_neg c] at ct
        rw [ct]
        exact iteDF c ⟨⟨_, rfl⟩, rfl⟩
    · obtain ⟨⟨c8, rfl⟩, rfl⟩ := h
      rw [List.take_of_length_le (by omega)]
      have cl := cnt_le x ws
      refine ⟨_, rfl, _, _, rfl, rfl, _, rfl, ?_⟩
      by_cases c : v > 0
      · refine iteD c ⟨_, rfl, .inl ⟨rfl, _, SqL.of hv5⟩, _, rfl, _, rfl, _, rfl, _, _, _, _, rfl, rfl, SqL.of hp55, ax, _, rfl, le_line (by show 2 ≤ 1000; decide), fun t ht => ?_⟩
        have s6 := same_new ht (.tup [V.str x, V.int v])
        have hv6 := s6 _ _ hv5
        have dp : DP (upd G2 t (.tup [V.str x, V.int v])) (x, v) (.ref t) := ⟨t, rfl, upd_same⟩
        have dps6 := dps5.mono (Tk.same s6)
        have k6 : Kp [D] H4 (upd G2 t (.tup [V.str x, V.int v])) := k5.trans (Kp.same s6)
        generalize upd G2 t (.tup [V.str x, V.int v]) = G6 at hv6 dp dps6 k6
        have ec : ((cnt x ws : Nat) : Int).toNat = cnt x ws := Int.toNat_natCast _
        refine ⟨D, vs, _, _, rfl, rfl, hv6, lt_line (by omega), by omega, by omega, ?_⟩
        rw [ec]
        have k7 : Tk G6 (upd G6 D (.lst (vs.take (cnt x ws) ++ [V.ref t] ++ vs.drop (cnt x ws)))) := tk_upd fun us e => by rw [hv6] at e; cases e
        refine ⟨⟨_, _, _, _, rfl⟩, k6.trans (Kp.upd (by simp)), insW x v ws, _, upd_same, (DPs.ins (cnt x ws) dps6 dp).mono k7, insW_sorted srt notx, by rw [len_insW]; omega, fun p hp2 => ?_, fun p hp2 => ?_⟩
        · rcases mem_insW hp2 with rfl | h
          · exact ⟨okx, c, v1⟩
          · exact okw p h
        · rcases mem_insW hp2 with rfl | h
          · exact ⟨i, by omega, ex⟩
          · obtain ⟨j, hj, ej⟩ := frm p h
            exact ⟨j, by omega, ej⟩
      · exact iteDF c ⟨⟨_, _, _, _, rfl⟩, k5, ws, vs, hv5, dps5, srt, by omega, okw, fun p hp2 => by
          obtain ⟨j, hj, ej⟩ := frm p hp2
          exact ⟨j, by omega, ej⟩⟩
  · obtain ⟨⟨c5, c6, c7, c8, rfl⟩, kG, ws, vs, hv, dps, srt, lws, okw, frm⟩ := h
    refine ⟨_, rfl, D, vs, rfl, .inl ⟨SqL.of hv, fun l hl2 => ?_⟩⟩
    have s9 := same_new hl2 (.tup vs)
    refine q _ l ws (fun b o e => s9 _ _ (kG _ _ (s04 _ _ e) ?_)) ⟨vs, upd_same, dps.mono (Tk.same s9)⟩ (wordsOk_of srt okw lws)
    rw [List.mem_singleton]
    intro z
    rw [z, fD] at e
    cases e
end
end K11
set_option Elab.async false
set_option linter.all false
set_option maxRecDepth 100000
set_option maxHeartbeats 4000000
namespace K11
open PySem PySem.Spec PyProof.Rows L2
section
variable {P : Program} {w : World} {K : PySem.W.Frag} {mg : Str → Option Value} {base : Heap}
def spLaw (K : PySem.W.Frag) : Sp := fun vs H Q _ => ∃ (a : Addr) (ns : List Int), vs = [.ref a] ∧ SqL K H a (ns.map V.int) ∧ ns.length ≤ 63 ∧ ∀ H', Q (.bl true) H'
theorem wok_nil : WordsOk [] := ⟨(fun p h => by cases h), (fun i p q h => by simp at h), by decide⟩
theorem pok_nil : POk [] := ⟨by decide, trivial⟩
theorem sc_law : FnScope ["_law_script", "_law_pool_here", "_law_program_here", "_law_first", "_law_second", "_law_words_here"] ["_law_script"] (defScope s_law) := ⟨rfl, rfl, rfl, by decide +kernel, rfl, by decide +kernel, by decide +kernel⟩
theorem len_law : ∀ vs H Q E, spLaw K vs H Q E → vs.length = ["_law_script"].length := fun vs H Q E h => by obtain ⟨_, _, rfl, _⟩ := h; rfl
theorem owes_law (T : Txt w K mg) (C_law_pool : C8.Cal P w K mg base 2 "_law_pool" (spLPool K) []) (C_law_program : C8.Cal P w K mg base 13 "_law_program" (spLProg K) []) (C_law_words : C8.Cal P w K mg base 2 "_law_words" (spLWords K) []) (C_law_is_right : C8.Cal P w K mg base 29 "_law_is_right" spLRight [])
    (C_law_equal : C8.Cal P w K mg base 3 "_law_equal" (spLEq 3) []) (K_serial_end : CalK P w K mg base 25 "serial_end" spEnd ["program", "words"]) (C_law_run : C8.Cal P w K mg base 25 "_law_run" spLRun []) : Owes0 P w K mg base 29 ["_law_script", "_law_pool_here", "_law_program_here", "_law_first", "_law_second", "_law_words_here"] "law" s_law (spLaw K) := by
  intro f cdv AR outer s H vs Q E hr h
  obtain ⟨sa, xs, rfl, hx, lx, q⟩ := h
  refine ⟨_, (pss_cons (ps_set (i := 1) sc_law.nd rfl (Or.inl rfl) (C8.pe_c C_law_pool hr (by omega) rfl (pa_cons (pv 0) (pa_cons pe_int (pa_cons pe_int pa_nil))))) 
    (pss_cons (ps_set (i := 2) sc_law.nd rfl (Or.inl rfl) (C8.pe_c C_law_program hr (by omega) rfl (pa_cons (pv 0) (pa_cons pe_int (pa_cons (pv 1) (pa_cons pe_int pa_nil)))))) 
    (pss_cons (ps_set (i := 3) sc_law.nd rfl (Or.inl rfl) (C8.pe_c C_law_words hr (by omega) rfl (pa_cons (pv 0) (pa_cons pe_int (pa_cons (pv 1) pa_nil))))) 
    (pss_cons (ps_set (i := 4) sc_law.nd rfl (Or.inl rfl) (C8.pe_c C_law_words hr (by omega) rfl (pa_cons (pv 0) (pa_cons pe_int (pa_cons (pv 1) pa_nil))))) 
    (pss_cons (ps_for PassesOwn.never rfl (pi_list (pe_lst (pa_cons (pv 3) (pa_cons (pv 4) (pa_cons (pv 3) pa_nil))))) (pg_name (i := 5) sc_law.nd rfl (Or.inl rfl)) (pss_one (ps_if (pt_not (pt_val (C8.pe_c C_law_is_right hr (by omega) rfl (pa_cons (pv 2) (pa_cons (pv 5) pa_nil))))) (pss_one (ps_ret pe_bl)) pss_nil))) 
    (pss_one (ps_ret (pe_and (C8.pe_c C_law_is_right hr (by omega) rfl (pa_cons (pe_tup pa_nil) (pa_cons (pv 3) pa_nil))) (pe_one (C8.pe_c C_law_equal hr (by omega) rfl (pa_cons (pe_cK K_serial_end hr (by omega) rfl (pk_cons (pv 2) (pk_cons (pe_tup pa_nil) pk_nil))) (pa_cons (pe_ix (kix_tup K rfl) (C8.pe_c C_law_run hr (by omega) rfl (pa_cons (pv 2) (pa_cons (pe_tup pa_nil) pa_nil))) pe_int (fun _ _ => rfl)) pa_nil)))))))))))), ?_⟩
  refine ⟨_, rfl, sa, xs, rfl, hx, lx, fun H1 r1 ns s1 hr1 po => ?_⟩
  have pl := po.len
  refine ⟨_, rfl, _, rfl, sa, r1, xs, ns, rfl, s1.seq hx, lx, ⟨hr1, po.ok⟩, by omega, fun H2 ba b s2 db ok => ?_⟩
  have s02 := s1.trans s2
  refine ⟨_, rfl, _, rfl, sa, r1, xs, ns, 10, rfl, s02.seq hx, lx, by decide, s2 _ _ hr1, po, fun H3 w1 ws1 s3 dw1 ok1 => ?_⟩
  have s03 := s02.trans s3
  refine ⟨_, rfl, _, rfl, sa, r1, xs, ns, 11, rfl, s03.seq hx, lx, by decide, s3 _ _ (s2 _ _ hr1), po, fun H4 w2 ws2 s4 dw2 ok2 => ?_⟩
  have db4 := db.mono (Tk.same (s3.trans s4))
  have dw14 := dw1.mono (Tk.same s4)
  refine ⟨_, rfl, _, rfl, _, rfl, le_line (by show 3 ≤ 1000; decide), fun p hp => ?_⟩
  have s5 := same_new hp (.lst [V.ref w1, V.ref w2, V.ref w1])
  have hp5 : upd H4 p (.lst [V.ref w1, V.ref w2, V.ref w1]) p = some (.lst [V.ref w1, V.ref w2, V.ref w1]) := upd_same
  generalize upd H4 p (.lst [V.ref w1, V.ref w2, V.ref w1]) = H5 at s5 hp5
  have db5 := db4.mono (Tk.same s5)
  have dw15 := dw14.mono (Tk.same s5)
  have dw25 := dw2.mono (Tk.same s5)
  refine ⟨p, rfl, ⟨_, SqL.of hp5⟩, for_list (xs := [V.ref w1, V.ref w2, V.ref w1]) (fun i σ G => (∃ c5, σ = [some (.ref sa), some (.ref r1), some (.ref ba), some (.ref w1), some (.ref w2), c5]) ∧ Same H5 G) ⟨⟨_, rfl⟩, Same.refl _⟩ (fun i σ G _ h => SqL.of (h.2 _ _ hp5)) (fun i x σ G hx h => ?_) fun σ G h => ?_⟩
  · obtain ⟨⟨c5, rfl⟩, sG⟩ := h
    obtain ⟨wx, wsx, rfl, dwx, okx⟩ : ∃ wx wsx, x = V.ref wx ∧ DW H5 wsx wx ∧ WordsOk wsx := by
      match i, hx with
      | 0, hx => cases hx; exact ⟨w1, ws1, rfl, dw15, ok1⟩
      | 1, hx => cases hx; exact ⟨w2, ws2, rfl, dw25, ok2⟩
      | 2, hx => cases hx; exact ⟨w1, ws1, rfl, dw15, ok1⟩
    exact ⟨_, rfl, _, rfl, ba, wx, b, wsx, rfl, db5.mono (Tk.same sG), ok, dwx.mono (Tk.same sG), okx, fun G2 s6 => ⟨_, rfl, iteF ⟨⟨_, rfl⟩, sG.trans s6⟩⟩⟩
  · obtain ⟨⟨c5, rfl⟩, sG⟩ := h
    have mu := mu_fin ok []
    have KB := KB3
    have le6 := ok.1
    have k6 := Nat.mul_le_mul_right (KS 3) le6
    have stl : (fin b []).u.st.length ≤ (fin b []).mu := by unfold Cf.mu US.sz; omega
    have lwo := len_wordsOf (fin b []).u.st
    have l0 : ([] : List (Str × Int)).length = 0 := rfl
    refine ⟨Nat.zero_le _, fun t ht => ?_⟩
    have s6 := same_new ht (.tup [])
    have ht6 : upd G t (.tup []) t = some (.tup []) := upd_same
    generalize upd G t (.tup []) = G6 at s6 ht6
    have s56 := sG.trans s6
    refine ⟨_, rfl, t, w1, [], ws1, rfl, ⟨[], ht6, rfl⟩, pok_nil, dw15.mono (Tk.same s56), ok1, fun G7 s7 => ⟨_, rfl, iteT ?_⟩⟩
    have s57 := s56.trans s7
    refine ⟨_, rfl, Nat.zero_le _, fun u hu => ?_⟩
    have s8 := same_new hu (.tup [])
    have hu8 : upd G7 u (.tup []) u = some (.tup []) := upd_same
    generalize upd G7 u (.tup []) = G8 at s8 hu8
    have s58 := s57.trans s8
    refine ⟨ba, u, b, [], rfl, db5.mono (Tk.same s58), ok, ⟨[], hu8, rfl⟩, wok_nil, by decide, fun G9 e9 s9 dw9 => ?_⟩
    have s59 := s58.trans s9
    refine ⟨_, rfl, Nat.zero_le _, fun u2 hu2 => ?_⟩
    have s10 := same_new hu2 (.tup [])
    have hu10 : upd G9 u2 (.tup []) u2 = some (.tup []) := upd_same
    generalize upd G9 u2 (.tup []) = G10 at s10 hu10
    have s510 := s59.trans s10
    refine ⟨ba, u2, b, [], rfl, db5.mono (Tk.same s510), ok, ⟨[], hu10, rfl⟩, wok_nil, fun G11 r da wv new s11 hr hD eord hdn hpre hwv => ?_⟩
    exact ⟨_, _, _, _, rfl, rfl, SqT.of hr, at1, _, _, rfl, eqd_words (by omega) (dw9.mono (Tk.same (s10.trans s11))) hwv, fun G12 _ => q _⟩
end
end K11
set_option Elab.async false
set_option linter.all false
set_option maxRecDepth 100000
set_option maxHeartbeats 4000000
namespace K11
open PySem PySem.Spec PyProof.Rows L2
section
variable {P : Program} {w : World} {K : PySem.W.Frag} {mg : Str → Option Value} {base : Heap}
/-- the serial run's defs, all together -/
structure Core (P : Program) (w : World) (K : PySem.W.Frag) (mg : Str → Option Value) (base : Heap) : Prop where
  serial_run : C8.Cal P w K mg base 24 "serial_run" (spSRun (K := K)) []
  uwords : C8.Met P w K mg base 1 (ad K "Unfolding") "words" (spUWords (K := K)) []
theorem core_of (T : Txt w K mg) : Core P w K mg base := by
  have is_integer := ok_is_integer (P := P) (base := base) T
  have is_value := ok_is_value T is_integer
  have is_word := ok_is_word (P := P) (base := base) T
  have is_name := ok_is_name T is_word
  have is_pair := ok_is_pair T is_name is_value
  have is_words := ok_is_words T is_pair
  have need_words := ok_need_words T is_words
  have is_one_of := ok_is_one_of (P := P) (base := base) T
  have begins := ok_begins_with_word (P := P) (base := base) T
  have is_expr := ok_is_expression T is_value is_name is_one_of begins 3
  have is_set := ok_is_set T is_name is_one_of is_expr
  have is_block := ok_is_block T is_name begins is_expr is_set 4
  have need_program := ok_need_program T (ok_is_program T is_block)
  have operated := ok_operated (P := P) (base := base) T
  have worked := ok_worked_out T operated 3
  have parts := ok_parts (P := P) (base := base) T 7
  have block_init := ok_Block_init (P := P) (base := base) T
  have unfold_ := ok_unfold (P := P) (base := base) T
  have st_of := ok_statement_of (P := P) (base := base) T
  have env_of := ok_env_of (P := P) (base := base) T
  have last_of := ok_last T st_of 5
  have last_in := last_in_1 T last_of
  have meant := ok_meant_start T st_of
  have part_of := ok_part_of_fold (P := P) (base := base) T
  have ah_st := ok_ahead_of_statement T last_of last_in meant
  have ah_j := ok_ahead_of_join T last_in
  have gaps := ok_ahead_with_gaps T part_of ah_j ah_st
  have ahead := ok_ahead T gaps
  have ex_of := ok_expression_of T st_of env_of
  have res_by := ok_result_by T st_of gaps ex_of operated worked
  have go_on := ok_go_on T env_of unfold_ block_init
  have go_fold := ok_go_on_with_fold T parts
  have udo := ok_do T res_by st_of operated go_on go_fold
  have uwords := ok_uwords (P := P) (base := base) T
  have uinit := ok_uinit T unfold_ block_init
  have sdo := ok_sdo T udo
  have do_block := ok_do_block T sdo parts 4
  have sinit := ok_sinit T uinit do_block ahead
  exact ⟨ok_serial_run T need_program need_words sinit, uwords⟩
theorem all_of (T : Txt w K mg) : Owes0 P w K mg base 29 ["_law_script", "_law_pool_here", "_law_program_here", "_law_first", "_law_second", "_law_words_here"] "law" s_law (spLaw K) := by
  obtain ⟨srun, uwords⟩ := core_of (P := P) (base := base) T
  have s_deeds := ok_serial_deeds T srun
  have s_end := ok_serial_end T srun uwords
  have k_end := kw_serial_end T srun uwords
  have run_with := ok_run_with T srun
  have k_res := kw_result_of T run_with
  have run_withX := ok_run_withX T srun
  have resX := ok_result_ofX T run_withX
  have und := ok_law_is_undefined T resX
  have lop := ok_law_operated (P := P) (base := base) T
  have lval := ok_law_value T lop 3
  have lread := ok_law_read_words (P := P) (base := base) T 3
  have lonce := ok_law_once (P := P) (base := base) T
  have ldeed := ok_law_deed T lonce
  have lfold := ok_law_fold_run T lval lread lop ldeed 7
  have lblock := ok_law_block_run T ldeed lval lread lop lfold 4
  have lrun := ok_law_run T lblock
  have leq := ok_law_equal (P := P) (base := base) T 3
  have right := ok_law_is_right T lrun leq s_deeds s_end k_res und
  have draws := ok_law_draws (P := P) (base := base) T
  have pool := ok_law_pool T draws
  have stream := ok_law_stream T draws
  have lexpr := ok_law_expression (P := P) (base := base) T 3
  have gblk := ok_law_gblk T lexpr 4
  have turns := ok_law_turns (P := P) (base := base) T
  have most := ok_law_most T turns 4
  have prog := ok_law_program T stream gblk most
  have words := ok_law_words T draws
  exact owes_law T pool prog words right leq k_end lrun
end
theorem facts {P : Program} {w : World} {K : PySem.W.Frag} {mg : Str → Option Value} {f : Addr} (T : Txt w K mg) (hfa : mg ("law" : Str) = some (.ref f)) :
    ∃ fd : FuncData, (∀ (s : Shared) (v : Value), BindsTo s fd ⟨[v], []⟩ [("_law_script", v)]) ∧ ∀ base : Heap, FnOk P w K mg base C8.CX0 30 f fd ["_law_script"] (spLaw K) := by
  obtain ⟨f', fd, D, hm, b⟩ := T.f_law
  rw [hfa] at hm
  cases hm
  have b2 := FunD.bindsA (ps := ["_law_script"]) D fun _ _ _ _ _ _ us hl => match us, hl with | [_], _ => rfl
  exact ⟨fd, fun s v => b2 s [v] rfl, fun base => D.ok sc_law len_law fun cdv A outer s H vs Q E hr h => (all_of (P := P) (base := base) T).owes f cdv A outer s H vs Q E hr h⟩
end K11
set_option Elab.async false
set_option linter.all false
set_option maxRecDepth 100000
set_option maxHeartbeats 0
open PySem PySem.W PySem.Calls PyProof.Rows
theorem PySem.Challenge.cw_forkspan_k11_whole_serial_runs_holds : PySem.Challenge.rw_forkspan_k11_whole_serial_runs.Holds := by
  w_on; o_law
  refine HandSHeadRun.head_any (r := OpenLaw.row PySem.Challenge.rw_forkspan_k11_whole_serial_runs) (q := view (OpenLaw.row PySem.Challenge.rw_forkspan_k11_whole_serial_runs).prog [72]) (H := K11.hk) (ob := K11.ob) (M := 9000) (loose := K11.names) (d := HandSHeadRun.topDef (OpenLaw.row PySem.Challenge.rw_forkspan_k11_whole_serial_runs).prog 72) (kwd := []) K11.ob_eq
    (by kernel_rfl) (fun s => by kernel_rfl) K11.run (by kernel_rfl) (by kernel_rfl) (by kernel_rfl) (by rfl) (by first | assumption | decide +kernel) (by decide +kernel) ⟨rfl, rfl, rfl, rfl, rfl, by decide +kernel⟩ ?hw ?hc
  case hw => w_witness2
  case hc =>
    refine L2.walk_ofE (l := PySem.Challenge.rw_forkspan_k11_whole_serial_runs) (n := 63) (k := 30) (x := "_law_script") (CX := _root_.C8.CX0) rfl (by decide) (by kernel_rfl) ⟨rfl, by decide, by decide⟩ ?F (fun _ _ _ _ z => z)
    intro w mg fa h Y G hmg0
    obtain ⟨K, KX, c⟩ := Y
    have T := K11.txt_of KX G c
    have hmg : mg ("law" : PySem.Str) = some (.ref fa) := by
      have e : (HandSHeadRun.topDef (OpenLaw.row PySem.Challenge.rw_forkspan_k11_whole_serial_runs).prog 72).name = ("law" : PySem.Str) := by kernel_rfl
      rw [← e]
      exact hmg0
    obtain ⟨fd, hb, hF⟩ := K11.facts (P := (PySem.Challenge.rw_forkspan_k11_whole_serial_runs).prog) T hmg
    exact ⟨K, fd, K11.spLaw K, KX, hb, fun H a ns hl _ hS => ⟨a, ns, rfl, hS, hl, fun _ => rfl⟩, fun base _ _ => hF base⟩
