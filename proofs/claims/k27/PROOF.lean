import PyProof.Rows.All
import Wide.All
import OpenK.AllK
import Wide.FinOn
import HandS.ForMost
import HandS.Defaults
import HandS.HeadHook2
import KE.KStateDown
import Lean
import HandS.Ends
import HandS.Head0
import HandS.Head1
import HandS.Head2
import HandS.HeadEnd
import KE.GoesNew
import HandS.Walk
import HandS.IsInst
import HandS.Conv
import HandS.TupAny
import HandS.MakeKwOnly
import KE.SortData
import KE.KDictKeyed
import HandS.DictTup
import HandS.HotCalls
import HandS.ExcInit
import HandS.ExcInitHot
import HandS.DictComp
import PySem.Challenge.RW_servedalone_k27_whole_each_as_if_alone
section
set_option Elab.async false
set_option linter.all false
set_option maxRecDepth 100000
/-! The program's text by places; what the top leaves: the facts by names (printed by wip/gen_head.py). -/
namespace Sv
open PySem PySem.Spec PyProof.Rows L2
def top (i : Nat) : Stmt := PySem.Challenge.pw_servedalone_k27_whole_each_as_if_alone.main.body.getD i (.Pass ⟨0, 0, 0, 0⟩)
abbrev s_NoRoom_init : Stmt := inClass (top 5) 0
abbrev s_is_between : Stmt := top 11
abbrev s_vector_of : Stmt := top 12
abbrev s_matrix_of : Stmt := top 13
abbrev s_product_sum : Stmt := top 14
abbrev s_Net_init : Stmt := inClass (top 15) 0
abbrev s_Net_is_letter : Stmt := inClass (top 15) 2
abbrev s_Net_rest : Stmt := inClass (top 15) 3
abbrev s_Net_times : Stmt := inClass (top 15) 4
abbrev s_Net_plus : Stmt := inClass (top 15) 5
abbrev s_Net_looked_at : Stmt := inClass (top 15) 6
abbrev s_Net_row : Stmt := inClass (top 15) 7
abbrev s_greatest : Stmt := top 16
abbrev s_by_number : Stmt := top 17
abbrev s_Ask_init : Stmt := inClass (top 20) 0
abbrev s_Ask_let_weights : Stmt := inClass (top 20) 1
abbrev s_Ask_choice : Stmt := inClass (top 20) 2
abbrev s_check_letters : Stmt := top 22
abbrev s_stop_length : Stmt := top 23
abbrev s_next_text : Stmt := top 24
abbrev s_Store_init : Stmt := inClass (top 28) 0
abbrev s_Store_check_held : Stmt := inClass (top 28) 2
abbrev s_Store_check_alone : Stmt := inClass (top 28) 3
abbrev s_Store_take : Stmt := inClass (top 28) 4
abbrev s_Store_hold : Stmt := inClass (top 28) 5
abbrev s_Store_release : Stmt := inClass (top 28) 6
abbrev s_Store_put_row : Stmt := inClass (top 28) 7
abbrev s_Store_shorten : Stmt := inClass (top 28) 8
abbrev s_Store_rows : Stmt := inClass (top 28) 9
abbrev s_Store_holders : Stmt := inClass (top 28) 10
abbrev s_Table_init : Stmt := inClass (top 30) 0
abbrev s_Table_rows : Stmt := inClass (top 30) 1
abbrev s_Table_put_row : Stmt := inClass (top 30) 2
abbrev s_Table_own_last : Stmt := inClass (top 30) 3
abbrev s_Table_take_over : Stmt := inClass (top 30) 4
abbrev s_Table_exchange_last : Stmt := inClass (top 30) 5
abbrev s_Table_cut : Stmt := inClass (top 30) 6
abbrev s_Tree_init : Stmt := inClass (top 32) 0
abbrev s_Tree_beginnings : Stmt := inClass (top 32) 1
abbrev s_Tree_use : Stmt := inClass (top 32) 2
abbrev s_Tree_known : Stmt := inClass (top 32) 3
abbrev s_Tree_put : Stmt := inClass (top 32) 6
abbrev s_Tree_ends_of : Stmt := inClass (top 32) 7
abbrev s_Tree_oldest_of : Stmt := inClass (top 32) 8
abbrev s_Tree_drop : Stmt := inClass (top 32) 10
abbrev s_Request_init : Stmt := inClass (top 35) 0
abbrev s_Request_is_in : Stmt := inClass (top 35) 1
abbrev s_Request_whole : Stmt := inClass (top 35) 2
abbrev s_Request_finish : Stmt := inClass (top 35) 3
abbrev s_Request_write : Stmt := inClass (top 35) 4
abbrev s_House_init : Stmt := inClass (top 36) 0
abbrev s_House_add : Stmt := inClass (top 36) 3
abbrev s_House_ask : Stmt := inClass (top 36) 4
abbrev s_House_request : Stmt := inClass (top 36) 5
abbrev s_House_tickets : Stmt := inClass (top 36) 6
abbrev s_House_going : Stmt := inClass (top 36) 7
abbrev s_House_word : Stmt := inClass (top 36) 13
abbrev s_House_text : Stmt := inClass (top 36) 14
abbrev s_House_take_known : Stmt := inClass (top 36) 18
abbrev s_House_has_put : Stmt := inClass (top 36) 19
abbrev s_House_put_next : Stmt := inClass (top 36) 20
abbrev s_House_advance : Stmt := inClass (top 36) 21
abbrev s_House_step : Stmt := inClass (top 36) 22
abbrev s_Rule_init : Stmt := inClass (top 38) 0
abbrev s_Rule_after : Stmt := inClass (top 38) 2
abbrev s_Rule_lets : Stmt := inClass (top 38) 3
abbrev s_law_pool : Stmt := top 40
abbrev s_law_draw : Stmt := top 41
abbrev s_law_same : Stmt := top 42
abbrev s_law_vectors : Stmt := top 43
abbrev s_law_net : Stmt := top 44
abbrev s_law_times : Stmt := top 45
abbrev s_law_row : Stmt := top 46
abbrev s_law_behind : Stmt := top 47
abbrev s_law_as_net : Stmt := top 48
abbrev s_law_letters : Stmt := top 49
abbrev s_law_ask : Stmt := top 50
abbrev s_law_as_ask : Stmt := top 51
abbrev s_law_let : Stmt := top 52
abbrev s_law_choice : Stmt := top 53
abbrev s_law_written_on : Stmt := top 54
abbrev s_law_alone : Stmt := top 55
abbrev s_law_right : Stmt := top 56
abbrev s_law : Stmt := top 57
/-- a def of the text as it stands behind the top -/
abbrev FnP (K : PySem.W.Frag) (x qual : Str) (st : Stmt) (kws : List (Str × V)) (f : Addr) : Prop := ∃ fd, FunD K x qual (defArgs st) (defBody st) (defScope st) [] kws f fd
def primesV : List V := [.int 2, .int 3, .int 5, .int 7, .int 11, .int 13, .int 17, .int 19, .int 23, .int 29, .int 31, .int 37, .int 41, .int 43, .int 47, .int 53, .int 59, .int 61, .int 67, .int 71, .int 73, .int 79, .int 83, .int 89, .int 97]
/-- NoRoom: its class object's chain and maker, its __init__ a function -/
structure NoRoomC (K : PySem.W.Frag) (C fI : Addr) : Prop where
  cls : ∃ nm q N bs bm sn sub ab col dd k0 k1 k2 k3 k5, K.lookup C = some (excClassObj nm q C N bs bm true sn sub ab col dd k0 k1 k2 k3 k5 "ValueError.__new__") ∧ PySem.HandSPX.refsVE bm = true
  sa : PySem.W.findIn K (.ref C) "__setattr__" = some (some (.builtin "object.__setattr__"))
  exC : PySem.W.subIn K (.ref C) (.type "BaseException") = some true
  tyC : PySem.W.typeIn K (.ref C) = some (.type "type")
  ini : PySem.W.findIn K (.ref C) "__init__" = some (some (.ref fI))
  tyI : PySem.W.typeIn K (.ref fI) = some (.type "function")
/-- what the top has left, each fact by its name -/
structure Txt (K : PySem.W.Frag) (mg : Str → Option Value) : Prop where
  g_is_between : mg "is_between" = some (.ref (He.ga K "is_between"))
  g_vector_of : mg "vector_of" = some (.ref (He.ga K "vector_of"))
  g_matrix_of : mg "matrix_of" = some (.ref (He.ga K "matrix_of"))
  g_product_sum : mg "product_sum" = some (.ref (He.ga K "product_sum"))
  g_greatest : mg "greatest" = some (.ref (He.ga K "greatest"))
  g_by_number : mg "by_number" = some (.ref (He.ga K "by_number"))
  g_check_letters : mg "check_letters" = some (.ref (He.ga K "check_letters"))
  g_stop_length : mg "stop_length" = some (.ref (He.ga K "stop_length"))
  g_next_text : mg "next_text" = some (.ref (He.ga K "next_text"))
  g_law_pool : mg "_law_pool" = some (.ref (He.ga K "_law_pool"))
  g_law_draw : mg "_law_draw" = some (.ref (He.ga K "_law_draw"))
  g_law_same : mg "_law_same" = some (.ref (He.ga K "_law_same"))
  g_law_vectors : mg "_law_vectors" = some (.ref (He.ga K "_law_vectors"))
  g_law_net : mg "_law_net" = some (.ref (He.ga K "_law_net"))
  g_law_times : mg "_law_times" = some (.ref (He.ga K "_law_times"))
  g_law_row : mg "_law_row" = some (.ref (He.ga K "_law_row"))
  g_law_behind : mg "_law_behind" = some (.ref (He.ga K "_law_behind"))
  g_law_as_net : mg "_law_as_net" = some (.ref (He.ga K "_law_as_net"))
  g_law_letters : mg "_law_letters" = some (.ref (He.ga K "_law_letters"))
  g_law_ask : mg "_law_ask" = some (.ref (He.ga K "_law_ask"))
  g_law_as_ask : mg "_law_as_ask" = some (.ref (He.ga K "_law_as_ask"))
  g_law_let : mg "_law_let" = some (.ref (He.ga K "_law_let"))
  g_law_choice : mg "_law_choice" = some (.ref (He.ga K "_law_choice"))
  g_law_written_on : mg "_law_written_on" = some (.ref (He.ga K "_law_written_on"))
  g_law_alone : mg "_law_alone" = some (.ref (He.ga K "_law_alone"))
  g_law_right : mg "_law_right" = some (.ref (He.ga K "_law_right"))
  g_law : mg "law" = some (.ref (He.ga K "law"))
  g_Net : mg "Net" = some (.ref (He.ga K "Net"))
  cl_Net : Cls K (He.ga K "Net")
  mk_Net : Mk K (He.ga K "Net") (He.ma K (He.ga K "Net") "__init__")
  n_Net_prime : NoAttr K (He.ga K "Net") "prime"
  n_Net_embed : NoAttr K (He.ga K "Net") "embed"
  n_Net_shift : NoAttr K (He.ga K "Net") "shift"
  n_Net_layers : NoAttr K (He.ga K "Net") "layers"
  n_Net_out : NoAttr K (He.ga K "Net") "out"
  n_Net_end : NoAttr K (He.ga K "Net") "end"
  g_Ask : mg "Ask" = some (.ref (He.ga K "Ask"))
  cl_Ask : Cls K (He.ga K "Ask")
  mk_Ask : Mk K (He.ga K "Ask") (He.ma K (He.ga K "Ask") "__init__")
  n_Ask_prompt : NoAttr K (He.ga K "Ask") "prompt"
  n_Ask_most : NoAttr K (He.ga K "Ask") "most"
  n_Ask_stops : NoAttr K (He.ga K "Ask") "stops"
  n_Ask_tape : NoAttr K (He.ga K "Ask") "tape"
  n_Ask_rule : NoAttr K (He.ga K "Ask") "rule"
  g_Rule : mg "Rule" = some (.ref (He.ga K "Rule"))
  cl_Rule : Cls K (He.ga K "Rule")
  mk_Rule : Mk K (He.ga K "Rule") (He.ma K (He.ga K "Rule") "__init__")
  n_Rule_start : NoAttr K (He.ga K "Rule") "start"
  n_Rule_steps : NoAttr K (He.ga K "Rule") "steps"
  g_Store : mg "Store" = some (.ref (He.ga K "Store"))
  cl_Store : Cls K (He.ga K "Store")
  mk_Store : Mk K (He.ga K "Store") (He.ma K (He.ga K "Store") "__init__")
  n_Store_many : NoAttr K (He.ga K "Store") "many"
  n_Store_size : NoAttr K (He.ga K "Store") "size"
  n_Store_counts : NoAttr K (He.ga K "Store") "counts"
  n_Store_kept : NoAttr K (He.ga K "Store") "kept"
  g_Table : mg "Table" = some (.ref (He.ga K "Table"))
  cl_Table : Cls K (He.ga K "Table")
  mk_Table : Mk K (He.ga K "Table") (He.ma K (He.ga K "Table") "__init__")
  n_Table_store : NoAttr K (He.ga K "Table") "store"
  n_Table_blocks : NoAttr K (He.ga K "Table") "blocks"
  n_Table_length : NoAttr K (He.ga K "Table") "length"
  g_Tree : mg "Tree" = some (.ref (He.ga K "Tree"))
  cl_Tree : Cls K (He.ga K "Tree")
  mk_Tree : Mk K (He.ga K "Tree") (He.ma K (He.ga K "Tree") "__init__")
  n_Tree_store : NoAttr K (He.ga K "Tree") "store"
  n_Tree_paths : NoAttr K (He.ga K "Tree") "paths"
  n_Tree_under : NoAttr K (He.ga K "Tree") "under"
  n_Tree_used : NoAttr K (He.ga K "Tree") "used"
  n_Tree_clock : NoAttr K (He.ga K "Tree") "clock"
  g_Request : mg "Request" = some (.ref (He.ga K "Request"))
  cl_Request : Cls K (He.ga K "Request")
  mk_Request : Mk K (He.ga K "Request") (He.ma K (He.ga K "Request") "__init__")
  n_Request_ask : NoAttr K (He.ga K "Request") "ask"
  n_Request_text : NoAttr K (He.ga K "Request") "text"
  n_Request_begun : NoAttr K (He.ga K "Request") "begun"
  n_Request_table : NoAttr K (He.ga K "Request") "table"
  n_Request_word : NoAttr K (He.ga K "Request") "word"
  n_Request_aside : NoAttr K (He.ga K "Request") "aside"
  n_Request_given : NoAttr K (He.ga K "Request") "given"
  g_House : mg "House" = some (.ref (He.ga K "House"))
  cl_House : Cls K (He.ga K "House")
  mk_House : Mk K (He.ga K "House") (He.ma K (He.ga K "House") "__init__")
  n_House_net : NoAttr K (He.ga K "House") "net"
  n_House_store : NoAttr K (He.ga K "House") "store"
  n_House_tree : NoAttr K (He.ga K "House") "tree"
  n_House_requests : NoAttr K (He.ga K "House") "requests"
  n_House_rows_made : NoAttr K (He.ga K "House") "rows_made"
  m_Net_is_letter : Meth K (He.ga K "Net") "is_letter" (He.ma K (He.ga K "Net") "is_letter")
  m_Net_rest : Meth K (He.ga K "Net") "rest" (He.ma K (He.ga K "Net") "rest")
  m_Net_times : Meth K (He.ga K "Net") "times" (He.ma K (He.ga K "Net") "times")
  m_Net_plus : Meth K (He.ga K "Net") "plus" (He.ma K (He.ga K "Net") "plus")
  m_Net_looked_at : Meth K (He.ga K "Net") "looked_at" (He.ma K (He.ga K "Net") "looked_at")
  m_Net_row : Meth K (He.ga K "Net") "row" (He.ma K (He.ga K "Net") "row")
  m_Ask_let_weights : Meth K (He.ga K "Ask") "let_weights" (He.ma K (He.ga K "Ask") "let_weights")
  m_Ask_choice : Meth K (He.ga K "Ask") "choice" (He.ma K (He.ga K "Ask") "choice")
  m_Store_check_held : Meth K (He.ga K "Store") "check_held" (He.ma K (He.ga K "Store") "check_held")
  m_Store_check_alone : Meth K (He.ga K "Store") "check_alone" (He.ma K (He.ga K "Store") "check_alone")
  m_Store_take : Meth K (He.ga K "Store") "take" (He.ma K (He.ga K "Store") "take")
  m_Store_hold : Meth K (He.ga K "Store") "hold" (He.ma K (He.ga K "Store") "hold")
  m_Store_release : Meth K (He.ga K "Store") "release" (He.ma K (He.ga K "Store") "release")
  m_Store_put_row : Meth K (He.ga K "Store") "put_row" (He.ma K (He.ga K "Store") "put_row")
  m_Store_shorten : Meth K (He.ga K "Store") "shorten" (He.ma K (He.ga K "Store") "shorten")
  m_Store_rows : Meth K (He.ga K "Store") "rows" (He.ma K (He.ga K "Store") "rows")
  m_Store_holders : Meth K (He.ga K "Store") "holders" (He.ma K (He.ga K "Store") "holders")
  m_Table_rows : Meth K (He.ga K "Table") "rows" (He.ma K (He.ga K "Table") "rows")
  m_Table_put_row : Meth K (He.ga K "Table") "put_row" (He.ma K (He.ga K "Table") "put_row")
  m_Table_own_last : Meth K (He.ga K "Table") "own_last" (He.ma K (He.ga K "Table") "own_last")
  m_Table_take_over : Meth K (He.ga K "Table") "take_over" (He.ma K (He.ga K "Table") "take_over")
  m_Table_exchange_last : Meth K (He.ga K "Table") "exchange_last" (He.ma K (He.ga K "Table") "exchange_last")
  m_Table_cut : Meth K (He.ga K "Table") "cut" (He.ma K (He.ga K "Table") "cut")
  m_Tree_beginnings : Meth K (He.ga K "Tree") "beginnings" (He.ma K (He.ga K "Tree") "beginnings")
  m_Tree_use : Meth K (He.ga K "Tree") "use" (He.ma K (He.ga K "Tree") "use")
  m_Tree_known : Meth K (He.ga K "Tree") "known" (He.ma K (He.ga K "Tree") "known")
  m_Tree_put : Meth K (He.ga K "Tree") "put" (He.ma K (He.ga K "Tree") "put")
  m_Tree_ends_of : Meth K (He.ga K "Tree") "ends_of" (He.ma K (He.ga K "Tree") "ends_of")
  m_Tree_oldest_of : Meth K (He.ga K "Tree") "oldest_of" (He.ma K (He.ga K "Tree") "oldest_of")
  m_Tree_drop : Meth K (He.ga K "Tree") "drop" (He.ma K (He.ga K "Tree") "drop")
  m_Request_is_in : Meth K (He.ga K "Request") "is_in" (He.ma K (He.ga K "Request") "is_in")
  m_Request_whole : Meth K (He.ga K "Request") "whole" (He.ma K (He.ga K "Request") "whole")
  m_Request_finish : Meth K (He.ga K "Request") "finish" (He.ma K (He.ga K "Request") "finish")
  m_Request_write : Meth K (He.ga K "Request") "write" (He.ma K (He.ga K "Request") "write")
  m_House_add : Meth K (He.ga K "House") "add" (He.ma K (He.ga K "House") "add")
  m_House_ask : Meth K (He.ga K "House") "ask" (He.ma K (He.ga K "House") "ask")
  m_House_request : Meth K (He.ga K "House") "request" (He.ma K (He.ga K "House") "request")
  m_House_tickets : Meth K (He.ga K "House") "tickets" (He.ma K (He.ga K "House") "tickets")
  m_House_going : Meth K (He.ga K "House") "going" (He.ma K (He.ga K "House") "going")
  m_House_word : Meth K (He.ga K "House") "word" (He.ma K (He.ga K "House") "word")
  m_House_text : Meth K (He.ga K "House") "text" (He.ma K (He.ga K "House") "text")
  m_House_take_known : Meth K (He.ga K "House") "take_known" (He.ma K (He.ga K "House") "take_known")
  m_House_has_put : Meth K (He.ga K "House") "has_put" (He.ma K (He.ga K "House") "has_put")
  m_House_put_next : Meth K (He.ga K "House") "put_next" (He.ma K (He.ga K "House") "put_next")
  m_House_advance : Meth K (He.ga K "House") "advance" (He.ma K (He.ga K "House") "advance")
  m_House_step : Meth K (He.ga K "House") "step" (He.ma K (He.ga K "House") "step")
  m_Rule_after : Meth K (He.ga K "Rule") "after" (He.ma K (He.ga K "Rule") "after")
  m_Rule_lets : Meth K (He.ga K "Rule") "lets" (He.ma K (He.ga K "Rule") "lets")
  b_isinstance : mg "isinstance" = none
  b_int : mg "int" = none
  b_bool : mg "bool" = none
  b_tuple : mg "tuple" = none
  b_str : mg "str" = none
  b_zip : mg "zip" = none
  b_enumerate : mg "enumerate" = none
  b_len : mg "len" = none
  b_range : mg "range" = none
  b_sum : mg "sum" = none
  b_sorted : mg "sorted" = none
  b_abs : mg "abs" = none
  b_min : mg "min" = none
  b_max : mg "max" = none
  b_list : mg "list" = none
  i_MOST_LETTERS : ∃ t, mg "MOST_LETTERS" = some (.int 30 t)
  i_MOST_BLOCKS : ∃ t, mg "MOST_BLOCKS" = some (.int 60 t)
  i_MOST_ROWS : ∃ t, mg "MOST_ROWS" = some (.int 8 t)
  i_MOST_STEPS : ∃ t, mg "MOST_STEPS" = some (.int 60 t)
  g_NoRoom : mg "NoRoom" = some (.ref (He.ga K "NoRoom"))
  g_PRIMES : mg "PRIMES" = some (.ref (He.ga K "PRIMES"))
  k_NoRoom : PySem.W.keepIn K (.ref (He.ga K "NoRoom")) = true
  x_NoRoom : PySem.W.exmOne K (.ref (He.ga K "NoRoom")) (.ref (He.ga K "NoRoom")) = some true
  n_NoRoom_many : NoAttr K (He.ga K "NoRoom") "many"
  d_NoRoom_init : FnP K "__init__" "NoRoom.__init__" s_NoRoom_init [] (He.ma K (He.ga K "NoRoom") "__init__")
  d_is_between : FnP K "is_between" "is_between" s_is_between [] (He.ga K "is_between")
  d_vector_of : FnP K "vector_of" "vector_of" s_vector_of [] (He.ga K "vector_of")
  d_matrix_of : FnP K "matrix_of" "matrix_of" s_matrix_of [] (He.ga K "matrix_of")
  d_product_sum : FnP K "product_sum" "product_sum" s_product_sum [] (He.ga K "product_sum")
  d_Net_init : FnP K "__init__" "Net.__init__" s_Net_init [] (He.ma K (He.ga K "Net") "__init__")
  d_Net_is_letter : FnP K "is_letter" "Net.is_letter" s_Net_is_letter [] (He.ma K (He.ga K "Net") "is_letter")
  d_Net_rest : FnP K "rest" "Net.rest" s_Net_rest [] (He.ma K (He.ga K "Net") "rest")
  d_Net_times : FnP K "times" "Net.times" s_Net_times [] (He.ma K (He.ga K "Net") "times")
  d_Net_plus : FnP K "plus" "Net.plus" s_Net_plus [] (He.ma K (He.ga K "Net") "plus")
  d_Net_looked_at : FnP K "looked_at" "Net.looked_at" s_Net_looked_at [] (He.ma K (He.ga K "Net") "looked_at")
  d_Net_row : FnP K "row" "Net.row" s_Net_row [] (He.ma K (He.ga K "Net") "row")
  d_greatest : FnP K "greatest" "greatest" s_greatest [] (He.ga K "greatest")
  d_by_number : FnP K "by_number" "by_number" s_by_number [] (He.ga K "by_number")
  d_Ask_init : FnP K "__init__" "Ask.__init__" s_Ask_init [("rule", V.non)] (He.ma K (He.ga K "Ask") "__init__")
  d_Ask_let_weights : FnP K "let_weights" "Ask.let_weights" s_Ask_let_weights [] (He.ma K (He.ga K "Ask") "let_weights")
  d_Ask_choice : FnP K "choice" "Ask.choice" s_Ask_choice [] (He.ma K (He.ga K "Ask") "choice")
  d_check_letters : FnP K "check_letters" "check_letters" s_check_letters [] (He.ga K "check_letters")
  d_stop_length : FnP K "stop_length" "stop_length" s_stop_length [] (He.ga K "stop_length")
  d_next_text : FnP K "next_text" "next_text" s_next_text [] (He.ga K "next_text")
  d_Store_init : FnP K "__init__" "Store.__init__" s_Store_init [] (He.ma K (He.ga K "Store") "__init__")
  d_Store_check_held : FnP K "check_held" "Store.check_held" s_Store_check_held [] (He.ma K (He.ga K "Store") "check_held")
  d_Store_check_alone : FnP K "check_alone" "Store.check_alone" s_Store_check_alone [] (He.ma K (He.ga K "Store") "check_alone")
  d_Store_take : FnP K "take" "Store.take" s_Store_take [] (He.ma K (He.ga K "Store") "take")
  d_Store_hold : FnP K "hold" "Store.hold" s_Store_hold [] (He.ma K (He.ga K "Store") "hold")
  d_Store_release : FnP K "release" "Store.release" s_Store_release [] (He.ma K (He.ga K "Store") "release")
  d_Store_put_row : FnP K "put_row" "Store.put_row" s_Store_put_row [] (He.ma K (He.ga K "Store") "put_row")
  d_Store_shorten : FnP K "shorten" "Store.shorten" s_Store_shorten [] (He.ma K (He.ga K "Store") "shorten")
  d_Store_rows : FnP K "rows" "Store.rows" s_Store_rows [] (He.ma K (He.ga K "Store") "rows")
  d_Store_holders : FnP K "holders" "Store.holders" s_Store_holders [] (He.ma K (He.ga K "Store") "holders")
  d_Table_init : FnP K "__init__" "Table.__init__" s_Table_init [] (He.ma K (He.ga K "Table") "__init__")
  d_Table_rows : FnP K "rows" "Table.rows" s_Table_rows [] (He.ma K (He.ga K "Table") "rows")
  d_Table_put_row : FnP K "put_row" "Table.put_row" s_Table_put_row [] (He.ma K (He.ga K "Table") "put_row")
  d_Table_own_last : FnP K "own_last" "Table.own_last" s_Table_own_last [] (He.ma K (He.ga K "Table") "own_last")
  d_Table_take_over : FnP K "take_over" "Table.take_over" s_Table_take_over [] (He.ma K (He.ga K "Table") "take_over")
  d_Table_exchange_last : FnP K "exchange_last" "Table.exchange_last" s_Table_exchange_last [] (He.ma K (He.ga K "Table") "exchange_last")
  d_Table_cut : FnP K "cut" "Table.cut" s_Table_cut [] (He.ma K (He.ga K "Table") "cut")
  d_Tree_init : FnP K "__init__" "Tree.__init__" s_Tree_init [] (He.ma K (He.ga K "Tree") "__init__")
  d_Tree_beginnings : FnP K "beginnings" "Tree.beginnings" s_Tree_beginnings [] (He.ma K (He.ga K "Tree") "beginnings")
  d_Tree_use : FnP K "use" "Tree.use" s_Tree_use [] (He.ma K (He.ga K "Tree") "use")
  d_Tree_known : FnP K "known" "Tree.known" s_Tree_known [] (He.ma K (He.ga K "Tree") "known")
  d_Tree_put : FnP K "put" "Tree.put" s_Tree_put [] (He.ma K (He.ga K "Tree") "put")
  d_Tree_ends_of : FnP K "ends_of" "Tree.ends_of" s_Tree_ends_of [] (He.ma K (He.ga K "Tree") "ends_of")
  d_Tree_oldest_of : FnP K "oldest_of" "Tree.oldest_of" s_Tree_oldest_of [] (He.ma K (He.ga K "Tree") "oldest_of")
  d_Tree_drop : FnP K "drop" "Tree.drop" s_Tree_drop [] (He.ma K (He.ga K "Tree") "drop")
  d_Request_init : FnP K "__init__" "Request.__init__" s_Request_init [] (He.ma K (He.ga K "Request") "__init__")
  d_Request_is_in : FnP K "is_in" "Request.is_in" s_Request_is_in [] (He.ma K (He.ga K "Request") "is_in")
  d_Request_whole : FnP K "whole" "Request.whole" s_Request_whole [] (He.ma K (He.ga K "Request") "whole")
  d_Request_finish : FnP K "finish" "Request.finish" s_Request_finish [] (He.ma K (He.ga K "Request") "finish")
  d_Request_write : FnP K "write" "Request.write" s_Request_write [] (He.ma K (He.ga K "Request") "write")
  d_House_init : FnP K "__init__" "House.__init__" s_House_init [] (He.ma K (He.ga K "House") "__init__")
  d_House_add : FnP K "add" "House.add" s_House_add [] (He.ma K (He.ga K "House") "add")
  d_House_ask : FnP K "ask" "House.ask" s_House_ask [] (He.ma K (He.ga K "House") "ask")
  d_House_request : FnP K "request" "House.request" s_House_request [] (He.ma K (He.ga K "House") "request")
  d_House_tickets : FnP K "tickets" "House.tickets" s_House_tickets [] (He.ma K (He.ga K "House") "tickets")
  d_House_going : FnP K "going" "House.going" s_House_going [] (He.ma K (He.ga K "House") "going")
  d_House_word : FnP K "word" "House.word" s_House_word [] (He.ma K (He.ga K "House") "word")
  d_House_text : FnP K "text" "House.text" s_House_text [] (He.ma K (He.ga K "House") "text")
  d_House_take_known : FnP K "take_known" "House.take_known" s_House_take_known [] (He.ma K (He.ga K "House") "take_known")
  d_House_has_put : FnP K "has_put" "House.has_put" s_House_has_put [] (He.ma K (He.ga K "House") "has_put")
  d_House_put_next : FnP K "put_next" "House.put_next" s_House_put_next [] (He.ma K (He.ga K "House") "put_next")
  d_House_advance : FnP K "advance" "House.advance" s_House_advance [] (He.ma K (He.ga K "House") "advance")
  d_House_step : FnP K "step" "House.step" s_House_step [] (He.ma K (He.ga K "House") "step")
  d_Rule_init : FnP K "__init__" "Rule.__init__" s_Rule_init [] (He.ma K (He.ga K "Rule") "__init__")
  d_Rule_after : FnP K "after" "Rule.after" s_Rule_after [] (He.ma K (He.ga K "Rule") "after")
  d_Rule_lets : FnP K "lets" "Rule.lets" s_Rule_lets [] (He.ma K (He.ga K "Rule") "lets")
  d_law_pool : FnP K "_law_pool" "_law_pool" s_law_pool [] (He.ga K "_law_pool")
  d_law_draw : FnP K "_law_draw" "_law_draw" s_law_draw [] (He.ga K "_law_draw")
  d_law_same : FnP K "_law_same" "_law_same" s_law_same [] (He.ga K "_law_same")
  d_law_vectors : FnP K "_law_vectors" "_law_vectors" s_law_vectors [] (He.ga K "_law_vectors")
  d_law_net : FnP K "_law_net" "_law_net" s_law_net [] (He.ga K "_law_net")
  d_law_times : FnP K "_law_times" "_law_times" s_law_times [] (He.ga K "_law_times")
  d_law_row : FnP K "_law_row" "_law_row" s_law_row [] (He.ga K "_law_row")
  d_law_behind : FnP K "_law_behind" "_law_behind" s_law_behind [] (He.ga K "_law_behind")
  d_law_as_net : FnP K "_law_as_net" "_law_as_net" s_law_as_net [] (He.ga K "_law_as_net")
  d_law_letters : FnP K "_law_letters" "_law_letters" s_law_letters [] (He.ga K "_law_letters")
  d_law_ask : FnP K "_law_ask" "_law_ask" s_law_ask [] (He.ga K "_law_ask")
  d_law_as_ask : FnP K "_law_as_ask" "_law_as_ask" s_law_as_ask [] (He.ga K "_law_as_ask")
  d_law_let : FnP K "_law_let" "_law_let" s_law_let [] (He.ga K "_law_let")
  d_law_choice : FnP K "_law_choice" "_law_choice" s_law_choice [] (He.ga K "_law_choice")
  d_law_written_on : FnP K "_law_written_on" "_law_written_on" s_law_written_on [] (He.ga K "_law_written_on")
  d_law_alone : FnP K "_law_alone" "_law_alone" s_law_alone [] (He.ga K "_law_alone")
  d_law_right : FnP K "_law_right" "_law_right" s_law_right [] (He.ga K "_law_right")
  d_law : FnP K "law" "law" s_law [] (He.ga K "law")
  primes : ∀ H : Hp, SqT K H (He.ga K "PRIMES") primesV
  noRoom : NoRoomC K (He.ga K "NoRoom") (He.ma K (He.ga K "NoRoom") "__init__")
end Sv
end
section
set_option Elab.async false
set_option linter.all false
set_option maxRecDepth 100000
set_option maxHeartbeats 0
/-! The head: one run of the top in the kernel, the facts by names (printed by wip/gen_head.py). -/
namespace Sv
open PySem PySem.Spec PyProof.Rows L2
def fn0 : List He.DefD := [⟨("NoRoom", some "__init__"), "__init__", "NoRoom.__init__", defArgs s_NoRoom_init, defBody s_NoRoom_init, defScope s_NoRoom_init, [], []⟩,
  ⟨("is_between", none), "is_between", "is_between", defArgs s_is_between, defBody s_is_between, defScope s_is_between, [], []⟩,
  ⟨("vector_of", none), "vector_of", "vector_of", defArgs s_vector_of, defBody s_vector_of, defScope s_vector_of, [], []⟩,
  ⟨("matrix_of", none), "matrix_of", "matrix_of", defArgs s_matrix_of, defBody s_matrix_of, defScope s_matrix_of, [], []⟩,
  ⟨("product_sum", none), "product_sum", "product_sum", defArgs s_product_sum, defBody s_product_sum, defScope s_product_sum, [], []⟩,
  ⟨("Net", some "__init__"), "__init__", "Net.__init__", defArgs s_Net_init, defBody s_Net_init, defScope s_Net_init, [], []⟩,
  ⟨("Net", some "is_letter"), "is_letter", "Net.is_letter", defArgs s_Net_is_letter, defBody s_Net_is_letter, defScope s_Net_is_letter, [], []⟩,
  ⟨("Net", some "rest"), "rest", "Net.rest", defArgs s_Net_rest, defBody s_Net_rest, defScope s_Net_rest, [], []⟩,
  ⟨("Net", some "times"), "times", "Net.times", defArgs s_Net_times, defBody s_Net_times, defScope s_Net_times, [], []⟩,
  ⟨("Net", some "plus"), "plus", "Net.plus", defArgs s_Net_plus, defBody s_Net_plus, defScope s_Net_plus, [], []⟩,
  ⟨("Net", some "looked_at"), "looked_at", "Net.looked_at", defArgs s_Net_looked_at, defBody s_Net_looked_at, defScope s_Net_looked_at, [], []⟩,
  ⟨("Net", some "row"), "row", "Net.row", defArgs s_Net_row, defBody s_Net_row, defScope s_Net_row, [], []⟩,
  ⟨("greatest", none), "greatest", "greatest", defArgs s_greatest, defBody s_greatest, defScope s_greatest, [], []⟩,
  ⟨("by_number", none), "by_number", "by_number", defArgs s_by_number, defBody s_by_number, defScope s_by_number, [], []⟩,
  ⟨("Ask", some "__init__"), "__init__", "Ask.__init__", defArgs s_Ask_init, defBody s_Ask_init, defScope s_Ask_init, [], [("rule", .non)]⟩,
  ⟨("Ask", some "let_weights"), "let_weights", "Ask.let_weights", defArgs s_Ask_let_weights, defBody s_Ask_let_weights, defScope s_Ask_let_weights, [], []⟩,
  ⟨("Ask", some "choice"), "choice", "Ask.choice", defArgs s_Ask_choice, defBody s_Ask_choice, defScope s_Ask_choice, [], []⟩,
  ⟨("check_letters", none), "check_letters", "check_letters", defArgs s_check_letters, defBody s_check_letters, defScope s_check_letters, [], []⟩,
  ⟨("stop_length", none), "stop_length", "stop_length", defArgs s_stop_length, defBody s_stop_length, defScope s_stop_length, [], []⟩,
  ⟨("next_text", none), "next_text", "next_text", defArgs s_next_text, defBody s_next_text, defScope s_next_text, [], []⟩]
def fn1 : List He.DefD := [⟨("Store", some "__init__"), "__init__", "Store.__init__", defArgs s_Store_init, defBody s_Store_init, defScope s_Store_init, [], []⟩,
  ⟨("Store", some "check_held"), "check_held", "Store.check_held", defArgs s_Store_check_held, defBody s_Store_check_held, defScope s_Store_check_held, [], []⟩,
  ⟨("Store", some "check_alone"), "check_alone", "Store.check_alone", defArgs s_Store_check_alone, defBody s_Store_check_alone, defScope s_Store_check_alone, [], []⟩,
  ⟨("Store", some "take"), "take", "Store.take", defArgs s_Store_take, defBody s_Store_take, defScope s_Store_take, [], []⟩,
  ⟨("Store", some "hold"), "hold", "Store.hold", defArgs s_Store_hold, defBody s_Store_hold, defScope s_Store_hold, [], []⟩,
  ⟨("Store", some "release"), "release", "Store.release", defArgs s_Store_release, defBody s_Store_release, defScope s_Store_release, [], []⟩,
  ⟨("Store", some "put_row"), "put_row", "Store.put_row", defArgs s_Store_put_row, defBody s_Store_put_row, defScope s_Store_put_row, [], []⟩,
  ⟨("Store", some "shorten"), "shorten", "Store.shorten", defArgs s_Store_shorten, defBody s_Store_shorten, defScope s_Store_shorten, [], []⟩,
  ⟨("Store", some "rows"), "rows", "Store.rows", defArgs s_Store_rows, defBody s_Store_rows, defScope s_Store_rows, [], []⟩,
  ⟨("Store", some "holders"), "holders", "Store.holders", defArgs s_Store_holders, defBody s_Store_holders, defScope s_Store_holders, [], []⟩,
  ⟨("Table", some "__init__"), "__init__", "Table.__init__", defArgs s_Table_init, defBody s_Table_init, defScope s_Table_init, [], []⟩,
  ⟨("Table", some "rows"), "rows", "Table.rows", defArgs s_Table_rows, defBody s_Table_rows, defScope s_Table_rows, [], []⟩,
  ⟨("Table", some "put_row"), "put_row", "Table.put_row", defArgs s_Table_put_row, defBody s_Table_put_row, defScope s_Table_put_row, [], []⟩,
  ⟨("Table", some "own_last"), "own_last", "Table.own_last", defArgs s_Table_own_last, defBody s_Table_own_last, defScope s_Table_own_last, [], []⟩,
  ⟨("Table", some "take_over"), "take_over", "Table.take_over", defArgs s_Table_take_over, defBody s_Table_take_over, defScope s_Table_take_over, [], []⟩,
  ⟨("Table", some "exchange_last"), "exchange_last", "Table.exchange_last", defArgs s_Table_exchange_last, defBody s_Table_exchange_last, defScope s_Table_exchange_last, [], []⟩,
  ⟨("Table", some "cut"), "cut", "Table.cut", defArgs s_Table_cut, defBody s_Table_cut, defScope s_Table_cut, [], []⟩,
  ⟨("Tree", some "__init__"), "__init__", "Tree.__init__", defArgs s_Tree_init, defBody s_Tree_init, defScope s_Tree_init, [], []⟩,
  ⟨("Tree", some "beginnings"), "beginnings", "Tree.beginnings", defArgs s_Tree_beginnings, defBody s_Tree_beginnings, defScope s_Tree_beginnings, [], []⟩,
  ⟨("Tree", some "use"), "use", "Tree.use", defArgs s_Tree_use, defBody s_Tree_use, defScope s_Tree_use, [], []⟩]
def fn2 : List He.DefD := [⟨("Tree", some "known"), "known", "Tree.known", defArgs s_Tree_known, defBody s_Tree_known, defScope s_Tree_known, [], []⟩,
  ⟨("Tree", some "put"), "put", "Tree.put", defArgs s_Tree_put, defBody s_Tree_put, defScope s_Tree_put, [], []⟩,
  ⟨("Tree", some "ends_of"), "ends_of", "Tree.ends_of", defArgs s_Tree_ends_of, defBody s_Tree_ends_of, defScope s_Tree_ends_of, [], []⟩,
  ⟨("Tree", some "oldest_of"), "oldest_of", "Tree.oldest_of", defArgs s_Tree_oldest_of, defBody s_Tree_oldest_of, defScope s_Tree_oldest_of, [], []⟩,
  ⟨("Tree", some "drop"), "drop", "Tree.drop", defArgs s_Tree_drop, defBody s_Tree_drop, defScope s_Tree_drop, [], []⟩,
  ⟨("Request", some "__init__"), "__init__", "Request.__init__", defArgs s_Request_init, defBody s_Request_init, defScope s_Request_init, [], []⟩,
  ⟨("Request", some "is_in"), "is_in", "Request.is_in", defArgs s_Request_is_in, defBody s_Request_is_in, defScope s_Request_is_in, [], []⟩,
  ⟨("Request", some "whole"), "whole", "Request.whole", defArgs s_Request_whole, defBody s_Request_whole, defScope s_Request_whole, [], []⟩,
  ⟨("Request", some "finish"), "finish", "Request.finish", defArgs s_Request_finish, defBody s_Request_finish, defScope s_Request_finish, [], []⟩,
  ⟨("Request", some "write"), "write", "Request.write", defArgs s_Request_write, defBody s_Request_write, defScope s_Request_write, [], []⟩,
  ⟨("House", some "__init__"), "__init__", "House.__init__", defArgs s_House_init, defBody s_House_init, defScope s_House_init, [], []⟩,
  ⟨("House", some "add"), "add", "House.add", defArgs s_House_add, defBody s_House_add, defScope s_House_add, [], []⟩,
  ⟨("House", some "ask"), "ask", "House.ask", defArgs s_House_ask, defBody s_House_ask, defScope s_House_ask, [], []⟩,
  ⟨("House", some "request"), "request", "House.request", defArgs s_House_request, defBody s_House_request, defScope s_House_request, [], []⟩,
  ⟨("House", some "tickets"), "tickets", "House.tickets", defArgs s_House_tickets, defBody s_House_tickets, defScope s_House_tickets, [], []⟩,
  ⟨("House", some "going"), "going", "House.going", defArgs s_House_going, defBody s_House_going, defScope s_House_going, [], []⟩,
  ⟨("House", some "word"), "word", "House.word", defArgs s_House_word, defBody s_House_word, defScope s_House_word, [], []⟩,
  ⟨("House", some "text"), "text", "House.text", defArgs s_House_text, defBody s_House_text, defScope s_House_text, [], []⟩,
  ⟨("House", some "take_known"), "take_known", "House.take_known", defArgs s_House_take_known, defBody s_House_take_known, defScope s_House_take_known, [], []⟩,
  ⟨("House", some "has_put"), "has_put", "House.has_put", defArgs s_House_has_put, defBody s_House_has_put, defScope s_House_has_put, [], []⟩]
def fn3 : List He.DefD := [⟨("House", some "put_next"), "put_next", "House.put_next", defArgs s_House_put_next, defBody s_House_put_next, defScope s_House_put_next, [], []⟩,
  ⟨("House", some "advance"), "advance", "House.advance", defArgs s_House_advance, defBody s_House_advance, defScope s_House_advance, [], []⟩,
  ⟨("House", some "step"), "step", "House.step", defArgs s_House_step, defBody s_House_step, defScope s_House_step, [], []⟩,
  ⟨("Rule", some "__init__"), "__init__", "Rule.__init__", defArgs s_Rule_init, defBody s_Rule_init, defScope s_Rule_init, [], []⟩,
  ⟨("Rule", some "after"), "after", "Rule.after", defArgs s_Rule_after, defBody s_Rule_after, defScope s_Rule_after, [], []⟩,
  ⟨("Rule", some "lets"), "lets", "Rule.lets", defArgs s_Rule_lets, defBody s_Rule_lets, defScope s_Rule_lets, [], []⟩,
  ⟨("_law_pool", none), "_law_pool", "_law_pool", defArgs s_law_pool, defBody s_law_pool, defScope s_law_pool, [], []⟩,
  ⟨("_law_draw", none), "_law_draw", "_law_draw", defArgs s_law_draw, defBody s_law_draw, defScope s_law_draw, [], []⟩,
  ⟨("_law_same", none), "_law_same", "_law_same", defArgs s_law_same, defBody s_law_same, defScope s_law_same, [], []⟩,
  ⟨("_law_vectors", none), "_law_vectors", "_law_vectors", defArgs s_law_vectors, defBody s_law_vectors, defScope s_law_vectors, [], []⟩,
  ⟨("_law_net", none), "_law_net", "_law_net", defArgs s_law_net, defBody s_law_net, defScope s_law_net, [], []⟩,
  ⟨("_law_times", none), "_law_times", "_law_times", defArgs s_law_times, defBody s_law_times, defScope s_law_times, [], []⟩,
  ⟨("_law_row", none), "_law_row", "_law_row", defArgs s_law_row, defBody s_law_row, defScope s_law_row, [], []⟩,
  ⟨("_law_behind", none), "_law_behind", "_law_behind", defArgs s_law_behind, defBody s_law_behind, defScope s_law_behind, [], []⟩,
  ⟨("_law_as_net", none), "_law_as_net", "_law_as_net", defArgs s_law_as_net, defBody s_law_as_net, defScope s_law_as_net, [], []⟩,
  ⟨("_law_letters", none), "_law_letters", "_law_letters", defArgs s_law_letters, defBody s_law_letters, defScope s_law_letters, [], []⟩,
  ⟨("_law_ask", none), "_law_ask", "_law_ask", defArgs s_law_ask, defBody s_law_ask, defScope s_law_ask, [], []⟩,
  ⟨("_law_as_ask", none), "_law_as_ask", "_law_as_ask", defArgs s_law_as_ask, defBody s_law_as_ask, defScope s_law_as_ask, [], []⟩,
  ⟨("_law_let", none), "_law_let", "_law_let", defArgs s_law_let, defBody s_law_let, defScope s_law_let, [], []⟩,
  ⟨("_law_choice", none), "_law_choice", "_law_choice", defArgs s_law_choice, defBody s_law_choice, defScope s_law_choice, [], []⟩]
def fn4 : List He.DefD := [⟨("_law_written_on", none), "_law_written_on", "_law_written_on", defArgs s_law_written_on, defBody s_law_written_on, defScope s_law_written_on, [], []⟩,
  ⟨("_law_alone", none), "_law_alone", "_law_alone", defArgs s_law_alone, defBody s_law_alone, defScope s_law_alone, [], []⟩,
  ⟨("_law_right", none), "_law_right", "_law_right", defArgs s_law_right, defBody s_law_right, defScope s_law_right, [], []⟩,
  ⟨("law", none), "law", "law", defArgs s_law, defBody s_law, defScope s_law, [], []⟩]
def fa0 : List He.Fa := [.glo "is_between", .glo "vector_of", .glo "matrix_of", .glo "product_sum", .glo "greatest", .glo "by_number", .glo "check_letters", .glo "stop_length", .glo "next_text", .glo "_law_pool", .glo "_law_draw", .glo "_law_same", .glo "_law_vectors", .glo "_law_net", .glo "_law_times", .glo "_law_row", .glo "_law_behind", .glo "_law_as_net", .glo "_law_letters", .glo "_law_ask"]
def fa1 : List He.Fa := [.glo "_law_as_ask", .glo "_law_let", .glo "_law_choice", .glo "_law_written_on", .glo "_law_alone", .glo "_law_right", .glo "law", .glo "Net", .cls "Net", .mkr "Net", .noat "Net" "prime", .noat "Net" "embed", .noat "Net" "shift", .noat "Net" "layers", .noat "Net" "out", .noat "Net" "end", .glo "Ask", .cls "Ask", .mkr "Ask", .noat "Ask" "prompt"]
def fa2 : List He.Fa := [.noat "Ask" "most", .noat "Ask" "stops", .noat "Ask" "tape", .noat "Ask" "rule", .glo "Rule", .cls "Rule", .mkr "Rule", .noat "Rule" "start", .noat "Rule" "steps", .glo "Store", .cls "Store", .mkr "Store", .noat "Store" "many", .noat "Store" "size", .noat "Store" "counts", .noat "Store" "kept", .glo "Table", .cls "Table", .mkr "Table", .noat "Table" "store"]
def fa3 : List He.Fa := [.noat "Table" "blocks", .noat "Table" "length", .glo "Tree", .cls "Tree", .mkr "Tree", .noat "Tree" "store", .noat "Tree" "paths", .noat "Tree" "under", .noat "Tree" "used", .noat "Tree" "clock", .glo "Request", .cls "Request", .mkr "Request", .noat "Request" "ask", .noat "Request" "text", .noat "Request" "begun", .noat "Request" "table", .noat "Request" "word", .noat "Request" "aside", .noat "Request" "given"]
def fa4 : List He.Fa := [.glo "House", .cls "House", .mkr "House", .noat "House" "net", .noat "House" "store", .noat "House" "tree", .noat "House" "requests", .noat "House" "rows_made", .meth "Net" "is_letter", .meth "Net" "rest", .meth "Net" "times", .meth "Net" "plus", .meth "Net" "looked_at", .meth "Net" "row", .meth "Ask" "let_weights", .meth "Ask" "choice", .meth "Store" "check_held", .meth "Store" "check_alone", .meth "Store" "take", .meth "Store" "hold"]
def fa5 : List He.Fa := [.meth "Store" "release", .meth "Store" "put_row", .meth "Store" "shorten", .meth "Store" "rows", .meth "Store" "holders", .meth "Table" "rows", .meth "Table" "put_row", .meth "Table" "own_last", .meth "Table" "take_over", .meth "Table" "exchange_last", .meth "Table" "cut", .meth "Tree" "beginnings", .meth "Tree" "use", .meth "Tree" "known", .meth "Tree" "put", .meth "Tree" "ends_of", .meth "Tree" "oldest_of", .meth "Tree" "drop", .meth "Request" "is_in", .meth "Request" "whole"]
def fa6 : List He.Fa := [.meth "Request" "finish", .meth "Request" "write", .meth "House" "add", .meth "House" "ask", .meth "House" "request", .meth "House" "tickets", .meth "House" "going", .meth "House" "word", .meth "House" "text", .meth "House" "take_known", .meth "House" "has_put", .meth "House" "put_next", .meth "House" "advance", .meth "House" "step", .meth "Rule" "after", .meth "Rule" "lets", .free "isinstance", .free "int", .free "bool", .free "tuple"]
def fa7 : List He.Fa := [.free "str", .free "zip", .free "enumerate", .free "len", .free "range", .free "sum", .free "sorted", .free "abs", .free "min", .free "max", .free "list", .int "MOST_LETTERS" 30, .int "MOST_BLOCKS" 60, .int "MOST_ROWS" 8, .int "MOST_STEPS" 60, .glo "NoRoom", .glo "PRIMES", .keep "NoRoom", .exm "NoRoom" "NoRoom" true, .noat "NoRoom" "many"]
def fnA : List He.DefD := fn0 ++ (fn1 ++ (fn2 ++ (fn3 ++ (fn4))))
def faA : List He.Fa := fa0 ++ (fa1 ++ (fa2 ++ (fa3 ++ (fa4 ++ (fa5 ++ (fa6 ++ (fa7)))))))
def loose0 : List PySem.Str := ["_wall", "ServeError", "InvalidNumber", "InvalidLetter", "NoRoom", "NotHeld", "NotAlone", "NoRequest", "is_between", "vector_of", "matrix_of", "product_sum", "Net", "greatest", "by_number", "Ask", "check_letters", "stop_length", "next_text", "Store", "Table", "Tree", "Request", "House", "Rule", "_law_pool", "_law_draw", "_law_same", "_law_vectors", "_law_net"]
def loose1 : List PySem.Str := ["_law_times", "_law_row", "_law_behind", "_law_as_net", "_law_letters", "_law_ask", "_law_as_ask", "_law_let", "_law_choice", "_law_written_on", "_law_alone", "_law_right", "PRIMES", "MOST_LETTERS", "MOST_BLOCKS", "MOST_ROWS", "MOST_STEPS"]
def looseA : List PySem.Str := loose0 ++ (loose1)
def clsA : List PySem.Str := ["Net", "Ask", "Rule", "Store", "Table", "Tree", "Request", "House", "NoRoom", "ServeError"]
def primesD : List He.Dv := [.int 2, .int 3, .int 5, .int 7, .int 11, .int 13, .int 17, .int 19, .int 23, .int 29, .int 31, .int 37, .int 41, .int 43, .int 47, .int 53, .int 59, .int 61, .int 67, .int 71, .int 73, .int 79, .int 83, .int 89, .int 97]
/-! ### NoRoom's class, PRIMES: by one more Bool -/
def noRoomCls (K : PySem.W.Frag) (C : Addr) : Bool :=
  match K.lookup C with
  | some ⟨.type t, _, .cls cd, sl⟩ =>
    decide (t = "type") && (cd.hasDict && (!cd.hasDel && (match cd.mro, sl.toList with
      | .ref C2 :: bm, [_, _, _, _, some (.builtin n), _] => decide (C2 = C) && (decide (n = "ValueError.__new__") && PySem.HandSPX.refsVE bm)
      | _, _ => false)))
  | _ => false
theorem noRoomCls_ok {K : PySem.W.Frag} {C : Addr} (h : noRoomCls K C = true) :
    ∃ nm q N bs bm sn sub ab col dd k0 k1 k2 k3 k5, K.lookup C = some (excClassObj nm q C N bs bm true sn sub ab col dd k0 k1 k2 k3 k5 "ValueError.__new__") ∧ PySem.HandSPX.refsVE bm = true := by
  unfold noRoomCls at h
  split at h
  · rename_i t dd cd sl ho
    obtain ⟨h1, h⟩ := He.ba h
    obtain ⟨h2, h⟩ := He.ba h
    obtain ⟨h3, h⟩ := He.ba h
    split at h
    · rename_i C2 bm k0 k1 k2 k3 n k5 hm hs
      obtain ⟨h4, h⟩ := He.ba h
      obtain ⟨h5, h6⟩ := He.ba h
      have e1 := of_decide_eq_true h1
      have e4 := of_decide_eq_true h4
      have e5 := of_decide_eq_true h5
      subst e1 e4 e5
      obtain ⟨nm, bs, mro, ns, qn, hd, sn, sub, ab, col, del⟩ := cd
      dsimp only at hm h2 h3
      subst hm h2
      have e3 : del = false := by cases del <;> first | rfl | cases h3
      subst e3
      have hsl : sl = #[k0, k1, k2, k3, some (.builtin "ValueError.__new__"), k5] := by
        obtain ⟨l⟩ := sl
        simp only at hs
        rw [hs]
      subst hsl
      exact ⟨_, _, _, _, bm, _, _, _, _, _, _, _, _, _, _, ho, h6⟩
    · cases h
  · cases h
def noRoomB (K : PySem.W.Frag) : Bool :=
  noRoomCls K (He.ga K "NoRoom") && (He.eqO (PySem.W.findIn K (.ref (He.ga K "NoRoom")) "__setattr__") (some (some (.builtin "object.__setattr__"))) &&
    (decide (PySem.W.subIn K (.ref (He.ga K "NoRoom")) (.type "BaseException") = some true) && (decide (PySem.W.typeIn K (.ref (He.ga K "NoRoom")) = some (.type "type")) &&
      (He.eqO (PySem.W.findIn K (.ref (He.ga K "NoRoom")) "__init__") (some (some (.ref (He.ma K (He.ga K "NoRoom") "__init__")))) && decide (PySem.W.typeIn K (.ref (He.ma K (He.ga K "NoRoom") "__init__")) = some (.type "function"))))))
theorem noRoomB_ok {K : PySem.W.Frag} (h : noRoomB K = true) : NoRoomC K (He.ga K "NoRoom") (He.ma K (He.ga K "NoRoom") "__init__") := by
  obtain ⟨h1, h⟩ := He.ba h
  obtain ⟨h2, h⟩ := He.ba h
  obtain ⟨h3, h⟩ := He.ba h
  obtain ⟨h4, h⟩ := He.ba h
  obtain ⟨h5, h6⟩ := He.ba h
  exact ⟨noRoomCls_ok h1, He.eqO_ok h2, of_decide_eq_true h3, of_decide_eq_true h4, He.eqO_ok h5, of_decide_eq_true h6⟩
def moreB (K : PySem.W.Frag) : Bool := He.tupB K "PRIMES" primesD && noRoomB K
/-! ### the part of the heap that is told: the module's names, the classes and their names, the functions and their code -/
def nsOfC (K : PySem.W.Frag) (C : Addr) : Addr := match K.lookup C with
  | some ⟨_, _, .cls cd, _⟩ => cd.ns
  | _ => 0
def codeOfF (K : PySem.W.Frag) (f : Addr) : Addr := match K.lookup f with
  | some ⟨_, _, .func fd, _⟩ => (match fd.code with | .ref c => c | _ => 0)
  | _ => 0
def kwOfF (K : PySem.W.Frag) (f : Addr) : Addr := match K.lookup f with
  | some ⟨_, _, .func fd, _⟩ => (match fd.kwdefaults with | .ref c => c | _ => 0)
  | _ => 0
def refOf : Option (Option Value) → Addr
  | some (some (.ref a)) => a
  | _ => 0
def asS (g : Addr → Option Obj) : List Addr :=
  let K0 := He.frG g [mainGlobals]
  let fs := fnA.filterMap fun d => match d.at_.2 with | none => some (He.ga K0 d.at_.1) | some _ => none
  let cs := clsA.map fun c => He.ga K0 c
  let K1 := He.frG g cs
  let ns := cs.map fun c => nsOfC K1 c
  let K2 := He.frG g ns
  let ms := fnA.filterMap fun d => match d.at_.2 with | none => none | some m => some (refOf (PySem.W.nsIn K2 (nsOfC K1 (He.ga K0 d.at_.1)) m))
  let K3 := He.frG g (fs ++ ms)
  let cd := (fs ++ ms).map fun f => codeOfF K3 f
  let kw := refOf (PySem.W.nsIn K2 (nsOfC K1 (He.ga K0 "Ask")) "__init__")
  mainGlobals :: He.ga K0 "PRIMES" :: kwOfF (He.frG g [kw]) kw :: (cs ++ (ns ++ (fs ++ (ms ++ cd))))
/-! ### the hook -/
abbrev AlS : Type := He.AlD × Bool
def obsS (g : Addr → Option Obj) : AlS := (He.obsD faA fnA (He.frG g (asS g)), moreB (He.frG g (asS g)))
theorem obsS_split {g : Addr → Option Obj} (e : obsS g = (He.valD fnA, true)) : He.SaysD faA fnA (He.frG g (asS g)) ∧ moreB (He.frG g (asS g)) = true := by
  unfold obsS at e
  exact ⟨(Prod.mk.inj e).1, (Prod.mk.inj e).2⟩
def hk : PySem.W.Hook where
  α := AlS
  obs := fun s => obsS s.heap.get?
  val := fun _ => (He.valD fnA, true)
  says := fun _ h => ∃ K : PySem.W.Frag, K.In h ∧ He.SaysD faA fnA K ∧ moreB K = true
  of := fun _ s e => ⟨He.frG s.heap.get? (asS s.heap.get?), He.frG_in, obsS_split e⟩
  keeps := fun _ _ _ ⟨K, hK, c, m⟩ k => ⟨K, PySem.W.Frag.In.keeps hK k, c, m⟩
def ob (s : PySem.W.SharedT) : AlS := obsS (HandSHeadRun.getT s)
theorem ob_eq (s : PySem.W.SharedT) : ob s = hk.obs s.abs := by
  have e : HandSHeadRun.getT s = s.abs.heap.get? := funext fun a => HandSHeadRun.getT_eq s a
  unfold ob
  rw [e]
  rfl
abbrev R : PySem.W.OpenRow := PySem.W.OpenLaw.row PySem.Challenge.rw_servedalone_k27_whole_each_as_if_alone
set_option maxHeartbeats 0 in
theorem run (w : World) : HandSHeadRun.RunEq R (PySem.W.view R.prog [57]) hk ob 8000 looseA w := by
  intro os
  kernel_rfl
end Sv
end
section
set_option Elab.async false
set_option linter.all false
set_option maxRecDepth 100000
set_option maxHeartbeats 4000000
namespace Sv
open PySem PySem.Spec PyProof.Rows L2
theorem txt_of {K : PySem.W.Frag} {h : Heap} {mg : Str → Option Value} (X : K.In h) (G : h.Ns mainGlobals mg) (c : He.SaysD faA fnA K) (m : moreB K = true) : Txt K mg where
  g_is_between := He.glo_ok X G (c.fact 0 (f := .glo "is_between") rfl)
  g_vector_of := He.glo_ok X G (c.fact 1 (f := .glo "vector_of") rfl)
  g_matrix_of := He.glo_ok X G (c.fact 2 (f := .glo "matrix_of") rfl)
  g_product_sum := He.glo_ok X G (c.fact 3 (f := .glo "product_sum") rfl)
  g_greatest := He.glo_ok X G (c.fact 4 (f := .glo "greatest") rfl)
  g_by_number := He.glo_ok X G (c.fact 5 (f := .glo "by_number") rfl)
  g_check_letters := He.glo_ok X G (c.fact 6 (f := .glo "check_letters") rfl)
  g_stop_length := He.glo_ok X G (c.fact 7 (f := .glo "stop_length") rfl)
  g_next_text := He.glo_ok X G (c.fact 8 (f := .glo "next_text") rfl)
  g_law_pool := He.glo_ok X G (c.fact 9 (f := .glo "_law_pool") rfl)
  g_law_draw := He.glo_ok X G (c.fact 10 (f := .glo "_law_draw") rfl)
  g_law_same := He.glo_ok X G (c.fact 11 (f := .glo "_law_same") rfl)
  g_law_vectors := He.glo_ok X G (c.fact 12 (f := .glo "_law_vectors") rfl)
  g_law_net := He.glo_ok X G (c.fact 13 (f := .glo "_law_net") rfl)
  g_law_times := He.glo_ok X G (c.fact 14 (f := .glo "_law_times") rfl)
  g_law_row := He.glo_ok X G (c.fact 15 (f := .glo "_law_row") rfl)
  g_law_behind := He.glo_ok X G (c.fact 16 (f := .glo "_law_behind") rfl)
  g_law_as_net := He.glo_ok X G (c.fact 17 (f := .glo "_law_as_net") rfl)
  g_law_letters := He.glo_ok X G (c.fact 18 (f := .glo "_law_letters") rfl)
  g_law_ask := He.glo_ok X G (c.fact 19 (f := .glo "_law_ask") rfl)
  g_law_as_ask := He.glo_ok X G (c.fact 20 (f := .glo "_law_as_ask") rfl)
  g_law_let := He.glo_ok X G (c.fact 21 (f := .glo "_law_let") rfl)
  g_law_choice := He.glo_ok X G (c.fact 22 (f := .glo "_law_choice") rfl)
  g_law_written_on := He.glo_ok X G (c.fact 23 (f := .glo "_law_written_on") rfl)
  g_law_alone := He.glo_ok X G (c.fact 24 (f := .glo "_law_alone") rfl)
  g_law_right := He.glo_ok X G (c.fact 25 (f := .glo "_law_right") rfl)
  g_law := He.glo_ok X G (c.fact 26 (f := .glo "law") rfl)
  g_Net := He.glo_ok X G (c.fact 27 (f := .glo "Net") rfl)
  cl_Net := He.cls_ok (c.fact 28 (f := .cls "Net") rfl)
  mk_Net := He.mkr_ok (c.fact 29 (f := .mkr "Net") rfl)
  n_Net_prime := He.noat_ok (c.fact 30 (f := .noat "Net" "prime") rfl)
  n_Net_embed := He.noat_ok (c.fact 31 (f := .noat "Net" "embed") rfl)
  n_Net_shift := He.noat_ok (c.fact 32 (f := .noat "Net" "shift") rfl)
  n_Net_layers := He.noat_ok (c.fact 33 (f := .noat "Net" "layers") rfl)
  n_Net_out := He.noat_ok (c.fact 34 (f := .noat "Net" "out") rfl)
  n_Net_end := He.noat_ok (c.fact 35 (f := .noat "Net" "end") rfl)
  g_Ask := He.glo_ok X G (c.fact 36 (f := .glo "Ask") rfl)
  cl_Ask := He.cls_ok (c.fact 37 (f := .cls "Ask") rfl)
  mk_Ask := He.mkr_ok (c.fact 38 (f := .mkr "Ask") rfl)
  n_Ask_prompt := He.noat_ok (c.fact 39 (f := .noat "Ask" "prompt") rfl)
  n_Ask_most := He.noat_ok (c.fact 40 (f := .noat "Ask" "most") rfl)
  n_Ask_stops := He.noat_ok (c.fact 41 (f := .noat "Ask" "stops") rfl)
  n_Ask_tape := He.noat_ok (c.fact 42 (f := .noat "Ask" "tape") rfl)
  n_Ask_rule := He.noat_ok (c.fact 43 (f := .noat "Ask" "rule") rfl)
  g_Rule := He.glo_ok X G (c.fact 44 (f := .glo "Rule") rfl)
  cl_Rule := He.cls_ok (c.fact 45 (f := .cls "Rule") rfl)
  mk_Rule := He.mkr_ok (c.fact 46 (f := .mkr "Rule") rfl)
  n_Rule_start := He.noat_ok (c.fact 47 (f := .noat "Rule" "start") rfl)
  n_Rule_steps := He.noat_ok (c.fact 48 (f := .noat "Rule" "steps") rfl)
  g_Store := He.glo_ok X G (c.fact 49 (f := .glo "Store") rfl)
  cl_Store := He.cls_ok (c.fact 50 (f := .cls "Store") rfl)
  mk_Store := He.mkr_ok (c.fact 51 (f := .mkr "Store") rfl)
  n_Store_many := He.noat_ok (c.fact 52 (f := .noat "Store" "many") rfl)
  n_Store_size := He.noat_ok (c.fact 53 (f := .noat "Store" "size") rfl)
  n_Store_counts := He.noat_ok (c.fact 54 (f := .noat "Store" "counts") rfl)
  n_Store_kept := He.noat_ok (c.fact 55 (f := .noat "Store" "kept") rfl)
  g_Table := He.glo_ok X G (c.fact 56 (f := .glo "Table") rfl)
  cl_Table := He.cls_ok (c.fact 57 (f := .cls "Table") rfl)
  mk_Table := He.mkr_ok (c.fact 58 (f := .mkr "Table") rfl)
  n_Table_store := He.noat_ok (c.fact 59 (f := .noat "Table" "store") rfl)
  n_Table_blocks := He.noat_ok (c.fact 60 (f := .noat "Table" "blocks") rfl)
  n_Table_length := He.noat_ok (c.fact 61 (f := .noat "Table" "length") rfl)
  g_Tree := He.glo_ok X G (c.fact 62 (f := .glo "Tree") rfl)
  cl_Tree := He.cls_ok (c.fact 63 (f := .cls "Tree") rfl)
  mk_Tree := He.mkr_ok (c.fact 64 (f := .mkr "Tree") rfl)
  n_Tree_store := He.noat_ok (c.fact 65 (f := .noat "Tree" "store") rfl)
  n_Tree_paths := He.noat_ok (c.fact 66 (f := .noat "Tree" "paths") rfl)
  n_Tree_under := He.noat_ok (c.fact 67 (f := .noat "Tree" "under") rfl)
  n_Tree_used := He.noat_ok (c.fact 68 (f := .noat "Tree" "used") rfl)
  n_Tree_clock := He.noat_ok (c.fact 69 (f := .noat "Tree" "clock") rfl)
  g_Request := He.glo_ok X G (c.fact 70 (f := .glo "Request") rfl)
  cl_Request := He.cls_ok (c.fact 71 (f := .cls "Request") rfl)
  mk_Request := He.mkr_ok (c.fact 72 (f := .mkr "Request") rfl)
  n_Request_ask := He.noat_ok (c.fact 73 (f := .noat "Request" "ask") rfl)
  n_Request_text := He.noat_ok (c.fact 74 (f := .noat "Request" "text") rfl)
  n_Request_begun := He.noat_ok (c.fact 75 (f := .noat "Request" "begun") rfl)
  n_Request_table := He.noat_ok (c.fact 76 (f := .noat "Request" "table") rfl)
  n_Request_word := He.noat_ok (c.fact 77 (f := .noat "Request" "word") rfl)
  n_Request_aside := He.noat_ok (c.fact 78 (f := .noat "Request" "aside") rfl)
  n_Request_given := He.noat_ok (c.fact 79 (f := .noat "Request" "given") rfl)
  g_House := He.glo_ok X G (c.fact 80 (f := .glo "House") rfl)
  cl_House := He.cls_ok (c.fact 81 (f := .cls "House") rfl)
  mk_House := He.mkr_ok (c.fact 82 (f := .mkr "House") rfl)
  n_House_net := He.noat_ok (c.fact 83 (f := .noat "House" "net") rfl)
  n_House_store := He.noat_ok (c.fact 84 (f := .noat "House" "store") rfl)
  n_House_tree := He.noat_ok (c.fact 85 (f := .noat "House" "tree") rfl)
  n_House_requests := He.noat_ok (c.fact 86 (f := .noat "House" "requests") rfl)
  n_House_rows_made := He.noat_ok (c.fact 87 (f := .noat "House" "rows_made") rfl)
  m_Net_is_letter := He.meth_ok (c.fact 88 (f := .meth "Net" "is_letter") rfl)
  m_Net_rest := He.meth_ok (c.fact 89 (f := .meth "Net" "rest") rfl)
  m_Net_times := He.meth_ok (c.fact 90 (f := .meth "Net" "times") rfl)
  m_Net_plus := He.meth_ok (c.fact 91 (f := .meth "Net" "plus") rfl)
  m_Net_looked_at := He.meth_ok (c.fact 92 (f := .meth "Net" "looked_at") rfl)
  m_Net_row := He.meth_ok (c.fact 93 (f := .meth "Net" "row") rfl)
  m_Ask_let_weights := He.meth_ok (c.fact 94 (f := .meth "Ask" "let_weights") rfl)
  m_Ask_choice := He.meth_ok (c.fact 95 (f := .meth "Ask" "choice") rfl)
  m_Store_check_held := He.meth_ok (c.fact 96 (f := .meth "Store" "check_held") rfl)
  m_Store_check_alone := He.meth_ok (c.fact 97 (f := .meth "Store" "check_alone") rfl)
  m_Store_take := He.meth_ok (c.fact 98 (f := .meth "Store" "take") rfl)
  m_Store_hold := He.meth_ok (c.fact 99 (f := .meth "Store" "hold") rfl)
  m_Store_release := He.meth_ok (c.fact 100 (f := .meth "Store" "release") rfl)
  m_Store_put_row := He.meth_ok (c.fact 101 (f := .meth "Store" "put_row") rfl)
  m_Store_shorten := He.meth_ok (c.fact 102 (f := .meth "Store" "shorten") rfl)
  m_Store_rows := He.meth_ok (c.fact 103 (f := .meth "Store" "rows") rfl)
  m_Store_holders := He.meth_ok (c.fact 104 (f := .meth "Store" "holders") rfl)
  m_Table_rows := He.meth_ok (c.fact 105 (f := .meth "Table" "rows") rfl)
  m_Table_put_row := He.meth_ok (c.fact 106 (f := .meth "Table" "put_row") rfl)
  m_Table_own_last := He.meth_ok (c.fact 107 (f := .meth "Table" "own_last") rfl)
  m_Table_take_over := He.meth_ok (c.fact 108 (f := .meth "Table" "take_over") rfl)
  m_Table_exchange_last := He.meth_ok (c.fact 109 (f := .meth "Table" "exchange_last") rfl)
  m_Table_cut := He.meth_ok (c.fact 110 (f := .meth "Table" "cut") rfl)
  m_Tree_beginnings := He.meth_ok (c.fact 111 (f := .meth "Tree" "beginnings") rfl)
  m_Tree_use := He.meth_ok (c.fact 112 (f := .meth "Tree" "use") rfl)
  m_Tree_known := He.meth_ok (c.fact 113 (f := .meth "Tree" "known") rfl)
  m_Tree_put := He.meth_ok (c.fact 114 (f := .meth "Tree" "put") rfl)
  m_Tree_ends_of := He.meth_ok (c.fact 115 (f := .meth "Tree" "ends_of") rfl)
  m_Tree_oldest_of := He.meth_ok (c.fact 116 (f := .meth "Tree" "oldest_of") rfl)
  m_Tree_drop := He.meth_ok (c.fact 117 (f := .meth "Tree" "drop") rfl)
  m_Request_is_in := He.meth_ok (c.fact 118 (f := .meth "Request" "is_in") rfl)
  m_Request_whole := He.meth_ok (c.fact 119 (f := .meth "Request" "whole") rfl)
  m_Request_finish := He.meth_ok (c.fact 120 (f := .meth "Request" "finish") rfl)
  m_Request_write := He.meth_ok (c.fact 121 (f := .meth "Request" "write") rfl)
  m_House_add := He.meth_ok (c.fact 122 (f := .meth "House" "add") rfl)
  m_House_ask := He.meth_ok (c.fact 123 (f := .meth "House" "ask") rfl)
  m_House_request := He.meth_ok (c.fact 124 (f := .meth "House" "request") rfl)
  m_House_tickets := He.meth_ok (c.fact 125 (f := .meth "House" "tickets") rfl)
  m_House_going := He.meth_ok (c.fact 126 (f := .meth "House" "going") rfl)
  m_House_word := He.meth_ok (c.fact 127 (f := .meth "House" "word") rfl)
  m_House_text := He.meth_ok (c.fact 128 (f := .meth "House" "text") rfl)
  m_House_take_known := He.meth_ok (c.fact 129 (f := .meth "House" "take_known") rfl)
  m_House_has_put := He.meth_ok (c.fact 130 (f := .meth "House" "has_put") rfl)
  m_House_put_next := He.meth_ok (c.fact 131 (f := .meth "House" "put_next") rfl)
  m_House_advance := He.meth_ok (c.fact 132 (f := .meth "House" "advance") rfl)
  m_House_step := He.meth_ok (c.fact 133 (f := .meth "House" "step") rfl)
  m_Rule_after := He.meth_ok (c.fact 134 (f := .meth "Rule" "after") rfl)
  m_Rule_lets := He.meth_ok (c.fact 135 (f := .meth "Rule" "lets") rfl)
  b_isinstance := He.free_ok X G (c.fact 136 (f := .free "isinstance") rfl)
  b_int := He.free_ok X G (c.fact 137 (f := .free "int") rfl)
  b_bool := He.free_ok X G (c.fact 138 (f := .free "bool") rfl)
  b_tuple := He.free_ok X G (c.fact 139 (f := .free "tuple") rfl)
  b_str := He.free_ok X G (c.fact 140 (f := .free "str") rfl)
  b_zip := He.free_ok X G (c.fact 141 (f := .free "zip") rfl)
  b_enumerate := He.free_ok X G (c.fact 142 (f := .free "enumerate") rfl)
  b_len := He.free_ok X G (c.fact 143 (f := .free "len") rfl)
  b_range := He.free_ok X G (c.fact 144 (f := .free "range") rfl)
  b_sum := He.free_ok X G (c.fact 145 (f := .free "sum") rfl)
  b_sorted := He.free_ok X G (c.fact 146 (f := .free "sorted") rfl)
  b_abs := He.free_ok X G (c.fact 147 (f := .free "abs") rfl)
  b_min := He.free_ok X G (c.fact 148 (f := .free "min") rfl)
  b_max := He.free_ok X G (c.fact 149 (f := .free "max") rfl)
  b_list := He.free_ok X G (c.fact 150 (f := .free "list") rfl)
  i_MOST_LETTERS := He.int_ok X G (c.fact 151 (f := .int "MOST_LETTERS" 30) rfl)
  i_MOST_BLOCKS := He.int_ok X G (c.fact 152 (f := .int "MOST_BLOCKS" 60) rfl)
  i_MOST_ROWS := He.int_ok X G (c.fact 153 (f := .int "MOST_ROWS" 8) rfl)
  i_MOST_STEPS := He.int_ok X G (c.fact 154 (f := .int "MOST_STEPS" 60) rfl)
  g_NoRoom := He.glo_ok X G (c.fact 155 (f := .glo "NoRoom") rfl)
  g_PRIMES := He.glo_ok X G (c.fact 156 (f := .glo "PRIMES") rfl)
  k_NoRoom := He.keep_ok (c.fact 157 (f := .keep "NoRoom") rfl)
  x_NoRoom := He.exm_ok (c.fact 158 (f := .exm "NoRoom" "NoRoom" true) rfl)
  n_NoRoom_many := He.noat_ok (c.fact 159 (f := .noat "NoRoom" "many") rfl)
  d_NoRoom_init := c.def_ 0 (d := ⟨("NoRoom", some "__init__"), "__init__", "NoRoom.__init__", defArgs s_NoRoom_init, defBody s_NoRoom_init, defScope s_NoRoom_init, [], []⟩) rfl
  d_is_between := c.def_ 1 (d := ⟨("is_between", none), "is_between", "is_between", defArgs s_is_between, defBody s_is_between, defScope s_is_between, [], []⟩) rfl
  d_vector_of := c.def_ 2 (d := ⟨("vector_of", none), "vector_of", "vector_of", defArgs s_vector_of, defBody s_vector_of, defScope s_vector_of, [], []⟩) rfl
  d_matrix_of := c.def_ 3 (d := ⟨("matrix_of", none), "matrix_of", "matrix_of", defArgs s_matrix_of, defBody s_matrix_of, defScope s_matrix_of, [], []⟩) rfl
  d_product_sum := c.def_ 4 (d := ⟨("product_sum", none), "product_sum", "product_sum", defArgs s_product_sum, defBody s_product_sum, defScope s_product_sum, [], []⟩) rfl
  d_Net_init := c.def_ 5 (d := ⟨("Net", some "__init__"), "__init__", "Net.__init__", defArgs s_Net_init, defBody s_Net_init, defScope s_Net_init, [], []⟩) rfl
  d_Net_is_letter := c.def_ 6 (d := ⟨("Net", some "is_letter"), "is_letter", "Net.is_letter", defArgs s_Net_is_letter, defBody s_Net_is_letter, defScope s_Net_is_letter, [], []⟩) rfl
  d_Net_rest := c.def_ 7 (d := ⟨("Net", some "rest"), "rest", "Net.rest", defArgs s_Net_rest, defBody s_Net_rest, defScope s_Net_rest, [], []⟩) rfl
  d_Net_times := c.def_ 8 (d := ⟨("Net", some "times"), "times", "Net.times", defArgs s_Net_times, defBody s_Net_times, defScope s_Net_times, [], []⟩) rfl
  d_Net_plus := c.def_ 9 (d := ⟨("Net", some "plus"), "plus", "Net.plus", defArgs s_Net_plus, defBody s_Net_plus, defScope s_Net_plus, [], []⟩) rfl
  d_Net_looked_at := c.def_ 10 (d := ⟨("Net", some "looked_at"), "looked_at", "Net.looked_at", defArgs s_Net_looked_at, defBody s_Net_looked_at, defScope s_Net_looked_at, [], []⟩) rfl
  d_Net_row := c.def_ 11 (d := ⟨("Net", some "row"), "row", "Net.row", defArgs s_Net_row, defBody s_Net_row, defScope s_Net_row, [], []⟩) rfl
  d_greatest := c.def_ 12 (d := ⟨("greatest", none), "greatest", "greatest", defArgs s_greatest, defBody s_greatest, defScope s_greatest, [], []⟩) rfl
  d_by_number := c.def_ 13 (d := ⟨("by_number", none), "by_number", "by_number", defArgs s_by_number, defBody s_by_number, defScope s_by_number, [], []⟩) rfl
  d_Ask_init := c.def_ 14 (d := ⟨("Ask", some "__init__"), "__init__", "Ask.__init__", defArgs s_Ask_init, defBody s_Ask_init, defScope s_Ask_init, [], [("rule", .non)]⟩) rfl
  d_Ask_let_weights := c.def_ 15 (d := ⟨("Ask", some "let_weights"), "let_weights", "Ask.let_weights", defArgs s_Ask_let_weights, defBody s_Ask_let_weights, defScope s_Ask_let_weights, [], []⟩) rfl
  d_Ask_choice := c.def_ 16 (d := ⟨("Ask", some "choice"), "choice", "Ask.choice", defArgs s_Ask_choice, defBody s_Ask_choice, defScope s_Ask_choice, [], []⟩) rfl
  d_check_letters := c.def_ 17 (d := ⟨("check_letters", none), "check_letters", "check_letters", defArgs s_check_letters, defBody s_check_letters, defScope s_check_letters, [], []⟩) rfl
  d_stop_length := c.def_ 18 (d := ⟨("stop_length", none), "stop_length", "stop_length", defArgs s_stop_length, defBody s_stop_length, defScope s_stop_length, [], []⟩) rfl
  d_next_text := c.def_ 19 (d := ⟨("next_text", none), "next_text", "next_text", defArgs s_next_text, defBody s_next_text, defScope s_next_text, [], []⟩) rfl
  d_Store_init := c.def_ 20 (d := ⟨("Store", some "__init__"), "__init__", "Store.__init__", defArgs s_Store_init, defBody s_Store_init, defScope s_Store_init, [], []⟩) rfl
  d_Store_check_held := c.def_ 21 (d := ⟨("Store", some "check_held"), "check_held", "Store.check_held", defArgs s_Store_check_held, defBody s_Store_check_held, defScope s_Store_check_held, [], []⟩) rfl
  d_Store_check_alone := c.def_ 22 (d := ⟨("Store", some "check_alone"), "check_alone", "Store.check_alone", defArgs s_Store_check_alone, defBody s_Store_check_alone, defScope s_Store_check_alone, [], []⟩) rfl
  d_Store_take := c.def_ 23 (d := ⟨("Store", some "take"), "take", "Store.take", defArgs s_Store_take, defBody s_Store_take, defScope s_Store_take, [], []⟩) rfl
  d_Store_hold := c.def_ 24 (d := ⟨("Store", some "hold"), "hold", "Store.hold", defArgs s_Store_hold, defBody s_Store_hold, defScope s_Store_hold, [], []⟩) rfl
  d_Store_release := c.def_ 25 (d := ⟨("Store", some "release"), "release", "Store.release", defArgs s_Store_release, defBody s_Store_release, defScope s_Store_release, [], []⟩) rfl
  d_Store_put_row := c.def_ 26 (d := ⟨("Store", some "put_row"), "put_row", "Store.put_row", defArgs s_Store_put_row, defBody s_Store_put_row, defScope s_Store_put_row, [], []⟩) rfl
  d_Store_shorten := c.def_ 27 (d := ⟨("Store", some "shorten"), "shorten", "Store.shorten", defArgs s_Store_shorten, defBody s_Store_shorten, defScope s_Store_shorten, [], []⟩) rfl
  d_Store_rows := c.def_ 28 (d := ⟨("Store", some "rows"), "rows", "Store.rows", defArgs s_Store_rows, defBody s_Store_rows, defScope s_Store_rows, [], []⟩) rfl
  d_Store_holders := c.def_ 29 (d := ⟨("Store", some "holders"), "holders", "Store.holders", defArgs s_Store_holders, defBody s_Store_holders, defScope s_Store_holders, [], []⟩) rfl
  d_Table_init := c.def_ 30 (d := ⟨("Table", some "__init__"), "__init__", "Table.__init__", defArgs s_Table_init, defBody s_Table_init, defScope s_Table_init, [], []⟩) rfl
  d_Table_rows := c.def_ 31 (d := ⟨("Table", some "rows"), "rows", "Table.rows", defArgs s_Table_rows, defBody s_Table_rows, defScope s_Table_rows, [], []⟩) rfl
  d_Table_put_row := c.def_ 32 (d := ⟨("Table", some "put_row"), "put_row", "Table.put_row", defArgs s_Table_put_row, defBody s_Table_put_row, defScope s_Table_put_row, [], []⟩) rfl
  d_Table_own_last := c.def_ 33 (d := ⟨("Table", some "own_last"), "own_last", "Table.own_last", defArgs s_Table_own_last, defBody s_Table_own_last, defScope s_Table_own_last, [], []⟩) rfl
  d_Table_take_over := c.def_ 34 (d := ⟨("Table", some "take_over"), "take_over", "Table.take_over", defArgs s_Table_take_over, defBody s_Table_take_over, defScope s_Table_take_over, [], []⟩) rfl
  d_Table_exchange_last := c.def_ 35 (d := ⟨("Table", some "exchange_last"), "exchange_last", "Table.exchange_last", defArgs s_Table_exchange_last, defBody s_Table_exchange_last, defScope s_Table_exchange_last, [], []⟩) rfl
  d_Table_cut := c.def_ 36 (d := ⟨("Table", some "cut"), "cut", "Table.cut", defArgs s_Table_cut, defBody s_Table_cut, defScope s_Table_cut, [], []⟩) rfl
  d_Tree_init := c.def_ 37 (d := ⟨("Tree", some "__init__"), "__init__", "Tree.__init__", defArgs s_Tree_init, defBody s_Tree_init, defScope s_Tree_init, [], []⟩) rfl
  d_Tree_beginnings := c.def_ 38 (d := ⟨("Tree", some "beginnings"), "beginnings", "Tree.beginnings", defArgs s_Tree_beginnings, defBody s_Tree_beginnings, defScope s_Tree_beginnings, [], []⟩) rfl
  d_Tree_use := c.def_ 39 (d := ⟨("Tree", some "use"), "use", "Tree.use", defArgs s_Tree_use, defBody s_Tree_use, defScope s_Tree_use, [], []⟩) rfl
  d_Tree_known := c.def_ 40 (d := ⟨("Tree", some "known"), "known", "Tree.known", defArgs s_Tree_known, defBody s_Tree_known, defScope s_Tree_known, [], []⟩) rfl
  d_Tree_put := c.def_ 41 (d := ⟨("Tree", some "put"), "put", "Tree.put", defArgs s_Tree_put, defBody s_Tree_put, defScope s_Tree_put, [], []⟩) rfl
  d_Tree_ends_of := c.def_ 42 (d := ⟨("Tree", some "ends_of"), "ends_of", "Tree.ends_of", defArgs s_Tree_ends_of, defBody s_Tree_ends_of, defScope s_Tree_ends_of, [], []⟩) rfl
  d_Tree_oldest_of := c.def_ 43 (d := ⟨("Tree", some "oldest_of"), "oldest_of", "Tree.oldest_of", defArgs s_Tree_oldest_of, defBody s_Tree_oldest_of, defScope s_Tree_oldest_of, [], []⟩) rfl
  d_Tree_drop := c.def_ 44 (d := ⟨("Tree", some "drop"), "drop", "Tree.drop", defArgs s_Tree_drop, defBody s_Tree_drop, defScope s_Tree_drop, [], []⟩) rfl
  d_Request_init := c.def_ 45 (d := ⟨("Request", some "__init__"), "__init__", "Request.__init__", defArgs s_Request_init, defBody s_Request_init, defScope s_Request_init, [], []⟩) rfl
  d_Request_is_in := c.def_ 46 (d := ⟨("Request", some "is_in"), "is_in", "Request.is_in", defArgs s_Request_is_in, defBody s_Request_is_in, defScope s_Request_is_in, [], []⟩) rfl
  d_Request_whole := c.def_ 47 (d := ⟨("Request", some "whole"), "whole", "Request.whole", defArgs s_Request_whole, defBody s_Request_whole, defScope s_Request_whole, [], []⟩) rfl
  d_Request_finish := c.def_ 48 (d := ⟨("Request", some "finish"), "finish", "Request.finish", defArgs s_Request_finish, defBody s_Request_finish, defScope s_Request_finish, [], []⟩) rfl
  d_Request_write := c.def_ 49 (d := ⟨("Request", some "write"), "write", "Request.write", defArgs s_Request_write, defBody s_Request_write, defScope s_Request_write, [], []⟩) rfl
  d_House_init := c.def_ 50 (d := ⟨("House", some "__init__"), "__init__", "House.__init__", defArgs s_House_init, defBody s_House_init, defScope s_House_init, [], []⟩) rfl
  d_House_add := c.def_ 51 (d := ⟨("House", some "add"), "add", "House.add", defArgs s_House_add, defBody s_House_add, defScope s_House_add, [], []⟩) rfl
  d_House_ask := c.def_ 52 (d := ⟨("House", some "ask"), "ask", "House.ask", defArgs s_House_ask, defBody s_House_ask, defScope s_House_ask, [], []⟩) rfl
  d_House_request := c.def_ 53 (d := ⟨("House", some "request"), "request", "House.request", defArgs s_House_request, defBody s_House_request, defScope s_House_request, [], []⟩) rfl
  d_House_tickets := c.def_ 54 (d := ⟨("House", some "tickets"), "tickets", "House.tickets", defArgs s_House_tickets, defBody s_House_tickets, defScope s_House_tickets, [], []⟩) rfl
  d_House_going := c.def_ 55 (d := ⟨("House", some "going"), "going", "House.going", defArgs s_House_going, defBody s_House_going, defScope s_House_going, [], []⟩) rfl
  d_House_word := c.def_ 56 (d := ⟨("House", some "word"), "word", "House.word", defArgs s_House_word, defBody s_House_word, defScope s_House_word, [], []⟩) rfl
  d_House_text := c.def_ 57 (d := ⟨("House", some "text"), "text", "House.text", defArgs s_House_text, defBody s_House_text, defScope s_House_text, [], []⟩) rfl
  d_House_take_known := c.def_ 58 (d := ⟨("House", some "take_known"), "take_known", "House.take_known", defArgs s_House_take_known, defBody s_House_take_known, defScope s_House_take_known, [], []⟩) rfl
  d_House_has_put := c.def_ 59 (d := ⟨("House", some "has_put"), "has_put", "House.has_put", defArgs s_House_has_put, defBody s_House_has_put, defScope s_House_has_put, [], []⟩) rfl
  d_House_put_next := c.def_ 60 (d := ⟨("House", some "put_next"), "put_next", "House.put_next", defArgs s_House_put_next, defBody s_House_put_next, defScope s_House_put_next, [], []⟩) rfl
  d_House_advance := c.def_ 61 (d := ⟨("House", some "advance"), "advance", "House.advance", defArgs s_House_advance, defBody s_House_advance, defScope s_House_advance, [], []⟩) rfl
  d_House_step := c.def_ 62 (d := ⟨("House", some "step"), "step", "House.step", defArgs s_House_step, defBody s_House_step, defScope s_House_step, [], []⟩) rfl
  d_Rule_init := c.def_ 63 (d := ⟨("Rule", some "__init__"), "__init__", "Rule.__init__", defArgs s_Rule_init, defBody s_Rule_init, defScope s_Rule_init, [], []⟩) rfl
  d_Rule_after := c.def_ 64 (d := ⟨("Rule", some "after"), "after", "Rule.after", defArgs s_Rule_after, defBody s_Rule_after, defScope s_Rule_after, [], []⟩) rfl
  d_Rule_lets := c.def_ 65 (d := ⟨("Rule", some "lets"), "lets", "Rule.lets", defArgs s_Rule_lets, defBody s_Rule_lets, defScope s_Rule_lets, [], []⟩) rfl
  d_law_pool := c.def_ 66 (d := ⟨("_law_pool", none), "_law_pool", "_law_pool", defArgs s_law_pool, defBody s_law_pool, defScope s_law_pool, [], []⟩) rfl
  d_law_draw := c.def_ 67 (d := ⟨("_law_draw", none), "_law_draw", "_law_draw", defArgs s_law_draw, defBody s_law_draw, defScope s_law_draw, [], []⟩) rfl
  d_law_same := c.def_ 68 (d := ⟨("_law_same", none), "_law_same", "_law_same", defArgs s_law_same, defBody s_law_same, defScope s_law_same, [], []⟩) rfl
  d_law_vectors := c.def_ 69 (d := ⟨("_law_vectors", none), "_law_vectors", "_law_vectors", defArgs s_law_vectors, defBody s_law_vectors, defScope s_law_vectors, [], []⟩) rfl
  d_law_net := c.def_ 70 (d := ⟨("_law_net", none), "_law_net", "_law_net", defArgs s_law_net, defBody s_law_net, defScope s_law_net, [], []⟩) rfl
  d_law_times := c.def_ 71 (d := ⟨("_law_times", none), "_law_times", "_law_times", defArgs s_law_times, defBody s_law_times, defScope s_law_times, [], []⟩) rfl
  d_law_row := c.def_ 72 (d := ⟨("_law_row", none), "_law_row", "_law_row", defArgs s_law_row, defBody s_law_row, defScope s_law_row, [], []⟩) rfl
  d_law_behind := c.def_ 73 (d := ⟨("_law_behind", none), "_law_behind", "_law_behind", defArgs s_law_behind, defBody s_law_behind, defScope s_law_behind, [], []⟩) rfl
  d_law_as_net := c.def_ 74 (d := ⟨("_law_as_net", none), "_law_as_net", "_law_as_net", defArgs s_law_as_net, defBody s_law_as_net, defScope s_law_as_net, [], []⟩) rfl
  d_law_letters := c.def_ 75 (d := ⟨("_law_letters", none), "_law_letters", "_law_letters", defArgs s_law_letters, defBody s_law_letters, defScope s_law_letters, [], []⟩) rfl
  d_law_ask := c.def_ 76 (d := ⟨("_law_ask", none), "_law_ask", "_law_ask", defArgs s_law_ask, defBody s_law_ask, defScope s_law_ask, [], []⟩) rfl
  d_law_as_ask := c.def_ 77 (d := ⟨("_law_as_ask", none), "_law_as_ask", "_law_as_ask", defArgs s_law_as_ask, defBody s_law_as_ask, defScope s_law_as_ask, [], []⟩) rfl
  d_law_let := c.def_ 78 (d := ⟨("_law_let", none), "_law_let", "_law_let", defArgs s_law_let, defBody s_law_let, defScope s_law_let, [], []⟩) rfl
  d_law_choice := c.def_ 79 (d := ⟨("_law_choice", none), "_law_choice", "_law_choice", defArgs s_law_choice, defBody s_law_choice, defScope s_law_choice, [], []⟩) rfl
  d_law_written_on := c.def_ 80 (d := ⟨("_law_written_on", none), "_law_written_on", "_law_written_on", defArgs s_law_written_on, defBody s_law_written_on, defScope s_law_written_on, [], []⟩) rfl
  d_law_alone := c.def_ 81 (d := ⟨("_law_alone", none), "_law_alone", "_law_alone", defArgs s_law_alone, defBody s_law_alone, defScope s_law_alone, [], []⟩) rfl
  d_law_right := c.def_ 82 (d := ⟨("_law_right", none), "_law_right", "_law_right", defArgs s_law_right, defBody s_law_right, defScope s_law_right, [], []⟩) rfl
  d_law := c.def_ 83 (d := ⟨("law", none), "law", "law", defArgs s_law, defBody s_law, defScope s_law, [], []⟩) rfl
  primes := fun H => He.tupB_ok (He.ba m).1 H
  noRoom := noRoomB_ok (He.ba m).2
end Sv
end
section
set_option Elab.async false
set_option linter.all false
set_option maxRecDepth 100000
set_option maxHeartbeats 4000000
/-! Rules that the layer lacks: xs[i] op= e on a list, xs.extend(tuple), sum(tuple), an attribute as a target among others. -/
namespace Sv
open PySem PySem.Spec PyProof.Rows L2
section
variable {X : Cx}
/-- xs[i] read, for xs[i] op= e -/
theorem get_list : PGet X (rIxL X.K) := by
  intro pins s σ H o i ov iv Q I ro ri h
  obtain ⟨p, xs, k, z, rfl, rfl, hq, he, q⟩ := h
  cases ro
  obtain ⟨t, rfl⟩ := ri
  obtain ⟨its, r, pl, hz⟩ := I.list hq
  obtain ⟨j, h1, h2, h3, h4, h5⟩ := atI_get he
  obtain ⟨w, ew, rw'⟩ := r.get h2
  have hl := r.length
  have hn := line63
  have fin : EP X pins σ Q w s := ⟨z, H, I, rw', q⟩
  by_cases h0 : 0 ≤ k
  · have hj : k.toNat = j := by
      rw [seqIndex_of h0 h5] at h1
      exact Option.some.inj h1
    exact wpAny_getItem_list pl.isList h0 (by omega) (by rw [hj]; simpa using ew) fin
  · have hj : (k + (its.toArray.size : Int)).toNat = j := by
      rw [seqIndex_neg (by omega) h4] at h1
      rw [List.size_toArray, ← hl]
      exact Option.some.inj h1
    exact wpAny_getItem_list_neg pl.isList (by omega) (by rw [List.size_toArray]; omega) (by omega) (by rw [hj]; simpa using ew) fin
/-- xs.extend(t), t a tuple -/
theorem ext_tup_meets (l : Addr) (items : Array Value) (n : Nat) (b : Addr) (items2 : Array Value) (n2 : Nat) (dd : Option Addr) (sl : Array (Option Value)) (hs0 : ¬(!items.isEmpty && Builtin.List.listTooLong (items.size + items2.size)) = true) (hs1 : items.size ≤ sizeLine) (hs2 : items.size + items2.size ≤ sizeLine + 1) :
    Meets (Builtin.«list.extend» ⟨[.ref l, .ref b], []⟩) (fun _ R s => s.heap.get? l = some { cls := .type "list", dict := none, data := .seq items n, slots := #[] } ∧ s.heap.get? b = some { cls := .type "tuple", dict := dd, data := .seq items2 n2, slots := sl } ∧
      R (.ok (.ret Value.none)) { s with heap := s.heap.update l (Obj.mapSeq fun x => x ++ items2), toks := s.toks }) :=
  .of_wp fun prog w A R s h => by
    obtain ⟨hp, g, d, tk, os⟩ := s
    obtain ⟨hl, hb, h⟩ := h
    have f1 := PySem.AutoSeq1.idx_int
    have f2 := PySem.AutoSeq1.sub_tuple_tuple
    have f3 := PySem.AutoSeq1.sub_list_list
    have f4 := PySem.AutoSeq1.sub_tuple_list
    have f5 := PySem.AutoSeq1.sub_list_tuple
    have hz' : (items ++ items2).size ≤ sizeLine + 1 := by rw [Array.size_append]; exact hs2
    wp_walk using (wpAny_updateSeq hl rfl (hz := hs1) (_hz' := hz')), PySem.AutoSeq1.wpAny_loadPart' hl, PySem.AutoSeq1.wpAny_loadPart' hb
    exact ⟨_, rfl, h⟩
def rExtT (K : PySem.W.Frag) : V → List V → Hp → VK → Prop := fun x vs H Q => ∃ l b xs zs, x = .ref l ∧ vs = [.ref b] ∧ H l = some (.lst xs) ∧ SqT K H b zs ∧ xs.length + zs.length ≤ sizeLine ∧ Q .non (upd H l (.lst (xs ++ zs)))
theorem mt_extT : MtR X "list.extend" (rExtT X.K) := by
  intro pins s σ H x vs v us Q I rx rv h
  obtain ⟨l, b, xs, zs, rfl, rfl, hH, hB, hz, q⟩ := h
  cases rx
  obtain ⟨u, rfl, ru⟩ := rv.one
  cases ru
  obtain ⟨z, its, n, r, hl, e⟩ := I.lstM hH
  obtain ⟨its2, r2, ⟨⟨oc, od, odt, osl⟩, e2, hc, n2, hd⟩, hz2⟩ := I.tuple hB
  simp only at hc hd
  subst hc hd
  have hl2 := r2.length
  have hsz : its.toArray.size + its2.toArray.size ≤ sizeLine := by rw [List.size_toArray, List.size_toArray]; omega
  have hlong : ¬ (!its.toArray.isEmpty && Builtin.List.listTooLong (its.toArray.size + its2.toArray.size)) = true := by
    rw [notLongL hsz, Bool.and_false]
    exact Bool.false_ne_true
  refine call_meets PySem.F.slot_list_extend ⟨_, e, rfl⟩ PySem.F.entry_list_extend (PySem.F.args_list_extend_2 _ _)
    (ext_tup_meets l its.toArray n b its2.toArray n2 od osl hlong (by rw [List.size_toArray]; omega) (by omega)) ⟨e, e2, ?_⟩
  refine ⟨.non, _, I.lset (its' := its ++ its2) hH e (by simp) (r.append r2) ?_, rfl, q⟩
  rw [List.length_append]
  omega
/-- sum(t), t a tuple of whole numbers -/
theorem tup_it_kept {s : Shared} {l : Addr} {h' : Heap} (hk : ∀ b o, b ∉ [s.heap.objs.size] → (s.heap.push { cls := .type "tuple_iterator", data := .fields #[.ref l, .int 0 0] }).get? b = some o → h'.get? b = some o) :
    ∀ b o, s.heap.get? b = some o → h'.get? b = some o := fun b o e =>
  hk b o (fun hm => absurd (List.mem_singleton.mp hm ▸ Heap.lt_size e) (Nat.lt_irrefl _)) (Heap.get?_push_of_some _ e)
theorem sum_tupG {prog : Program} {w : World} {A : Around} {E : Value → Shared → Prop} {s : Shared} {l : Addr} {xs : Array (Int × Tok)} {Q : Value → Shared → Prop} (hh : A.handled = none) (hl : s.heap.IsTuple l (intItems xs))
    (h : ∀ h' tk t', (∀ b o, s.heap.get? b = some o → h'.get? b = some o) → Q (.int (preSum (numAt xs) xs.size) t') { s with heap := h', toks := tk }) :
    wpAny (model prog w) A (call (.builtin "sum") [.ref l]) Q E s := by
  have hlt : l < s.heap.objs.size := by obtain ⟨_, e, _⟩ := hl; exact Heap.lt_size e
  refine call_sum_walkG (wpAny_pyIter_tuple hl ?_)
  refine ⟨_, _, _, _, _, _, numAt xs, rfl, Walks.tuple (A := A.in1) hh _ l (Nat.ne_of_lt hlt) (intItems xs), ⟨⟨_, Heap.get?_push_size _ rfl, rfl, rfl⟩, hl.push _⟩, fun b hb => ?_, (fun _ _ => intItems_at), fun h' tk t' hk => ?_⟩
  · show b < (s.heap.push _).objs.size
    rw [Heap.size_push]
    rcases List.mem_cons.mp hb with rfl | hb
    · exact Nat.lt_succ_self _
    · rcases List.mem_cons.mp hb with rfl | hb
      · exact Nat.lt_succ_of_lt hlt
      · cases hb
  · have z := h h' tk t' (tup_it_kept hk)
    simpa [intItems] using z
def rSumT (K : PySem.W.Frag) : List V → Hp → VK → Prop := fun vs H Q => ∃ (a : Addr) (ns : List Int), vs = [V.ref a] ∧ SqT K H a (ns.map V.int) ∧ Q (.int ns.sum) H
theorem cr_sumT (hc : X.calm = true) : CallR X (.builtin "sum") (rSumT X.K) := by
  intro pins s σ H vs us Q I r h
  obtain ⟨a, ns, rfl, hs, q⟩ := h
  obtain ⟨its, rv, hl, _⟩ := I.tuple hs
  rw [Vals.ref1 r]
  have hi := rv.ints
  obtain ⟨xs, e⟩ := hi.allInts.items
  have hn : numsOf (intItems xs).toList = ns := by rw [← e]; exact hi.numsOf
  rw [nums_intItems] at hn
  have hl' : s.heap.IsTuple a its.toArray := hl
  rw [e] at hl'
  refine sum_tupG (I.ok.hd hc) hl' fun h' tk t' hk => ⟨.int ns.sum, H, I.kept hk, ⟨t', ?_⟩, q⟩
  rw [preSum_eq, List.take_of_length_le (by simp), hn]
/-- o.f as a target -/
def gFld (K : PySem.W.Frag) (ta : TE) (f : Str) : TG := fun v σ H Q => ta σ H fun x H2 => ∃ a C dx fs, x = .ref a ∧ H2 a = some (.ins C dx fs) ∧ Cls K C ∧ NoAttr K C f ∧ fs.length < 1000 ∧ Q σ (upd H2 a (.ins C dx (putF f v fs)))
theorem pg_fld {o : Expr} {f : Str} {pos : Pos} {ta : TE} (ha : PE X o ta) : PG X (.Attribute o f pos) (gFld X.K ta f) := by
  refine ⟨fun pins s σ H v u Q I r h => ?_⟩
  rw [assign_Attribute]
  refine wpAny_bind (wpAny_holding (thn (ha.run pins s σ H _ I h) fun ov s2 hh => ?_))
  obtain ⟨x, H2, I2, rx, a, C, dx, fs, ex, ea, c, n, l, q2⟩ := hh
  subst ex
  obtain rfl : ov = Value.ref a := rx
  refine wpAny_bind (wpAny_standAt (wpAny_bind (wpAny_holding (setattr_ok I2 ea c n l r fun s3 I3 => ?_))))
  exact wpAny_release ⟨σ, _, I3, q2⟩
end
end Sv
end
section
set_option Elab.async false
set_option linter.all false
set_option maxRecDepth 100000
set_option maxHeartbeats 4000000
/-! zip of two, each a list or a tuple; enumerate of a list or a tuple: as things that are walked (over the library's GoesN). -/
namespace Sv
open PySem PySem.Spec PyProof.Rows L2
/-! ### a list (false) or a tuple (true) -/
def SqK (K : PySem.W.Frag) (k : Bool) (H : Hp) (a : Addr) (xs : List V) : Prop := cond k (SqT K H a xs) (SqL K H a xs)
def ItrK (k : Bool) (h : Heap) (it a : Addr) (i : Nat) : Prop := cond k (h.IsTupleIter it a i) (h.IsListIter it a i)
def HasK (k : Bool) (h : Heap) (a : Addr) (items : Array Value) : Prop := cond k (h.IsTuple a items) (h.IsList a items)
def itO (k : Bool) (a : Addr) : Obj := cond k { cls := .type "tuple_iterator", data := .fields #[.ref a, .int 0 0] } { cls := .type "list_iterator", data := .fields #[.ref a, .int 0 0] }
theorem SqK.l {K : PySem.W.Frag} {H : Hp} {a : Addr} {xs : List V} (h : SqL K H a xs) : SqK K false H a xs := h
theorem SqK.t {K : PySem.W.Frag} {H : Hp} {a : Addr} {xs : List V} (h : SqT K H a xs) : SqK K true H a xs := h
section
variable {X : Cx} {pins : List (Addr × Obj)} {σ : L2.St} {H : Hp} {s : Shared} {a : Addr} {xs ys : List V} {k : Bool}
theorem seqK (I : Inv X pins σ H s) (h : SqK X.K k H a xs) : ∃ its : List Value, Vals xs its ∧ HasK k s.heap a its.toArray := by
  cases k with
  | true =>
    obtain ⟨its, r, p, _⟩ := I.tuple h
    exact ⟨its, r, p⟩
  | false =>
    obtain ⟨its, r, p, _⟩ := I.list h
    exact ⟨its, r, p.isList⟩
theorem seqK_inj (I : Inv X pins σ H s) (h : SqK X.K k H a xs) (h' : SqK X.K k H a ys) : xs = ys := by
  cases k with
  | true => exact I.tuple_inj h h'
  | false => exact I.list_inj h h'
theorem HasK.lt {h : Heap} {items : Array Value} (x : HasK k h a items) : a < h.objs.size := by
  cases k with
  | true => obtain ⟨o, e, _⟩ := x; exact Heap.lt_size e
  | false => obtain ⟨o, e, _⟩ := x; exact Heap.lt_size e
theorem ItrK.at_ {h h' : Heap} {it : Addr} {i : Nat} (x : ItrK k h it a i) (q : ∀ o, h.get? it = some o → h'.get? it = some o) : ItrK k h' it a i := by
  cases k with
  | true => exact Heap.IsTupleIter.at (show h.IsTupleIter it a i from x) q
  | false => exact Heap.IsListIter.at (show h.IsListIter it a i from x) q
theorem ItrK.obj {h : Heap} {it : Addr} {i : Nat} (x : ItrK k h it a i) : ∃ o, h.get? it = some o ∧ ∀ v, o.data ≠ .cell v := by
  cases k with
  | true => obtain ⟨o, e, _, d⟩ := x; exact ⟨o, e, fun v z => by rw [d] at z; cases z⟩
  | false => obtain ⟨o, e, _, d⟩ := x; exact ⟨o, e, fun v z => by rw [d] at z; cases z⟩
theorem itrK_new {h : Heap} {it : Addr} (e : h.get? it = some (itO k a)) : ItrK k h it a 0 := by
  cases k with
  | true => exact ⟨_, e, rfl, rfl⟩
  | false => exact ⟨_, e, rfl, rfl⟩
theorem drawsK {prog : Program} {w : World} {A : Around} (hh : A.handled = none) (k : Bool) (it t : Addr) (hne : t ≠ it) (items : Array Value) :
    Draws prog w A it [it, t] items.size (fun i v => items[i]? = some v) (fun i h => ItrK k h it t i ∧ HasK k h t items) := by
  cases k with
  | true => exact Draws.tuple hh it t hne items
  | false => exact Draws.list hh it t hne items
theorem beginsK (k : Bool) (t : Addr) (items : Array Value) : Begins (.ref t) (itO k t) fun h => HasK k h t items := by
  cases k with
  | true => exact begins_tuple t items
  | false => exact begins_list t items
/-- the turn of an iterator of pairs: what stood stands, a new tuple -/
theorem turned_pair {ch : List Addr} {h' : Heap} {tk : Nat} {T : Addr} {u v : Value} {x y : V} (I : Inv X pins σ H s) (hk : ∀ b o, b ∉ ch → s.heap.get? b = some o → h'.get? b = some o) (hf : ∀ b ∈ ch, FpOk X pins H b)
    (hn : s.heap.objs.size ≤ T) (hT : h'.IsTuple T #[u, v]) (ru : RelV x u) (rv : RelV y v) : Inv X pins σ (upd H T (.tup [x, y])) { s with heap := h', toks := tk } :=
  I.turnedNew (t' := tk) (ch := ch) hk hf hn ⟨by show 2 ≤ sizeLine; decide, [u, v], .cons ru (.cons rv .nil), hT⟩
end
/-! ### zip -/
def Itz2 (K : PySem.W.Frag) (k1 k2 : Bool) (a b : Addr) : It :=
  ⟨fun i H => ∃ (xs ys : List V) (x y : V), SqK K k1 H a xs ∧ SqK K k2 H b ys ∧ xs[i]? = some x ∧ ys[i]? = some y,
    fun i H v H' => ∃ T x y, v = .ref T ∧ H T = none ∧ H' = upd H T (.tup [x, y]) ∧ (∀ xs, SqK K k1 H a xs → xs[i]? = some x) ∧ ∀ ys, SqK K k2 H b ys → ys[i]? = some y,
    fun i H => ∃ xs ys : List V, SqK K k1 H a xs ∧ SqK K k2 H b ys ∧ (xs.length = i ∧ i ≤ ys.length ∨ ys.length = i ∧ i ≤ xs.length)⟩
theorem five_lt {h : Heap} {z TI TO i1 i2 c : Addr} {oz ot oo : Obj} {k1 k2 : Bool} {a b : Addr} {i : Nat} (hz : h.get? z = some oz) (hTI : h.get? TI = some ot) (hTO : h.get? TO = some oo) (h1 : ItrK k1 h i1 a i) (h2 : ItrK k2 h i2 b i)
    (hc : c ∈ [z, TI, TO, i1, i2]) : c < h.objs.size := by
  have e : c = z ∨ c = TI ∨ c = TO ∨ c = i1 ∨ c = i2 := by simpa using hc
  rcases e with q | q | q | q | q
  · rw [q]; exact Heap.lt_size hz
  · rw [q]; exact Heap.lt_size hTI
  · rw [q]; exact Heap.lt_size hTO
  · rw [q]; obtain ⟨_, e1, _⟩ := h1.obj; exact Heap.lt_size e1
  · rw [q]; obtain ⟨_, e2, _⟩ := h2.obj; exact Heap.lt_size e2
/-- the five cells of a zip stand apart from each other and from what is zipped -/
structure Sep5 (z TI TO i1 i2 a b : Addr) : Prop where
  S : ZipSep2 z TI TO i1 i2 [i1, a] [i2, b]
  n1 : a ≠ i1
  n2 : b ≠ i2
theorem turn_zip2 {P : Program} {w : World} {K : PySem.W.Frag} {elts : List Expr} {kk : Nat} {tpos : Pos} {a b z TI TO i1 i2 : Addr} {k1 k2 : Bool} (D : Sep5 z TI TO i1 i2 a b) :
    Turn P w K (.Tuple elts kk tpos) (Itz2 K k1 k2 a b) [z, TI, TO, i1, i2] z (fun i h => IsZip h z TI TO .none ∧ IsTupOf2 h TI (.ref i1) (.ref i2) ∧ (∃ x y, IsTupOf2 h TO x y) ∧ ItrK k1 h i1 a i ∧ ItrK k2 h i2 b i) where
  mem := List.mem_cons_self ..
  obj := fun i h st c hc => by
    obtain ⟨hz, hTI, ⟨x, y, hTO⟩, h1, h2⟩ := st
    have e : c = z ∨ c = TI ∨ c = TO ∨ c = i1 ∨ c = i2 := by simpa using hc
    rcases e with q | q | q | q | q <;> rw [q]
    · exact ⟨_, hz, fun v q => nomatch q⟩
    · exact ⟨_, hTI, fun v q => nomatch q⟩
    · exact ⟨_, hTO, fun v q => nomatch q⟩
    · exact h1.obj
    · exact h2.obj
  keep := fun i h h' st k => by
    obtain ⟨hz, hTI, ⟨x, y, hTO⟩, h1, h2⟩ := st
    exact ⟨k z (by simp) _ hz, k TI (by simp) _ hTI, ⟨x, y, k TO (by simp) _ hTO⟩, h1.at_ fun o q => k i1 (by simp) o q, h2.at_ fun o q => k i2 (by simp) o q⟩
  item := by
    intro X hP hw hK hc i pins s σ H E I hf st hg
    subst hP hw hK
    obtain ⟨hz, hTI, ⟨x0, y0, hTO⟩, h1, h2⟩ := id st
    obtain ⟨xs, ys, x, y, hqx, hqy, hx, hy⟩ := hg
    obtain ⟨its, rv, p⟩ := seqK I hqx
    obtain ⟨its2, rv2, p2⟩ := seqK I hqy
    have hh : X.A.in1.handled = none := I.ok.hd hc
    have G := GoesN.zip2 (elts := elts) (x1 := kk) (pos := tpos) D.S (drawsK (prog := X.prog) (w := X.w) hh k1 i1 a D.n1 its.toArray) (drawsK (prog := X.prog) (w := X.w) hh k2 i2 b D.n2 its2.toArray)
    have il : i < its.length := by rw [← rv.length]; exact (List.getElem?_eq_some_iff.mp hx).1
    have il2 : i < its2.length := by rw [← rv2.length]; exact (List.getElem?_eq_some_iff.mp hy).1
    refine G.goes i s (fun v s2 => ∃ x H', Inv X pins σ H' s2 ∧ RelV x v ∧ (Itz2 X.K k1 k2 a b).yld i H x H' ∧ _ ∧ ∀ b ∈ _, H' b = none) E (by simp; omega) ⟨hz, hTI, ⟨x0, y0, hTO⟩, ⟨h1, p⟩, h2, p2⟩ fun v h' tk hY st' hk htk => ?_
    obtain ⟨T, u, u2, rfl, hn, hu, hu2, hT⟩ := hY
    obtain ⟨hz', hTI', hTO', ⟨h1', _⟩, h2', _⟩ := st'
    have r1 : RelV x u := by
      obtain ⟨q, e1, e2⟩ := rv.get hx
      have e3 : its[i]? = some u := by simpa using hu
      rw [e1] at e3; cases e3; exact e2
    have r2 : RelV y u2 := by
      obtain ⟨q, e1, e2⟩ := rv2.get hy
      have e3 : its2[i]? = some u2 := by simpa using hu2
      rw [e1] at e3; cases e3; exact e2
    refine ⟨.ref T, _, turned_pair (ch := [z, TI, TO, i1, i2]) I (fun b o hb => hk b o fun hm => hb (by simp at hm ⊢; rcases hm with q | q | q | q <;> simp [q])) hf hn hT r1 r2, rfl,
      ⟨T, x, y, rfl, I.hok.fresh hn, rfl, fun l hl => by rw [seqK_inj I hl hqx]; exact hx, fun l hl => by rw [seqK_inj I hl hqy]; exact hy⟩, ⟨hz', hTI', hTO', h1', h2'⟩, fun c hcm => ?_⟩
    have lt := five_lt hz hTI hTO h1 h2 hcm
    rw [upd_ne (Nat.ne_of_lt (Nat.lt_of_lt_of_le lt hn))]
    exact (hf c hcm).1
  done := by
    intro X hP hw hK hc i pins s σ H E I hf st hg
    subst hP hw hK
    obtain ⟨hz, hTI, hTO, h1, h2⟩ := id st
    obtain ⟨xs, ys, hqx, hqy, hend⟩ := hg
    obtain ⟨its, rv, p⟩ := seqK I hqx
    obtain ⟨its2, rv2, p2⟩ := seqK I hqy
    have hh : X.A.in1.handled = none := I.ok.hd hc
    have G := GoesN.zip2 (elts := elts) (x1 := kk) (pos := tpos) D.S (drawsK (prog := X.prog) (w := X.w) hh k1 i1 a D.n1 its.toArray) (drawsK (prog := X.prog) (w := X.w) hh k2 i2 b D.n2 its2.toArray)
    have l1 := rv.length
    have l2 := rv2.length
    have ei : min its.toArray.size its2.toArray.size = i := by
      simp only [List.size_toArray]
      rcases hend with ⟨q, q2⟩ | ⟨q, q2⟩ <;> omega
    rw [ei] at G
    refine G.stops s (fun s1 => Inv X pins σ H s1) E ⟨hz, hTI, hTO, ⟨h1, p⟩, h2, p2⟩ fun h' tk hk htk => ?_
    exact I.turnedL (t' := tk) (ch := [z, TI, TO, i1, i2]) (fun b o hb => hk b o fun hm => hb (by simp at hm ⊢; rcases hm with q | q | q | q <;> simp [q])) hf
  self := fun A i s Q E st h => wpAny_pyIter_zip st.1 h
def iZip2 (K : PySem.W.Frag) (k1 k2 : Bool) (ta : TA) : TI := fun σ H R => ta σ H fun vs H1 => ∃ a b xs ys, vs = [.ref a, .ref b] ∧ SqK K k1 H1 a xs ∧ SqK K k2 H1 b ys ∧ R (Itz2 K k1 k2 a b) H1
theorem sep5 {N a b : Addr} (ha : a < N) (hb : b < N) : Sep5 (N + 4) (N + 2) (N + 3) N (N + 1) a b where
  S := zip_sep2 (fp1 := [a]) (fp2 := [b]) (by simpa using ha) (by simpa using hb)
  n1 := Nat.ne_of_lt ha
  n2 := Nat.ne_of_lt (Nat.lt_succ_of_lt hb)
theorem pi_zip2 (k1 k2 : Bool) {X : Cx} {e e2 : Expr} {ta : TA} {p pos tpos : Pos} {elts : List Expr} {kk : Nat} (hg : Gl X "zip") (hm : X.mg "zip" = none) (ha : PA X [e, e2] ta)
    (hs : starEach [e, e2] X.env = (false, eval e X.env) :: starEach [e2] X.env := by rfl) (hpl : (backTo pos (starEach [e2] X.env)).any (·.1) = false := by rfl) :
    PI X (.Tuple elts kk tpos) (.Call (.Name "zip" p) [e, e2] [] pos) (iZip2 X.K k1 k2 ta) := by
  refine ⟨fun pins s σ H R I h => ?_⟩
  refine Call_ (ld_blt I hg hm PyProof.Rows.boot_zip (PyProof.Rows.callWith_type1 (thn (ha.run pos pins s σ H _ I h) fun us s1 hh => ?_) hs hpl))
  obtain ⟨vs, H1, I1, r1, a, b, xs, ys, ex, hqx, hqy, q⟩ := hh
  subst ex
  obtain ⟨u1, u2, rfl, rfl, rfl⟩ := r1.two
  obtain ⟨its, rv, p1⟩ := seqK I1 hqx
  obtain ⟨its2, rv2, p2⟩ := seqK I1 hqy
  refine zip_begins2 (beginsK k1 a its.toArray) (beginsK k2 b its2.toArray) p1 p2 fun h' hz hTI hTO h1 h2 hsz hk => wpAny_pyIter_zip hz ?_
  refine ⟨s1.heap.objs.size + 4, [s1.heap.objs.size + 4, s1.heap.objs.size + 2, s1.heap.objs.size + 3, s1.heap.objs.size, s1.heap.objs.size + 1], _, _, H1, rfl, I1.kept (t' := s1.toks) hk, turn_zip2 (sep5 p1.lt p2.lt), ⟨hz, hTI, ⟨_, _, hTO⟩, itrK_new h1, itrK_new h2⟩, fun c hcm => ?_, q⟩
  have e : c = s1.heap.objs.size + 4 ∨ c = s1.heap.objs.size + 2 ∨ c = s1.heap.objs.size + 3 ∨ c = s1.heap.objs.size ∨ c = s1.heap.objs.size + 1 := by simpa using hcm
  have hle : s1.heap.objs.size ≤ c := by
    rcases e with z | z | z | z | z <;> rw [z] <;> first | exact Nat.le_add_right _ _ | exact Nat.le_refl _
  exact I1.fpOk hle (I1.hok.fresh hle)
theorem walk_zip2 {K : PySem.W.Frag} {k1 k2 : Bool} {a b : Addr} {xs ys : List V} {n : Nat} (hn : n = min xs.length ys.length) :
    Walk (Itz2 K k1 k2 a b) n (fun H => SqK K k1 H a xs ∧ SqK K k2 H b ys) (YPair (fun i => xs[i]?) (fun i => ys[i]?)) := by
  subst hn
  refine ⟨fun i H hi q => ?_, fun H q => ⟨xs, ys, q.1, q.2, by omega⟩, fun i H v H' hi q y => ?_⟩
  · have h1 : i < xs.length := by omega
    have h2 : i < ys.length := by omega
    exact ⟨xs, ys, xs[i], ys[i], q.1, q.2, by simp [h1], by simp [h2]⟩
  · obtain ⟨T, x, z, e1, e2, e3, e4, e5⟩ := y
    exact ⟨T, x, z, e1, e2, e3, e4 xs q.1, e5 ys q.2⟩
/-! ### enumerate -/
set_option maxHeartbeats 1000000 in
theorem enum_new1 {v : Value} {o : Obj} {H : Heap → Prop} (B : Begins v o H) :
    Meets (Builtin.«enumerate.__new__» ⟨[.type "enumerate", v], []⟩) (fun _ R s => H s.heap ∧
      R (.ok (.ret (.ref (s.heap.push o).objs.size))) { s with heap := (s.heap.push o).push { cls := .type "enumerate", data := .fields #[.none, .bool false, .ref s.heap.objs.size, rawInt 0, .none, .none] } }) :=
  .of_wp fun prog w A R s h => by
    obtain ⟨hp, g, d, tk, os⟩ := s
    obtain ⟨h1, h⟩ := h
    have hsub := sub_enumerate
    have q1 : ∀ {A' : Around} {E : Value → Shared → Prop} {Q : Value → Shared → Prop}, Q (.ref hp.objs.size) ⟨hp.push o, g, d, tk, os⟩ → wpAny (model prog w) A' (pyIter v) Q E ⟨hp, g, d, tk, os⟩ :=
      fun q => B.iter prog w _ _ ⟨hp, g, d, tk, os⟩ _ h1 q
    wp_walk using q1
    refine wpAny_stack_any fun st => wpAny_pure ?_
    split
    · rename_i c _ _ _ _ _
      cases (c == Value.type "enumerate") <;> wp_walk using q1 <;> exact ⟨_, rfl, h⟩
    · wp_walk using q1
      exact ⟨_, rfl, h⟩
theorem call_enum1 {prog : Program} {w : World} {A : Around} {E : Value → Shared → Prop} {s : Shared} {v : Value} {o : Obj} {H : Heap → Prop} {Q : Value → Shared → Prop} (B : Begins v o H) (h1 : H s.heap)
    (h : ∀ h', IsEnum h' (s.heap.objs.size + 1) s.heap.objs.size 0 .none → h'.get? s.heap.objs.size = some o →
      (∀ b o, s.heap.get? b = some o → h'.get? b = some o) → Q (.ref (s.heap.objs.size + 1)) { s with heap := h' }) :
    wpAny (model prog w) A (call (.type "enumerate") [v]) Q E s := by
  refine callType_new F.called_enumerate (by decide) (F.typeCall_enumerate_1 _) (F.newCall_enumerate_1 _) (fun obj => F.args_object_init_2 obj _) F.entry_enumerate_new (enum_new1 B) ⟨h1, ?_⟩
  have hz : (s.heap.push o).objs.size = s.heap.objs.size + 1 := Heap.size_push ..
  show _ ∧ _
  rw [hz]
  have he : IsEnum ((s.heap.push o).push { cls := .type "enumerate", data := .fields #[.none, .bool false, .ref s.heap.objs.size, rawInt 0, .none, .none] }) (s.heap.objs.size + 1) s.heap.objs.size 0 .none := by
    have q := Heap.get?_push_size (s.heap.push o) (o := { cls := .type "enumerate", data := .fields #[.none, .bool false, .ref s.heap.objs.size, rawInt 0, .none, .none] }) rfl
    rw [hz] at q
    exact q
  exact ⟨⟨_, he, rfl⟩, h _ he (Heap.get?_push_of_some _ (Heap.get?_push_size _ B.free)) fun b o x => Heap.get?_push_of_some _ (Heap.get?_push_of_some _ x)⟩
def Ite2 (K : PySem.W.Frag) (k : Bool) (a : Addr) : It :=
  ⟨fun i H => ∃ (xs : List V) (x : V), SqK K k H a xs ∧ xs[i]? = some x,
    fun i H v H' => ∃ T x, v = .ref T ∧ H T = none ∧ H' = upd H T (.tup [.int (i : Nat), x]) ∧ ∀ xs, SqK K k H a xs → xs[i]? = some x,
    fun i H => ∃ xs : List V, SqK K k H a xs ∧ xs.length = i⟩
theorem turn_enum2 {P : Program} {w : World} {K : PySem.W.Frag} {elts : List Expr} {kk : Nat} {tpos : Pos} {a e it : Addr} {k : Bool} (n1 : a ≠ it) (n2 : e ≠ it) (n3 : e ≠ a) :
    Turn P w K (.Tuple elts kk tpos) (Ite2 K k a) [e, it] e (fun i h => (∃ old, IsEnum h e it ((i : Nat) : Int) old) ∧ ItrK k h it a i) where
  mem := List.mem_cons_self ..
  obj := fun i h st c hc => by
    obtain ⟨⟨old, he⟩, h1⟩ := st
    have q : c = e ∨ c = it := by simpa using hc
    rcases q with q | q <;> rw [q]
    · exact ⟨_, he, fun v q => nomatch q⟩
    · exact h1.obj
  keep := fun i h h' st k => by
    obtain ⟨⟨old, he⟩, h1⟩ := st
    exact ⟨⟨old, k e (by simp) _ he⟩, h1.at_ fun o q => k it (by simp) o q⟩
  item := by
    intro X hP hw hK hc i pins s σ H E I hf st hg
    subst hP hw hK
    obtain ⟨⟨old, he⟩, h1⟩ := id st
    obtain ⟨xs, x, hqx, hx⟩ := hg
    obtain ⟨its, rv, p⟩ := seqK I hqx
    have hh : X.A.in1.handled = none := I.ok.hd hc
    have G := GoesN.enumFrom (elts := elts) (x1 := kk) (pos := tpos) 0 (drawsK (prog := X.prog) (w := X.w) hh k it a n1 its.toArray) e n2 (by simp [n2, n3]) (by simp)
    have il : i < its.length := by rw [← rv.length]; exact (List.getElem?_eq_some_iff.mp hx).1
    refine G.goes i s (fun v s2 => ∃ x H', Inv X pins σ H' s2 ∧ RelV x v ∧ (Ite2 X.K k a).yld i H x H' ∧ _ ∧ ∀ b ∈ _, H' b = none) E (by simpa using il) ⟨⟨old, by rw [Int.zero_add]; exact he⟩, h1, p⟩ fun v h' tk hY st' hk htk => ?_
    obtain ⟨T, t, u, rfl, hn, hu, hT⟩ := hY
    obtain ⟨⟨old', he'⟩, h1', _⟩ := st'
    rw [Int.zero_add] at he' hT
    have r1 : RelV x u := by
      obtain ⟨q, e1, e2⟩ := rv.get hx
      have e3 : its[i]? = some u := by simpa using hu
      rw [e1] at e3; cases e3; exact e2
    refine ⟨.ref T, _, turned_pair (x := .int (i : Nat)) (ch := [e, it]) I (fun b o hb => hk b o hb) hf hn hT ⟨t, rfl⟩ r1, rfl,
      ⟨T, x, rfl, I.hok.fresh hn, rfl, fun l hl => by rw [seqK_inj I hl hqx]; exact hx⟩, ⟨⟨old', he'⟩, h1'⟩, fun c hcm => ?_⟩
    have lt : c < s.heap.objs.size := by
      have q : c = e ∨ c = it := by simpa using hcm
      rcases q with q | q <;> rw [q]
      · exact Heap.lt_size he
      · obtain ⟨_, e1, _⟩ := h1.obj; exact Heap.lt_size e1
    rw [upd_ne (Nat.ne_of_lt (Nat.lt_of_lt_of_le lt hn))]
    exact (hf c hcm).1
  done := by
    intro X hP hw hK hc i pins s σ H E I hf st hg
    subst hP hw hK
    obtain ⟨⟨old, he⟩, h1⟩ := id st
    obtain ⟨xs, hqx, hend⟩ := hg
    obtain ⟨its, rv, p⟩ := seqK I hqx
    have hh : X.A.in1.handled = none := I.ok.hd hc
    have G := GoesN.enumFrom (elts := elts) (x1 := kk) (pos := tpos) 0 (drawsK (prog := X.prog) (w := X.w) hh k it a n1 its.toArray) e n2 (by simp [n2, n3]) (by simp)
    have ei : its.toArray.size = i := by
      rw [List.size_toArray, ← rv.length, hend]
    rw [ei] at G
    refine G.stops s (fun s1 => Inv X pins σ H s1) E ⟨⟨old, by rw [Int.zero_add]; exact he⟩, h1, p⟩ fun h' tk hk htk => ?_
    exact I.turnedL (t' := tk) (ch := [e, it]) (fun b o hb => hk b o hb) hf
  self := fun A i s Q E st h => by
    obtain ⟨⟨old, he⟩, _⟩ := st
    exact wpAny_pyIter_enum he h
def iEnum2 (K : PySem.W.Frag) (k : Bool) (ta : TA) : TI := fun σ H R => ta σ H fun vs H1 => ∃ a xs, vs = [.ref a] ∧ SqK K k H1 a xs ∧ R (Ite2 K k a) H1
theorem pi_enum2 (k : Bool) {X : Cx} {e : Expr} {ta : TA} {p pos tpos : Pos} {elts : List Expr} {kk : Nat} (hg : Gl X "enumerate") (hm : X.mg "enumerate" = none) (ha : PA X [e] ta) (hs : starEach [e] X.env = [(false, eval e X.env)] := by rfl) :
    PI X (.Tuple elts kk tpos) (.Call (.Name "enumerate" p) [e] [] pos) (iEnum2 X.K k ta) := by
  refine ⟨fun pins s σ H R I h => ?_⟩
  refine Call_ (ld_blt I hg hm boot_enumerate (PyProof.Rows.callWith_type1 (thn (ha.run pos pins s σ H _ I h) fun us s1 hh => ?_) hs rfl))
  obtain ⟨vs, H1, I1, r1, a, xs, ex, hqx, q⟩ := hh
  subst ex
  obtain ⟨u1, rfl, rfl⟩ := r1.one
  obtain ⟨its, rv, p1⟩ := seqK I1 hqx
  refine call_enum1 (beginsK k a its.toArray) p1 fun h' he h1 hk => wpAny_pyIter_enum he ?_
  have la := p1.lt
  refine ⟨s1.heap.objs.size + 1, [s1.heap.objs.size + 1, s1.heap.objs.size], _, _, H1, rfl, I1.kept (t' := s1.toks) hk, turn_enum2 (Nat.ne_of_lt la) (Nat.succ_ne_self _) (Nat.ne_of_gt (Nat.lt_succ_of_lt la)), ⟨⟨_, he⟩, itrK_new h1⟩, fun c hcm => ?_, q⟩
  have e : c = s1.heap.objs.size + 1 ∨ c = s1.heap.objs.size := by simpa using hcm
  have hle : s1.heap.objs.size ≤ c := by
    rcases e with z | z <;> rw [z] <;> first | exact Nat.le_add_right _ _ | exact Nat.le_refl _
  exact I1.fpOk hle (I1.hok.fresh hle)
theorem walk_enum2 {K : PySem.W.Frag} {k : Bool} {a : Addr} {xs : List V} : Walk (Ite2 K k a) xs.length (fun H => SqK K k H a xs) (YPair (fun i => some (.int (i : Nat))) (fun i => xs[i]?)) := by
  refine ⟨fun i H hi q => ⟨xs, xs[i], q, by simp [hi]⟩, fun H q => ⟨xs, q, rfl⟩, fun i H v H' hi q y => ?_⟩
  obtain ⟨T, x, e1, e2, e3, e4⟩ := y
  exact ⟨T, .int (i : Nat), x, e1, e2, e3, rfl, e4 xs q⟩
end Sv
end
section
set_option Elab.async false
set_option linter.all false
set_option maxRecDepth 100000
set_option maxHeartbeats 4000000
/-! Own words: a def with its promise by name; data that never changes; what stands. -/
namespace Sv
open PySem PySem.Spec PyProof.Rows L2
/-! ### promises by their arguments -/
abbrev P1 := V → Hp → VK → Prop
abbrev P2 := V → V → Hp → VK → Prop
abbrev P3 := V → V → V → Hp → VK → Prop
abbrev P4 := V → V → V → V → Hp → VK → Prop
abbrev P6 := V → V → V → V → V → V → Hp → VK → Prop
abbrev P7 := V → V → V → V → V → V → V → Hp → VK → Prop
abbrev Sp1 (p : P1) : Sp := fun vs H Q _ => ∃ a, vs = [a] ∧ p a H Q
abbrev Sp2 (p : P2) : Sp := fun vs H Q _ => ∃ a b, vs = [a, b] ∧ p a b H Q
abbrev Sp3 (p : P3) : Sp := fun vs H Q _ => ∃ a b c, vs = [a, b, c] ∧ p a b c H Q
abbrev Sp4 (p : P4) : Sp := fun vs H Q _ => ∃ a b c d, vs = [a, b, c, d] ∧ p a b c d H Q
abbrev Sp6 (p : P6) : Sp := fun vs H Q _ => ∃ a b c d e f, vs = [a, b, c, d, e, f] ∧ p a b c d e f H Q
abbrev Sp7 (p : P7) : Sp := fun vs H Q _ => ∃ a b c d e f g, vs = [a, b, c, d, e, f, g] ∧ p a b c d e f g H Q
/-! ### a def, a method, a class that is made: with what it promises -/
section
variable (P : Program) (w : World) (K : PySem.W.Frag) (mg : Str → Option Value) (base : Heap)
structure GFn (k : Nat) (x : Str) (ps : List Str) (sp : Sp) : Prop where
  ex : ∃ f fd, mg x = some (.ref f) ∧ PySem.W.keepIn K (.ref f) = true ∧ FnOk P w K mg base CX0 k f fd ps sp ∧ Binds K fd ps []
structure MFn (k : Nat) (C : Addr) (m : Str) (ps : List Str) (sp : Sp) : Prop where
  ex : ∃ f fd, Meth K C m f ∧ FnOk P w K mg base CX0 k f fd ps sp ∧ Binds K fd ps []
structure CFn (k : Nat) (x : Str) (C : Addr) (ps : List Str) (sp : Sp) : Prop where
  ex : ∃ f fd, Mk K C f ∧ mg x = some (.ref C) ∧ FnOk P w K mg base CX0 k f fd ps sp ∧ Binds K fd ps []
end
section
variable {X : Cx} {k : Nat} {x m : Str} {C : Addr} {ps : List Str} {sp : Sp} {p pos apos : Pos} {e o : Expr} {es : List Expr} {ta : TE} {t : TA}
theorem pe_g (G : GFn X.prog X.w X.K X.mg X.base k x ps sp) (hr : Room k X.A) (ha : PA X (e :: es) t) (hg : Gl X x := by rfl) (hdb : (x == ("__debug__" : Str)) = false := by decide)
    (he : starEach (e :: es) X.env = (false, eval e X.env) :: starEach es X.env := by rfl) (hpl : (backTo pos (starEach es X.env)).any (·.1) = false := by rfl) :
    PE X (.Call (.Name x p) (e :: es) [] pos) (tCall sp [] E0 t) := by
  obtain ⟨f, fd, hm, hk, F, b⟩ := G.ex
  exact pe_call F hr hg hm hk b .nil pass0 ha hdb he hpl
theorem pe_m {pl : Sem Bool} (G : MFn X.prog X.w X.K X.mg X.base k C m ps sp) (c : Cls X.K C) (hr : Room k X.A) (he : PE X o ta) (ha : PA X (e :: es) t)
    (hst : starEach (e :: es) X.env = (false, eval e X.env) :: starEach es X.env := by rfl) (hpl : (backTo pos (starEach es X.env)).any (·.1) = false := by rfl)
    (ht : eval (.Call (.Attribute o m apos) (e :: es) [] pos) X.env = (do
      let ov ← eval o X.env
      standAt apos.atName
      let (f, first) ← holding [ov] (getMethod ov m pl)
      callWith pos f first (backTo pos (starEach (e :: es) X.env)) (backToKw pos (keywordEach [] X.env))) := by rfl) :
    PE X (.Call (.Attribute o m apos) (e :: es) [] pos) (tMeth C m sp [] E0 ta t) := by
  obtain ⟨f, fd, hm, F, b⟩ := G.ex
  exact pe_meth he c hm F hr b .nil pass0 ha hst hpl ht
theorem pe_m0 {pl : Sem Bool} (G : MFn X.prog X.w X.K X.mg X.base k C m ps sp) (c : Cls X.K C) (hr : Room k X.A) (he : PE X o ta)
    (ht : eval (.Call (.Attribute o m apos) [] [] pos) X.env = (do
      let ov ← eval o X.env
      standAt apos.atName
      let (f, first) ← holding [ov] (getMethod ov m pl)
      callWith pos f first (backTo pos (starEach [] X.env)) (backToKw pos (keywordEach [] X.env))) := by rfl) :
    PE X (.Call (.Attribute o m apos) [] [] pos) (tMeth C m sp [] E0 ta tNil) := by
  obtain ⟨f, fd, hm, F, b⟩ := G.ex
  exact pe_meth0 he c hm F hr b .nil pass0 ht
theorem pe_c (G : CFn X.prog X.w X.K X.mg X.base k x C ps sp) (hr : Room (k + 1) X.A) (ha : PA X (e :: es) t) (hg : Gl X x := by rfl) (hdb : (x == ("__debug__" : Str)) = false := by decide)
    (he : starEach (e :: es) X.env = (false, eval e X.env) :: starEach es X.env := by rfl) (hpl : (backTo pos (starEach es X.env)).any (·.1) = false := by rfl) :
    PE X (.Call (.Name x p) (e :: es) [] pos) (tMake C sp [] E0 t) := by
  obtain ⟨f, fd, M, hm, F, b⟩ := G.ex
  exact pe_make M F hr hg hm b .nil pass0 ha hdb he hpl
end
/-! ### a def by its body -/
section
variable {P : Program} {w : World} {K : PySem.W.Frag} {mg : Str → Option Value} {base : Heap} {k : Nat} {x qual : Str} {st : Stmt} {N ps : List Str} {sp : Sp} {f C : Addr}
/-- how a def's positional arguments bind -/
abbrev BindsP (x qual : Str) (st : Stmt) (ps : List Str) : Prop := ∀ (kV doc pm : Value) (an : Option Addr) (cdv ct : Value) (us : List Value), us.length = ps.length →
  bindArgs (PySem.W.fnOf x qual (defArgs st) (defBody st) (defScope st) .none kV doc pm an cdv ct) ⟨us, []⟩ = pure (ps.zip us)
/-- what a body owes -/
abbrev BodyP (P : Program) (w : World) (K : PySem.W.Frag) (mg : Str → Option Value) (base : Heap) (k : Nat) (qual : Str) (st : Stmt) (N : List Str) (sp : Sp) (f : Addr) : Prop :=
  ∀ (cdv : Value) (A : Around) (outer : List Env) (s : Shared) (H : Hp) (vs : List V) (Q : VK) (E : XK), Room k (A.deeper (envOfC qual (defScope st) s.heap.objs.size f cdv)) → sp vs H Q E →
    ∃ t, PSs (cxOf CX0 P w K mg base N qual (defScope st) f cdv A outer s H E).nox (defBody st) t ∧ t { nx := fun _ H' => Q .non H', rt := Q } (start N vs) H
theorem fn_body (D : FnP K x qual st [] f) (S : FnScope N ps (defScope st)) (hb : BindsP x qual st ps) (len : ∀ vs H Q E, sp vs H Q E → vs.length = ps.length) (B : BodyP P w K mg base k qual st N sp f) :
    ∃ fd, FnOk P w K mg base CX0 (k + 1) f fd ps sp ∧ Binds K fd ps [] := by
  obtain ⟨fd, F⟩ := D
  refine ⟨fd, F.ok S len fun cdv A outer s H vs Q E hr h => ?_, F.bindsN hb⟩
  obtain ⟨t, ht, q⟩ := B cdv A outer s H vs Q E hr h
  exact ⟨t, ht.nox, q⟩
theorem gfn (D : FnP K x x st [] (He.ga K x)) (hg : mg x = some (.ref (He.ga K x))) (S : FnScope N ps (defScope st)) (hb : BindsP x x st ps) (len : ∀ vs H Q E, sp vs H Q E → vs.length = ps.length)
    (B : BodyP P w K mg base k x st N sp (He.ga K x)) : GFn P w K mg base (k + 1) x ps sp := by
  obtain ⟨fd, F, b⟩ := fn_body D S hb len B
  have kp : PySem.W.keepIn K (.ref (He.ga K x)) = true := by
    obtain ⟨_, D⟩ := D
    exact D.kp
  exact ⟨_, fd, hg, kp, F, b⟩
theorem mfn {m : Str} (D : FnP K m qual st [] f) (hm : Meth K C m f) (S : FnScope N ps (defScope st)) (hb : BindsP m qual st ps) (len : ∀ vs H Q E, sp vs H Q E → vs.length = ps.length)
    (B : BodyP P w K mg base k qual st N sp f) : MFn P w K mg base (k + 1) C m ps sp := by
  obtain ⟨fd, F, b⟩ := fn_body D S hb len B
  exact ⟨f, fd, hm, F, b⟩
theorem cfn (D : FnP K "__init__" qual st [] f) (hm : Mk K C f) (hg : mg x = some (.ref C)) (S : FnScope N ps (defScope st)) (hb : BindsP "__init__" qual st ps) (len : ∀ vs H Q E, sp vs H Q E → vs.length = ps.length)
    (B : BodyP P w K mg base k qual st N sp f) : CFn P w K mg base (k + 1) x C ps sp := by
  obtain ⟨fd, F, b⟩ := fn_body D S hb len B
  exact ⟨f, fd, hm, hg, F, b⟩
end
theorem len1 {p : P1} : ∀ vs H Q E, Sp1 p vs H Q E → vs.length = 1 := by rintro _ _ _ _ ⟨a, rfl, _⟩; rfl
theorem len2 {p : P2} : ∀ vs H Q E, Sp2 p vs H Q E → vs.length = 2 := by rintro _ _ _ _ ⟨a, b, rfl, _⟩; rfl
theorem len3 {p : P3} : ∀ vs H Q E, Sp3 p vs H Q E → vs.length = 3 := by rintro _ _ _ _ ⟨a, b, c, rfl, _⟩; rfl
theorem len4 {p : P4} : ∀ vs H Q E, Sp4 p vs H Q E → vs.length = 4 := by rintro _ _ _ _ ⟨a, b, c, d, rfl, _⟩; rfl
theorem len6 {p : P6} : ∀ vs H Q E, Sp6 p vs H Q E → vs.length = 6 := by rintro _ _ _ _ ⟨a, b, c, d, e, f, rfl, _⟩; rfl
theorem len7 {p : P7} : ∀ vs H Q E, Sp7 p vs H Q E → vs.length = 7 := by rintro _ _ _ _ ⟨a, b, c, d, e, f, g, rfl, _⟩; rfl
/-! ### data that never changes: None, truth values, numbers, texts, tuples of these -/
mutual
inductive At (H : Hp) : V → PyData → Prop
  | non : At H .non .none
  | bl (b : Bool) : At H (.bl b) (.bool b)
  | int (i : Int) : At H (.int i) (.int i)
  | str (x : Str) : At H (.str x) (.str x)
  | tup {a : Addr} {xs : List V} {ds : List PyData} : H a = some (.tup xs) → AtAll H xs ds → At H (.ref a) (.tuple ds)
inductive AtAll (H : Hp) : List V → List PyData → Prop
  | nil : AtAll H [] []
  | cons {v : V} {vs : List V} {d : PyData} {ds : List PyData} : At H v d → AtAll H vs ds → AtAll H (v :: vs) (d :: ds)
end
/-- what never changes: tuples, a whole net, a whole ask, a whole rule, a whole store's fields -/
def frozen : HO → Bool
  | .tup _ => true
  | .ins _ _ fs => match fs.getLast? with
    | some (f, _) => f == ("end" : Str) || f == ("rule" : Str) || f == ("steps" : Str) || f == ("kept" : Str)
    | none => false
  | _ => false
/-- what never changes stands -/
def Tups (H H' : Hp) : Prop := ∀ a o, frozen o = true → H a = some o → H' a = some o
theorem Tups.refl (H : Hp) : Tups H H := fun _ _ _ h => h
theorem Tups.trans {H H1 H2 : Hp} (a : Tups H H1) (b : Tups H1 H2) : Tups H H2 := fun c o f h => b c o f (a c o f h)
theorem _root_.L2.Same.tups {H H' : Hp} (s : Same H H') : Tups H H' := fun a xs _ h => s a _ h
theorem same_new {H : Hp} {p : Addr} {o : HO} (h : H p = none) : Same H (upd H p o) := fun b u e => by rw [upd_ne (ne_of_none e h)]; exact e
/-- a write at a place that may change -/
theorem tups_upd {H : Hp} {p : Addr} {o u : HO} (h : H p = some u) (hu : frozen u = false) : Tups H (upd H p o) := fun a xs f e => by
  rw [upd_ne (fun z => by rw [z, h] at e; rw [← Option.some.inj e, hu] at f; cases f)]
  exact e
mutual
theorem At.mono {H H' : Hp} (t : Tups H H') : ∀ (d : PyData) (v : V), At H v d → At H' v d
  | .none, _, h => by cases h; exact .non
  | .bool b, _, h => by cases h; exact .bl b
  | .int i, _, h => by cases h; exact .int i
  | .str x, _, h => by cases h; exact .str x
  | .list _, _, h => by cases h
  | .dict _, _, h => by cases h
  | .tuple ds, _, h => by
    cases h with
    | tup e r => exact .tup (t _ _ rfl e) (AtAll.mono t ds _ r)
theorem AtAll.mono {H H' : Hp} (t : Tups H H') : ∀ (ds : List PyData) (vs : List V), AtAll H vs ds → AtAll H' vs ds
  | [], _, h => by cases h; exact .nil
  | d :: ds, _, h => by
    cases h with
    | cons h1 h2 => exact .cons (At.mono t d _ h1) (AtAll.mono t ds _ h2)
end
theorem At.up {H H' : Hp} {v : V} {d : PyData} (h : At H v d) (t : Tups H H') : At H' v d := At.mono t d v h
theorem AtAll.up {H H' : Hp} {vs : List V} {ds : List PyData} (h : AtAll H vs ds) (t : Tups H H') : AtAll H' vs ds := AtAll.mono t ds vs h
theorem AtAll.len {H : Hp} : ∀ {vs : List V} {ds : List PyData}, AtAll H vs ds → vs.length = ds.length
  | _, _, .nil => rfl
  | _, _, .cons _ r => by rw [List.length_cons, List.length_cons, r.len]
theorem AtAll.get {H : Hp} : ∀ {vs : List V} {ds : List PyData} {i : Nat} {v : V}, AtAll H vs ds → vs[i]? = some v → ∃ d, ds[i]? = some d ∧ At H v d
  | _, _, _, _, .nil, e => by simp at e
  | _, _, 0, _, .cons h _, e => by
    have e' := Option.some.inj (show some _ = some _ from e)
    subst e'
    exact ⟨_, rfl, h⟩
  | _, _, i + 1, v, .cons _ r, e => by
    obtain ⟨d, h1, h2⟩ := AtAll.get (i := i) r (by simpa using e)
    exact ⟨d, by simpa using h1, h2⟩
theorem AtAll.getD {H : Hp} : ∀ {vs : List V} {ds : List PyData} {i : Nat} {d : PyData}, AtAll H vs ds → ds[i]? = some d → ∃ v, vs[i]? = some v ∧ At H v d
  | _, _, _, _, .nil, e => by simp at e
  | _, _, 0, _, .cons h _, e => by
    have e' := Option.some.inj (show some _ = some _ from e)
    subst e'
    exact ⟨_, rfl, h⟩
  | _, _, i + 1, d, .cons _ r, e => by
    obtain ⟨v, h1, h2⟩ := AtAll.getD (i := i) r (by simpa using e)
    exact ⟨v, by simpa using h1, h2⟩
theorem AtAll.app {H : Hp} : ∀ {vs us : List V} {ds es : List PyData}, AtAll H vs ds → AtAll H us es → AtAll H (vs ++ us) (ds ++ es)
  | _, _, _, _, .nil, s => s
  | _, _, _, _, .cons h r, s => .cons h (r.app s)
theorem AtAll.snoc {H : Hp} {vs : List V} {ds : List PyData} {v : V} {d : PyData} (h : AtAll H vs ds) (q : At H v d) : AtAll H (vs ++ [v]) (ds ++ [d]) := h.app (.cons q .nil)
theorem AtAll.take {H : Hp} : ∀ {vs : List V} {ds : List PyData} (n : Nat), AtAll H vs ds → AtAll H (vs.take n) (ds.take n)
  | _, _, 0, _ => .nil
  | _, _, _ + 1, .nil => .nil
  | _, _, n + 1, .cons h r => .cons h (r.take n)
theorem AtAll.drop {H : Hp} : ∀ {vs : List V} {ds : List PyData} (n : Nat), AtAll H vs ds → AtAll H (vs.drop n) (ds.drop n)
  | _, _, 0, h => h
  | _, _, _ + 1, .nil => .nil
  | _, _, n + 1, .cons _ r => r.drop n
theorem At.tupI {H : Hp} {v : V} {ds : List PyData} (h : At H v (.tuple ds)) : ∃ a xs, v = .ref a ∧ H a = some (.tup xs) ∧ AtAll H xs ds := by
  cases h with
  | tup e r => exact ⟨_, _, rfl, e, r⟩
theorem At.intI {H : Hp} {v : V} {i : Int} (h : At H v (.int i)) : v = .int i := by cases h; rfl
theorem At.nonI {H : Hp} {v : V} (h : At H v .none) : v = .non := by cases h; rfl
theorem At.strI {H : Hp} {v : V} {i : Str} (h : At H v (.str i)) : v = .str i := by cases h; rfl
theorem atAll_ints {H : Hp} : ∀ ns : List Int, AtAll H (ns.map V.int) (ns.map PyData.int)
  | [] => .nil
  | n :: r => .cons (.int n) (atAll_ints r)
theorem AtAll.intsI {H : Hp} : ∀ {ns : List Int} {vs : List V}, AtAll H vs (ns.map PyData.int) → vs = ns.map V.int
  | [], _, h => by cases h; rfl
  | n :: r, _, h => by
    cases h with
    | cons h1 h2 => rw [h1.intI, h2.intsI]; rfl
/-! ### how data is written -/
def dVec (ns : List Int) : PyData := .tuple (ns.map .int)
def dMat (m : List (List Int)) : PyData := .tuple (m.map dVec)
theorem At.vecI {H : Hp} {v : V} {ns : List Int} (h : At H v (dVec ns)) : ∃ a, v = .ref a ∧ H a = some (.tup (ns.map V.int)) := by
  obtain ⟨a, xs, e, ha, r⟩ := At.tupI h
  exact ⟨a, e, by rw [ha, r.intsI]⟩
theorem at_vec {H : Hp} {a : Addr} {ns : List Int} (h : H a = some (.tup (ns.map V.int))) : At H (.ref a) (dVec ns) := .tup h (atAll_ints ns)
theorem at_tup {H : Hp} {a : Addr} {xs : List V} {ds : List PyData} (h : H a = some (.tup xs)) (r : AtAll H xs ds) : At H (.ref a) (.tuple ds) := .tup h r
theorem At.matI {H : Hp} {v : V} {m : List (List Int)} (h : At H v (dMat m)) : ∃ a xs, v = .ref a ∧ H a = some (.tup xs) ∧ AtAll H xs (m.map dVec) := At.tupI h
mutual
theorem At.dp {K : PySem.W.Frag} {H : Hp} : ∀ (d : PyData) (v : V), At H v d → Dp K H v d
  | .none, _, h => by cases h; exact .non
  | .bool b, _, h => by cases h; exact .bl b
  | .int i, _, h => by cases h; exact .int i
  | .str x, _, h => by cases h; exact .str x
  | .list _, _, h => by cases h
  | .dict _, _, h => by cases h
  | .tuple ds, _, h => by
    cases h with
    | tup e r => exact .tup (SqT.of e) (AtAll.dp ds _ r)
theorem AtAll.dp {K : PySem.W.Frag} {H : Hp} : ∀ (ds : List PyData) (vs : List V), AtAll H vs ds → DpAll K H vs ds
  | [], _, h => by cases h; exact .nil
  | d :: ds, _, h => by
    cases h with
    | cons h1 h2 => exact .cons (At.dp d _ h1) (AtAll.dp ds _ h2)
end
/-! ### answers in short -/
/-- a field that is read -/
theorem rfld {K : PySem.W.Frag} {H : Hp} {p C dx : Addr} {fs : List (Str × V)} {f : Str} {v : V} {Q : VK} (h : H p = some (.ins C dx fs)) (c : Cls K C) (n : NoAttr K C f) (l : fs.lookup f = some v) (q : Q v H) :
    ∃ a C dx fs v, V.ref p = .ref a ∧ H a = some (.ins C dx fs) ∧ Cls K C ∧ NoAttr K C f ∧ fs.lookup f = some v ∧ Q v H := ⟨p, C, dx, fs, v, rfl, h, c, n, l, q⟩
end Sv
end
section
set_option Elab.async false
set_option linter.all false
set_option maxRecDepth 100000
set_option maxHeartbeats 4000000
/-! Rules whose answer names the fragment: said for a context that only reduces to it (the inside of a comprehension). -/
namespace Sv
open PySem PySem.Spec PyProof.Rows L2
section
variable {X : Cx} {K0 : PySem.W.Frag} {e : Expr} {ta : TE} {pos : Pos} {tg : Expr}
theorem pe_fldK {f : Str} (he : PE X e ta) (hb : attributeBase e f X.env (eval e X.env) = eval e X.env) (hK : X.K = K0 := by rfl) : PE X (.Attribute e f pos) (tFld K0 ta f) := by subst hK; exact pe_fld he hb
theorem ix_listK (hK : X.K = K0 := by rfl) : IxR X (rIxL K0) := by subst hK; exact ix_list
theorem ix_tupK (hK : X.K = K0 := by rfl) : IxR X (rIxT K0) := by subst hK; exact ix_tup
theorem op_in_seqK (hK : X.K = K0 := by rfl) : OpR X (compareOp .In) (rIn K0 false) := by subst hK; exact op_in_seq
theorem op_notIn_seqK (hK : X.K = K0 := by rfl) : OpR X (compareOp .NotIn) (rIn K0 true) := by subst hK; exact op_notIn_seq
theorem call_len_seqK (hK : X.K = K0 := by rfl) : CallR X (.builtin "len") (fun xs H Q => ∃ p ys, xs = [.ref p] ∧ (SqL K0 H p ys ∨ SqT K0 H p ys) ∧ Q (.int ys.length) H) := by subst hK; exact call_len_seq
theorem call_tuple_ofK (hK : X.K = K0 := by rfl) : CallR X (.type "tuple") (fun xs H Q => ∃ p ys, xs = [.ref p] ∧ ((SqL K0 H p ys ∧ ∀ l, H l = none → Q (.ref l) (upd H l (.tup ys))) ∨ (SqT K0 H p ys ∧ Q (.ref p) H))) := by subst hK; exact call_tuple_of
theorem op_eqDK (hu : X.A.units + 64 < cLine) (hK : X.K = K0 := by rfl) : OpR X (compareOp .Eq) (rEqD K0) := by subst hK; exact op_eqD hu
theorem op_neDK (hu : X.A.units + 64 < cLine) (hK : X.K = K0 := by rfl) : OpR X (compareOp .NotEq) (rNeD K0) := by subst hK; exact op_neD hu
theorem op_catAK (hK : X.K = K0 := by rfl) : OpR X (binaryOp .Add) (rCatA K0) := by subst hK; exact op_catA
theorem sl_tupAK (hK : X.K = K0 := by rfl) : SlR X (rSlA K0) := by subst hK; exact sl_tupA
theorem sl_listK (hK : X.K = K0 := by rfl) : SlR X (rSlL K0) := by subst hK; exact sl_list
theorem cr_sumK (hc : X.calm = true) (hK : X.K = K0 := by rfl) : CallR X (.builtin "sum") (rSum K0) := by subst hK; exact cr_sum hc
theorem pi_tupK {l : Expr} {tl : TE} (hl : PE X l tl) (hK : X.K = K0 := by rfl) : PI X tg l (iTup K0 tl) := by subst hK; exact pi_tup hl
theorem pi_listK {l : Expr} {tl : TE} (hl : PE X l tl) (hK : X.K = K0 := by rfl) : PI X tg l (iList K0 tl) := by subst hK; exact pi_list hl
end
end Sv
end
section
set_option autoImplicit false
/-! The net in plain Lean: what the program reckons. -/
namespace Sv
/-- the sum of the products -/
def psum (a b : List Int) : Int := (List.zipWith (· * ·) a b).sum
def timesM (p : Int) (m : List (List Int)) (x : List Int) : List Int := m.map fun r => psum r x % p
def plusM (p : Int) (a b : List Int) : List Int := List.zipWith (fun x y => (x + y) % p) a b
def lookedM (p : Int) (q : List Int) (ps : List (List Int × List Int)) : List Int := ps.foldl (fun f kv => plusM p f (kv.2.map (psum q kv.1 * ·))) (q.map fun _ => 0)
structure Lay where
  q : List (List Int)
  k : List (List Int)
  v : List (List Int)
  f : List (List Int)
  s : List (List Int)
structure NetM where
  prime : Int
  embed : List (List Int)
  shift : List Int
  layers : List Lay
  out : List (List Int)
  fin : Option Int
abbrev PairM := List Int × List Int
abbrev RowM := List PairM × List Int
/-- one layer: the vector behind it, the layer's pair; old: the pairs of the rows ahead -/
def layM (p : Int) (l : Lay) (old : List PairM) (x : List Int) : List Int × PairM :=
  let pr := (timesM p l.k x, timesM p l.v x)
  let x1 := plusM p x (lookedM p (timesM p l.q x) (old ++ [pr]))
  (plusM p x1 (timesM p l.s ((timesM p l.f x1).map fun n => n * n)), pr)
/-- the pairs of the j-th layer of rows -/
def oldM (rows : List RowM) (j : Nat) : List PairM := rows.map fun r => r.1.getD j ([], [])
/-- the layers from the j-th on -/
def laysM (p : Int) (rows : List RowM) : Nat → List Lay → List Int → List PairM → List Int × List PairM
  | _, [], x, own => (x, own)
  | j, l :: r, x, own => laysM p rows (j + 1) r (layM p l (oldM rows j) x).1 (own ++ [(layM p l (oldM rows j) x).2])
def x0M (M : NetM) (n : Nat) (letter : Int) : List Int := plusM M.prime (M.embed.getD letter.toNat []) (M.shift.map ((n : Int) * ·))
def outM (M : NetM) (x : List Int) : List Int := M.out.map fun v => 1 + psum v x % M.prime
def rowM (M : NetM) (rows : List RowM) (letter : Int) : RowM :=
  let z := laysM M.prime rows 0 M.layers (x0M M rows.length letter) []
  (z.2, outM M z.1)
/-- the rows of letters, each reckoned after those before it -/
def rowsM (M : NetM) (letters : List Int) : List RowM := letters.foldl (fun rs l => rs ++ [rowM M rs l]) []
/-! ### what a net is -/
def VecOk (p : Int) (w : Nat) (v : List Int) : Prop := v.length = w ∧ ∀ x ∈ v, 0 ≤ x ∧ x < p
def MatOk (p : Int) (n w : Nat) (m : List (List Int)) : Prop := m.length = n ∧ ∀ v ∈ m, VecOk p w v
structure LayOk (p : Int) (w : Nat) (l : Lay) : Prop where
  q : MatOk p w w l.q
  k : MatOk p w w l.k
  v : MatOk p w w l.v
  f : MatOk p w w l.f
  s : MatOk p w w l.s
structure NetOk (M : NetM) (L w : Nat) : Prop where
  p0 : 2 ≤ M.prime
  p1 : M.prime ≤ 97
  l0 : 1 ≤ L
  l1 : L ≤ 12
  w0 : 1 ≤ w
  w1 : w ≤ 4
  embed : MatOk M.prime L w M.embed
  shift : VecOk M.prime w M.shift
  layers : ∀ l ∈ M.layers, LayOk M.prime w l
  few : M.layers.length ≤ 3
  out : MatOk M.prime L w M.out
/-! ### lengths, bounds -/
theorem timesM_len (p : Int) (m : List (List Int)) (x : List Int) : (timesM p m x).length = m.length := List.length_map ..
theorem plusM_len (p : Int) (a b : List Int) : (plusM p a b).length = min a.length b.length := List.length_zipWith ..
theorem mem_timesM {p : Int} (hp : 0 < p) {m : List (List Int)} {x : List Int} {z : Int} (h : z ∈ timesM p m x) : 0 ≤ z ∧ z < p := by
  obtain ⟨r, _, rfl⟩ := List.mem_map.mp h
  exact ⟨Int.emod_nonneg _ (by omega), Int.emod_lt_of_pos _ hp⟩
theorem mem_zipWith {α β γ : Type} {f : α → β → γ} {a : List α} {b : List β} {z : γ} (h : z ∈ List.zipWith f a b) : ∃ x y, x ∈ a ∧ y ∈ b ∧ z = f x y := by
  induction a generalizing b with
  | nil => simp at h
  | cons x a ih =>
    cases b with
    | nil => simp at h
    | cons y b =>
      rw [List.zipWith_cons_cons] at h
      rcases List.mem_cons.mp h with e | h
      · exact ⟨x, y, List.mem_cons_self .., List.mem_cons_self .., e⟩
      · obtain ⟨u, v, h1, h2, e⟩ := ih h
        exact ⟨u, v, List.mem_cons_of_mem _ h1, List.mem_cons_of_mem _ h2, e⟩
theorem mem_plusM {p : Int} (hp : 0 < p) {a b : List Int} {z : Int} (h : z ∈ plusM p a b) : 0 ≤ z ∧ z < p := by
  obtain ⟨x, y, _, _, e⟩ := mem_zipWith h
  rw [e]
  exact ⟨Int.emod_nonneg _ (by omega), Int.emod_lt_of_pos _ hp⟩
theorem timesM_ok {p : Int} (hp : 0 < p) {n w : Nat} {m : List (List Int)} (h : MatOk p n w m) (x : List Int) : VecOk p n (timesM p m x) := ⟨by rw [timesM_len, h.1], fun _ hz => mem_timesM hp hz⟩
theorem plusM_ok {p : Int} (hp : 0 < p) {w : Nat} {a b : List Int} (ha : a.length = w) (hb : b.length = w) : VecOk p w (plusM p a b) := ⟨by rw [plusM_len, ha, hb, Nat.min_self], fun _ hz => mem_plusM hp hz⟩
end Sv
end
section
set_option Elab.async false
set_option linter.all false
set_option maxRecDepth 100000
set_option maxHeartbeats 4000000
/-! The walk: is_between, vector_of, matrix_of, product_sum. -/
namespace Sv
open PySem PySem.Spec PyProof.Rows L2
/-! ### a comprehension that makes data -/
/-- behind i turns: the new list at D holds the first i of ds, all that stood stands -/
def LcI (H0 : Hp) (D : Addr) (ds : List PyData) (i : Nat) (H : Hp) : Prop := ∃ ys, H D = some (.lst ys) ∧ AtAll H ys (ds.take i) ∧ Same H0 H
theorem lcI_0 {H0 : Hp} {D : Addr} {ds : List PyData} (h : H0 D = none) : LcI H0 D ds 0 (upd H0 D (.lst [])) := ⟨[], upd_same, .nil, same_new h⟩
theorem take_snoc {α : Type} {l : List α} {i : Nat} {x : α} (h : l[i]? = some x) : l.take (i + 1) = l.take i ++ [x] := by
  rw [List.take_succ, h]; rfl
theorem lcI_step {H0 H H4 : Hp} {D : Addr} {ds : List PyData} {i : Nat} {y : V} {d : PyData} (hD : H0 D = none) (I : LcI H0 D ds i H) (s : Same H H4) (hd : ds[i]? = some d) (q : At H4 y d) (hl : ds.length ≤ 1000) :
    ∃ acc, H4 D = some (.lst acc) ∧ acc.length < sizeLine ∧ LcI H0 D ds (i + 1) (upd H4 D (.lst (acc ++ [y]))) := by
  obtain ⟨ys, h1, h2, h3⟩ := I
  have h1' := s _ _ h1
  have hlen := h2.len
  have tu : Tups H4 (upd H4 D (.lst (ys ++ [y]))) := tups_upd h1' rfl
  refine ⟨ys, h1', ?_, ys ++ [y], upd_same, ?_, fun b o e => ?_⟩
  · rw [List.length_take] at hlen
    exact small1000 (by omega)
  · rw [take_snoc hd]
    exact ((h2.up s.tups).snoc q).up tu
  · rw [upd_ne (ne_of_none e hD)]
    exact s _ _ (h3 _ _ e)
theorem LcI.all {H0 H : Hp} {D : Addr} {ds : List PyData} {n : Nat} (I : LcI H0 D ds n H) (hn : n = ds.length) : ∃ ys, H D = some (.lst ys) ∧ AtAll H ys ds ∧ Same H0 H := by
  obtain ⟨ys, h1, h2, h3⟩ := I
  subst hn
  rw [List.take_length] at h2
  exact ⟨ys, h1, h2, h3⟩
/-- tuple(that list) -/
theorem tup_of_list {K : PySem.W.Frag} {H0 H : Hp} {D : Addr} {ys : List V} {ds : List PyData} {Q : VK} (h1 : H D = some (.lst ys)) (h2 : AtAll H ys ds) (h3 : Same H0 H) (q : ∀ H' v, Same H0 H' → At H' v (.tuple ds) → Q v H') :
    ∃ p zs, ([V.ref D] : List V) = [.ref p] ∧ ((SqL K H p zs ∧ ∀ l, H l = none → Q (.ref l) (upd H l (.tup zs))) ∨ (SqT K H p zs ∧ Q (.ref p) H)) :=
  ⟨D, ys, rfl, .inl ⟨SqL.of h1, fun l hl => q _ _ (h3.trans (same_new hl)) (at_tup upd_same (h2.up (same_new hl).tups))⟩⟩
theorem SqK.up {K : PySem.W.Frag} {k : Bool} {H H' : Hp} {a : Addr} {xs : List V} (s : Same H H') (h : SqK K k H a xs) : SqK K k H' a xs := by
  cases k with
  | false => exact s.seq (show SqL K H a xs from h)
  | true =>
    rcases (show SqT K H a xs from h) with (h | ⟨o, h⟩) | h
    · exact .inl (.inl (s _ _ h))
    · exact .inl (.inr ⟨o, s _ _ h⟩)
    · exact .inr h
theorem map_get {α β : Type} {f : α → β} {l : List α} {i : Nat} {y : β} (h : (l.map f)[i]? = some y) : ∃ x, l[i]? = some x ∧ y = f x := by
  rw [List.getElem?_map] at h
  cases e : l[i]? with
  | none => rw [e] at h; cases h
  | some x => rw [e] at h; exact ⟨x, rfl, (Option.some.inj h).symm⟩
/-! ### what each promises -/
def p_is_between : P3 := fun a b c H Q => ∃ i lo hi : Int, a = .int i ∧ b = .int lo ∧ c = .int hi ∧ Q (.bl (decide (lo ≤ i ∧ i ≤ hi))) H
def p_vector_of : P1 := fun a H Q => ∃ p xs, a = .ref p ∧ H p = some (.tup xs) ∧ Q (.ref p) H
def p_matrix_of : P1 := fun a H Q => ∃ m : List (List Int), At H a (dMat m) ∧ m.length ≤ 1000 ∧ ∀ H' v, Same H H' → At H' v (dMat m) → Q v H'
def SmallI (ns : List Int) : Prop := ∀ n ∈ ns, -(2 ^ 64) < n ∧ n < 2 ^ 64
def p_product_sum (K : PySem.W.Frag) : P2 := fun a b H Q => ∃ (k1 k2 : Bool) (p1 p2 : Addr) (ns ms : List Int), a = .ref p1 ∧ b = .ref p2 ∧ SqK K k1 H p1 (ns.map V.int) ∧ SqK K k2 H p2 (ms.map V.int) ∧ SmallI ns ∧ ∀ H', Same H H' → Q (.int (psum ns ms)) H'
theorem isi_int_int {K : PySem.W.Frag} : PySem.W.kitOne K (.type "int") (.type "int") = some true := kit_ty (by decide +kernel)
theorem isi_int_bool {K : PySem.W.Frag} : PySem.W.kitOne K (.type "int") (.type "bool") = some false := kit_ty (by decide +kernel)
section
variable {P : Program} {w : World} {K : PySem.W.Frag} {mg : Str → Option Value} {base : Heap}
abbrev N_is_between : List Str := ["value", "least", "most"]
theorem sc_is_between : FnScope N_is_between ["value", "least", "most"] (defScope s_is_between) := ⟨rfl, rfl, rfl, by decide +kernel, rfl, by decide +kernel, by decide +kernel⟩
theorem ok_is_between (T : Txt K mg) : GFn P w K mg base 1 "is_between" ["value", "least", "most"] (Sp3 p_is_between) := by
  refine gfn T.d_is_between T.g_is_between sc_is_between (fun _ _ _ _ _ _ us hl => match us, hl with | [_, _, _], _ => rfl) len3 fun cdv A outer s H vs Q E hr h => ?_
  obtain ⟨a0, a1, a2, rfl, h⟩ := h
  refine ⟨_, pss_one (ps_ret (pe_and (pe_callB call_isi (by rfl) T.b_isinstance (by decide +kernel) (pa_cons (pv 0) (pa_cons (pe_bltn (v := .ty "int") (by rfl) T.b_int (by decide +kernel) rfl) pa_nil))) (pe_and (pe_not (pe_callB call_isi (by rfl) T.b_isinstance (by decide +kernel) (pa_cons (pv 0) (pa_cons (pe_bltn (v := .ty "bool") (by rfl) T.b_bool (by decide +kernel) rfl) pa_nil)))) (pe_one (pe_chain op_le op_le (pv 1) (pv 0) (pv 2)))))), ?_⟩
  obtain ⟨i, lo, hi, rfl, rfl, rfl, q⟩ := h
  refine ⟨_, rfl, .int i, .ty "int", _, _, true, rfl, .ty _, .base (.int _), isi_int_int, true, rfl, ?_⟩
  refine ⟨_, rfl, .int i, .ty "bool", _, _, false, rfl, .ty _, .base (.int _), isi_int_bool, false, rfl, true, rfl, ?_⟩
  refine ⟨_, rfl, _, rfl, _, _, rfl, rfl, _, rfl, ?_⟩
  have fin : ∀ b : Bool, b = decide (lo ≤ i ∧ i ≤ hi) → Q (.bl b) H := fun b e => by rw [e]; exact q
  by_cases h1 : lo ≤ i
  · rw [decide_eq_true h1]
    exact ⟨_, rfl, _, _, rfl, rfl, fin _ (by simp [h1])⟩
  · rw [decide_eq_false h1]
    exact fin _ (by simp [h1])
abbrev N_vector_of : List Str := ["numbers"]
theorem sc_vector_of : FnScope N_vector_of ["numbers"] (defScope s_vector_of) := ⟨rfl, rfl, rfl, by decide +kernel, rfl, by decide +kernel, by decide +kernel⟩
theorem ok_vector_of (T : Txt K mg) : GFn P w K mg base 1 "vector_of" ["numbers"] (Sp1 p_vector_of) := by
  refine gfn T.d_vector_of T.g_vector_of sc_vector_of (fun _ _ _ _ _ _ us hl => match us, hl with | [_], _ => rfl) len1 fun cdv A outer s H vs Q E hr h => ?_
  obtain ⟨a0, rfl, h⟩ := h
  refine ⟨_, pss_one (ps_ret (pe_callTy call_tuple_of (by rfl) T.b_tuple (by decide +kernel) (pa_cons (pv 0) pa_nil))), ?_⟩
  obtain ⟨p, xs, rfl, hp, q⟩ := h
  exact ⟨_, rfl, p, xs, rfl, .inr ⟨SqT.of hp, q⟩⟩
abbrev N_matrix_of : List Str := ["rows", "row"]
theorem sc_matrix_of : FnScope N_matrix_of ["rows"] (defScope s_matrix_of) := ⟨rfl, rfl, rfl, by decide +kernel, rfl, by decide +kernel, by decide +kernel⟩
theorem ok_matrix_of (T : Txt K mg) : GFn P w K mg base 2 "matrix_of" ["rows"] (Sp1 p_matrix_of) := by
  refine gfn T.d_matrix_of T.g_matrix_of sc_matrix_of (fun _ _ _ _ _ _ us hl => match us, hl with | [_], _ => rfl) len1 fun cdv A outer s H vs Q E hr h => ?_
  obtain ⟨a0, rfl, h⟩ := h
  refine ⟨_, pss_one (ps_ret (pe_callTy call_tuple_of (by rfl) T.b_tuple (by decide +kernel) (pa_cons (pe_lc (own := [("row", 1)]) rfl sc_matrix_of.nd (pi_tup (pv 0)) (blkOk_by (N := N_matrix_of) (sc := defScope s_matrix_of) (by decide +kernel)) (fun _ _ _ _ _ => pg_name (i := 1) sc_matrix_of.nd rfl (Or.inl rfl) (hf := Or.inr rfl)) (fun _ _ _ _ _ => pts_nil) (fun _ _ _ _ _ => pe_g (ok_vector_of T) (hr.mono (by decide)) (pa_cons (pv 1) pa_nil))) pa_nil))), ?_⟩
  obtain ⟨m, hm, hl, q⟩ := h
  obtain ⟨p, xs, rfl, hp, r⟩ := hm.matI
  refine ⟨_, rfl, p, rfl, ⟨_, SqT.of hp⟩, fun D hD => lc_tup (K := K) (a := p) (xs := xs) (LcI H D (m.map dVec)) (lcI_0 hD) (fun i H' _ I => SqT.of (I.choose_spec.2.2 _ _ hp)) (fun i x H' hx I => ?_) fun H' I => ?_⟩
  · obtain ⟨d, hd, hx'⟩ := r.get hx
    have s3 := I.choose_spec.2.2
    obtain ⟨v, _, rfl⟩ := map_get hd
    obtain ⟨b, rfl, hb⟩ := hx'.vecI
    exact ⟨rfl, _, rfl, _, rfl, b, _, rfl, s3 _ _ hb, lcI_step hD I (Same.refl _) hd (hx'.up s3.tups) (by rw [List.length_map]; exact hl)⟩
  · obtain ⟨ys, h1, h2, h3⟩ := I.all (by rw [r.len])
    exact tup_of_list h1 h2 h3 q
abbrev N_product_sum : List Str := ["one", "two", "total", "number", "other"]
theorem sc_product_sum : FnScope N_product_sum ["one", "two"] (defScope s_product_sum) := ⟨rfl, rfl, rfl, by decide +kernel, rfl, by decide +kernel, by decide +kernel⟩
theorem ok_product_sum (T : Txt K mg) : GFn P w K mg base 1 "product_sum" ["one", "two"] (Sp2 (p_product_sum K)) := by
  refine gfn T.d_product_sum T.g_product_sum sc_product_sum (fun _ _ _ _ _ _ us hl => match us, hl with | [_, _], _ => rfl) len2 fun cdv A outer s H vs Q E hr h => ?_
  obtain ⟨a0, a1, rfl, k1, k2, p1, p2, ns, ms, rfl, rfl, h1, h2, hs, q⟩ := h
  refine ⟨_, pss_cons (ps_set (i := 2) sc_product_sum.nd rfl (Or.inl rfl) (pe_int))
      (pss_cons (ps_for PassesOwn.never rfl (pi_zip2 k1 k2 (by rfl) T.b_zip (pa_cons (pv 0) (pa_cons (pv 1) pa_nil))) (pg_tup rfl (pgs_cons (pg_name (i := 3) sc_product_sum.nd rfl (Or.inl rfl)) (pgs_cons (pg_name (i := 4) sc_product_sum.nd rfl (Or.inl rfl)) pgs_nil)))
      (pss_one (ps_aug (i := 2) sc_product_sum.nd rfl (Or.inl rfl) (pe_op op_mul (pv 3) (pv 4)) ip_add)))
      (pss_one (ps_ret (pv 2)))), ?_⟩
  have z : ∀ {i : Nat} {x y : Int}, ns[i]? = some x → ms[i]? = some y → ((List.zipWith (· * ·) ns ms).take (i + 1)).sum = ((List.zipWith (· * ·) ns ms).take i).sum + x * y := fun {i x y} e1 e2 => by
    rw [take_snoc (x := x * y) (by rw [List.getElem?_zipWith, e1, e2])]
    simp
  refine ⟨_, rfl, _, rfl, p1, p2, _, _, rfl, h1, h2, for_it (walk_zip2 (K := K) (xs := ns.map V.int) (ys := ms.map V.int) rfl) (fun i σ H' => ∃ v3 v4, σ = [some (.ref p1), some (.ref p2), some (.int ((List.zipWith (· * ·) ns ms).take i).sum), v3, v4] ∧ Same H H')
    ⟨none, none, rfl, Same.refl H⟩ (fun i σ H' _ I => ?_) (fun i x σ H' H2 hi I y => ?_) fun σ H' I => ?_⟩
  · obtain ⟨v3, v4, rfl, s⟩ := I
    exact ⟨SqK.up s h1, SqK.up s h2⟩
  · obtain ⟨v3, v4, rfl, s⟩ := I
    obtain ⟨T0, x0, y0, rfl, hT, rfl, e1, e2⟩ := y
    obtain ⟨n, en, rfl⟩ := map_get e1
    obtain ⟨m, em, rfl⟩ := map_get e2
    exact ⟨T0, _, rfl, SqT.of upd_same, rfl, _, _, rfl, _, _, rfl, rfl, _, rfl, _, rfl, _, rfl, _, _, rfl, rfl, .inl (hs n (List.mem_of_getElem? en)), _, _, rfl, rfl, some (.int n), some (.int m), by rw [z en em]; rfl, s.trans (same_new hT)⟩
  · obtain ⟨v3, v4, rfl, s⟩ := I
    refine ⟨_, rfl, ?_⟩
    have e : ((List.zipWith (· * ·) ns ms).take (min (ns.map V.int).length (ms.map V.int).length)).sum = psum ns ms := by
      rw [List.take_of_length_le (by simp)]
      rfl
    rw [e]
    exact q H' s
end
end Sv
end
section
set_option Elab.async false
set_option linter.all false
set_option maxRecDepth 100000
set_option maxHeartbeats 4000000
/-! The walk: Net's rest, is_letter, times, plus, looked_at. -/
namespace Sv
open PySem PySem.Spec PyProof.Rows L2
/-! ### a net as it stands -/
def dOpt : Option Int → PyData
  | none => .none
  | some i => .int i
def dLay (l : Lay) : PyData := .tuple [dMat l.q, dMat l.k, dMat l.v, dMat l.f, dMat l.s]
def dPair (p : PairM) : PyData := .tuple [dVec p.1, dVec p.2]
def dRow (r : RowM) : PyData := .tuple [.tuple (r.1.map dPair), dVec r.2]
def netF (pr : Int) (ve vs vl vo vf : V) : List (Str × V) := [(("prime" : Str), .int pr), (("embed" : Str), ve), (("shift" : Str), vs), (("layers" : Str), vl), (("out" : Str), vo), (("end" : Str), vf)]
structure NetAt (K : PySem.W.Frag) (H : Hp) (p : Addr) (M : NetM) : Prop where
  ex : ∃ dx ve vs vl vo vf, H p = some (.ins (He.ga K "Net") dx (netF M.prime ve vs vl vo vf)) ∧ At H ve (dMat M.embed) ∧ At H vs (dVec M.shift) ∧ At H vl (.tuple (M.layers.map dLay)) ∧ At H vo (dMat M.out) ∧ At H vf (dOpt M.fin)
theorem NetAt.keep {K : PySem.W.Frag} {H H' : Hp} {p : Addr} {M : NetM} (n : NetAt K H p M) (t : Tups H H') : NetAt K H' p M := by
  obtain ⟨dx, ve, vs, vl, vo, vf, hp, h1, h2, h3, h4, h5⟩ := n.ex
  exact ⟨dx, ve, vs, vl, vo, vf, t _ _ rfl hp, h1.up t, h2.up t, h3.up t, h4.up t, h5.up t⟩
theorem NetAt.up {K : PySem.W.Frag} {H H' : Hp} {p : Addr} {M : NetM} (n : NetAt K H p M) (s : Same H H') : NetAt K H' p M := n.keep s.tups
/-! ### promises -/
def p_Net_rest (K : PySem.W.Frag) : P2 := fun a b H Q => ∃ (p : Addr) (M : NetM) (i : Int), a = .ref p ∧ b = .int i ∧ NetAt K H p M ∧ 0 < M.prime ∧ Q (.int (i % M.prime)) H
def p_Net_is_letter (K : PySem.W.Frag) : P2 := fun a b H Q => ∃ (p : Addr) (M : NetM) (i : Int), a = .ref p ∧ b = .int i ∧ NetAt K H p M ∧ Q (.bl (decide (0 ≤ i ∧ i ≤ (M.embed.length : Int) - 1))) H
def p_Net_times (K : PySem.W.Frag) : P3 := fun a b c H Q => ∃ (p : Addr) (M : NetM) (m : List (List Int)) (k : Bool) (q : Addr) (xs : List Int), a = .ref p ∧ c = .ref q ∧ NetAt K H p M ∧ 0 < M.prime ∧ At H b (dMat m) ∧ SqK K k H q (xs.map V.int) ∧ (∀ r ∈ m, SmallI r) ∧ m.length ≤ 1000 ∧
  ∀ H' v, Same H H' → At H' v (dVec (timesM M.prime m xs)) → Q v H'
def p_Net_plus (K : PySem.W.Frag) : P3 := fun a b c H Q => ∃ (p : Addr) (M : NetM) (k1 k2 : Bool) (p1 p2 : Addr) (ns ms : List Int), a = .ref p ∧ b = .ref p1 ∧ c = .ref p2 ∧ NetAt K H p M ∧ 0 < M.prime ∧ SqK K k1 H p1 (ns.map V.int) ∧ SqK K k2 H p2 (ms.map V.int) ∧ ns.length ≤ 1000 ∧
  ∀ H' v, Same H H' → At H' v (dVec (plusM M.prime ns ms)) → Q v H'
def p_Net_looked_at (K : PySem.W.Frag) : P3 := fun a b c H Q => ∃ (p : Addr) (M : NetM) (q l : Addr) (ns : List Int) (ys : List V) (ps : List PairM), a = .ref p ∧ b = .ref q ∧ c = .ref l ∧ NetAt K H p M ∧ 0 < M.prime ∧ H q = some (.tup (ns.map V.int)) ∧ H l = some (.lst ys) ∧ AtAll H ys (ps.map dPair) ∧
  SmallI ns ∧ ns.length ≤ 1000 ∧ (∀ r ∈ ps, SmallI r.2 ∧ r.2.length = ns.length) ∧ ∀ H' v, Same H H' → At H' v (dVec (lookedM M.prime ns ps)) → Q v H'
theorem pg_tupK {X : Cx} {pos : Pos} {K0 : PySem.W.Frag} {es : List Expr} {k : Nat} {t : TGs} {n : Nat} (hc : X.calm = true) (h : PGs X es t)
    (hn : (assignEach es X.env).length = n := by rfl) (hst : (assignEach es X.env).findIdx? (·.1) = none := by rfl) (hK : X.K = K0 := by rfl) : PG X (.Tuple es k pos) (gTup K0 n t) := by
  subst hK
  exact pg_tup hc h hn hst
section
variable {P : Program} {w : World} {K : PySem.W.Frag} {mg : Str → Option Value} {base : Heap}
abbrev N_Net_rest : List Str := ["self", "number"]
theorem sc_Net_rest : FnScope N_Net_rest ["self", "number"] (defScope s_Net_rest) := ⟨rfl, rfl, rfl, by decide +kernel, rfl, by decide +kernel, by decide +kernel⟩
theorem ok_Net_rest (T : Txt K mg) : MFn P w K mg base 1 (He.ga K "Net") "rest" ["self", "number"] (Sp2 (p_Net_rest K)) := by
  refine mfn T.d_Net_rest T.m_Net_rest sc_Net_rest (fun _ _ _ _ _ _ us hl => match us, hl with | [_, _], _ => rfl) len2 fun cdv A outer s H vs Q E hr h => ?_
  obtain ⟨a0, a1, rfl, p, M, i, rfl, rfl, N, hp, q⟩ := h
  refine ⟨_, pss_one (ps_ret (pe_op op_mod (pe_callTy call_int1 (by rfl) T.b_int (by decide +kernel) (pa_cons (pv 1) pa_nil)) (pe_fld (pv 0) rfl))), ?_⟩
  obtain ⟨dx, ve, vs, vl, vo, vf, hn, _⟩ := N.ex
  exact ⟨_, rfl, .inl ⟨i, rfl, _, rfl, p, _, dx, _, _, rfl, hn, T.cl_Net, T.n_Net_prime, rfl, i, M.prime, rfl, rfl, hp, q⟩⟩
abbrev N_Net_is_letter : List Str := ["self", "value"]
theorem sc_Net_is_letter : FnScope N_Net_is_letter ["self", "value"] (defScope s_Net_is_letter) := ⟨rfl, rfl, rfl, by decide +kernel, rfl, by decide +kernel, by decide +kernel⟩
theorem ok_Net_is_letter (T : Txt K mg) : MFn P w K mg base 2 (He.ga K "Net") "is_letter" ["self", "value"] (Sp2 (p_Net_is_letter K)) := by
  refine mfn T.d_Net_is_letter T.m_Net_is_letter sc_Net_is_letter (fun _ _ _ _ _ _ us hl => match us, hl with | [_, _], _ => rfl) len2 fun cdv A outer s H vs Q E hr h => ?_
  obtain ⟨a0, a1, rfl, p, M, i, rfl, rfl, N, q⟩ := h
  refine ⟨_, pss_one (ps_ret (pe_g (ok_is_between T) (hr.mono (by decide)) (pa_cons (pv 1) (pa_cons (pe_int) (pa_cons (pe_op op_sub (pe_callB call_len_seq (by rfl) T.b_len PySem.boot_len (pa_cons (pe_fld (pv 0) rfl) pa_nil)) (pe_int)) pa_nil))))), ?_⟩
  obtain ⟨dx, ve, vs, vl, vo, vf, hn, he, _⟩ := N.ex
  obtain ⟨b, xs, rfl, hb, r⟩ := he.matI
  refine ⟨_, rfl, _, rfl, p, _, dx, _, _, rfl, hn, T.cl_Net, T.n_Net_embed, rfl, b, xs, rfl, .inr (SqT.of hb), _, _, rfl, rfl, _, _, _, rfl, i, 0, _, rfl, rfl, rfl, ?_⟩
  rw [r.len, List.length_map]
  exact q
abbrev N_Net_times : List Str := ["self", "matrix", "vector", "row"]
theorem sc_Net_times : FnScope N_Net_times ["self", "matrix", "vector"] (defScope s_Net_times) := ⟨rfl, rfl, rfl, by decide +kernel, rfl, by decide +kernel, by decide +kernel⟩
theorem ok_Net_times (T : Txt K mg) : MFn P w K mg base 2 (He.ga K "Net") "times" ["self", "matrix", "vector"] (Sp3 (p_Net_times K)) := by
  refine mfn T.d_Net_times T.m_Net_times sc_Net_times (fun _ _ _ _ _ _ us hl => match us, hl with | [_, _, _], _ => rfl) len3 fun cdv A outer s H vs Q E hr h => ?_
  obtain ⟨a0, a1, a2, rfl, p, M, m, k, b, xs, rfl, rfl, N, hp, hm, hk, hs, hl, q⟩ := h
  refine ⟨_, pss_one (ps_ret (pe_callTy call_tuple_of (by rfl) T.b_tuple (by decide +kernel) (pa_cons (pe_lc (own := [("row", 3)]) rfl sc_Net_times.nd (pi_tup (pv 1)) (blkOk_by (N := N_Net_times) (sc := defScope s_Net_times) (by decide +kernel)) (fun _ _ _ _ _ => pg_name (i := 3) sc_Net_times.nd rfl (Or.inl rfl) (hf := Or.inr rfl)) (fun _ _ _ _ _ => pts_nil) (fun _ _ _ _ _ => pe_m (ok_Net_rest T) T.cl_Net (hr.mono (by decide)) (pv 0) (pa_cons (pe_g (ok_product_sum T) (hr.mono (by decide)) (pa_cons (pv 3) (pa_cons (pv 2) pa_nil))) pa_nil))) pa_nil))), ?_⟩
  obtain ⟨dx, ve, vs, vl, vo, vf, hn, _⟩ := id N.ex
  obtain ⟨c, zs, rfl, hc, r⟩ := hm.matI
  have le : (timesM M.prime m xs).length = zs.length := by rw [timesM_len, r.len, List.length_map]
  refine ⟨_, rfl, c, rfl, ⟨_, SqT.of hc⟩, fun D hD => lc_tup (K := K) (a := c) (xs := zs) (LcI H D ((timesM M.prime m xs).map .int)) (lcI_0 hD) (fun i H' _ I => SqT.of (I.choose_spec.2.2 _ _ hc)) (fun i x H' hx I => ?_) fun H' I => ?_⟩
  · obtain ⟨d, hd, hx'⟩ := r.get hx
    have s3 := I.choose_spec.2.2
    obtain ⟨v, ev, rfl⟩ := map_get hd
    obtain ⟨b2, rfl, hb2⟩ := hx'.vecI
    refine ⟨rfl, _, rfl, p, dx, _, rfl, s3 _ _ hn, rfl, _, rfl, _, rfl, _, _, rfl, true, k, b2, b, v, xs, rfl, rfl, SqK.t (SqT.of (s3 _ _ hb2)), hk.up s3, hs v (List.mem_of_getElem? ev), fun H2 s2 => ?_⟩
    refine ⟨_, _, rfl, p, M, _, rfl, rfl, (N.up s3).up s2, hp, lcI_step hD I s2 (d := .int (psum v xs % M.prime)) ?_ (.int _) (by rw [List.length_map, timesM_len]; exact hl)⟩
    rw [List.getElem?_map]
    unfold timesM
    rw [List.getElem?_map, ev]
    rfl
  · obtain ⟨ys, h1, h2, h3⟩ := I.all (by rw [List.length_map, le])
    exact tup_of_list h1 h2 h3 q
abbrev N_Net_plus : List Str := ["self", "one", "two", "number", "other"]
theorem sc_Net_plus : FnScope N_Net_plus ["self", "one", "two"] (defScope s_Net_plus) := ⟨rfl, rfl, rfl, by decide +kernel, rfl, by decide +kernel, by decide +kernel⟩
theorem ok_Net_plus (T : Txt K mg) : MFn P w K mg base 2 (He.ga K "Net") "plus" ["self", "one", "two"] (Sp3 (p_Net_plus K)) := by
  refine mfn T.d_Net_plus T.m_Net_plus sc_Net_plus (fun _ _ _ _ _ _ us hl => match us, hl with | [_, _, _], _ => rfl) len3 fun cdv A outer s H vs Q E hr h => ?_
  obtain ⟨a0, a1, a2, rfl, p, M, k1, k2, p1, p2, ns, ms, rfl, rfl, rfl, N, hp, h1, h2, hl, q⟩ := h
  refine ⟨_, pss_one (ps_ret (pe_callTy call_tuple_of (by rfl) T.b_tuple (by decide +kernel) (pa_cons (pe_lc (own := [("number", 3), ("other", 4)]) rfl sc_Net_plus.nd (pi_zip2 k1 k2 (by rfl) T.b_zip (pa_cons (pv 1) (pa_cons (pv 2) pa_nil))) (blkOk_by (N := N_Net_plus) (sc := defScope s_Net_plus) (by decide +kernel)) (fun _ _ _ _ _ => pg_tupK (n := 2) (K0 := K) rfl (pgs_cons (pg_name (i := 3) sc_Net_plus.nd rfl (Or.inl rfl) (hf := Or.inr rfl)) (pgs_cons (pg_name (i := 4) sc_Net_plus.nd rfl (Or.inl rfl) (hf := Or.inr rfl)) pgs_nil))) (fun _ _ _ _ _ => pts_nil) (fun _ _ _ _ _ => pe_m (ok_Net_rest T) T.cl_Net (hr.mono (by decide)) (pv 0) (pa_cons (pe_op op_add (pv 3) (pv 4)) pa_nil))) pa_nil))), ?_⟩
  obtain ⟨dx, ve, vs, vl, vo, vf, hn, _⟩ := id N.ex
  refine ⟨_, rfl, _, rfl, p1, p2, _, _, rfl, h1, h2, fun D hD => lc_it (walk_zip2 (K := K) (xs := ns.map V.int) (ys := ms.map V.int) rfl) (LcI H D ((plusM M.prime ns ms).map .int)) (lcI_0 hD) (fun i H' _ I => ?_) (fun i x H' H2 hi I y => ?_) fun H' I => ?_⟩
  · have s3 := I.choose_spec.2.2
    exact ⟨h1.up s3, h2.up s3⟩
  · have s3 := I.choose_spec.2.2
    obtain ⟨T0, x0, y0, rfl, hT, rfl, e1, e2⟩ := y
    obtain ⟨n, en, rfl⟩ := map_get e1
    obtain ⟨m, em, rfl⟩ := map_get e2
    have s4 : Same H' (upd H' T0 (.tup [V.int n, V.int m])) := same_new hT
    refine ⟨T0, _, rfl, SqT.of upd_same, rfl, _, _, rfl, _, _, rfl, rfl, rfl, _, rfl, p, dx, _, rfl, s4 _ _ (s3 _ _ hn), rfl, _, rfl, _, rfl, _, _, rfl, rfl, _, _, rfl, p, M, _, rfl, rfl, (N.up s3).up s4, hp, lcI_step hD I s4 (d := .int ((n + m) % M.prime)) ?_ (.int _) ?_⟩
    · unfold plusM
      rw [List.getElem?_map, List.getElem?_zipWith, en, em]
      rfl
    · rw [List.length_map, plusM_len]
      omega
  · obtain ⟨ys, h1, h2, h3⟩ := I.all (by simp [plusM_len])
    exact tup_of_list h1 h2 h3 q
end
end Sv
end
section
set_option Elab.async false
set_option linter.all false
set_option maxRecDepth 100000
set_option maxHeartbeats 4000000
/-! The walk: Net.looked_at, Net.row, Net.__init__. -/
namespace Sv
open PySem PySem.Spec PyProof.Rows L2
/-! ### a comprehension over data that makes data -/
section
variable {K : PySem.W.Frag} {H0 : Hp} {D a : Addr} {xs0 : List V} {ds0 ds1 : List PyData} {g : TG} {tt : TT} {te : TE} {vs : List Nat} {σ : L2.St} {Qd : Hp → Prop}
/-- what a turn owes -/
abbrev LcK (H0 : Hp) (D : Addr) (ds1 : List PyData) (i : Nat) (H' : Hp) : Prop := ∀ d' y H4, ds1[i]? = some d' → Same H' H4 → At H4 y d' → ∃ acc, H4 D = some (.lst acc) ∧ acc.length < sizeLine ∧ LcI H0 D ds1 (i + 1) (upd H4 D (.lst (acc ++ [y])))
theorem lcd_tup (hD : H0 D = none) (ha : H0 a = some (.tup xs0)) (r : AtAll H0 xs0 ds0) (hl : ds1.length = ds0.length) (hs : ds1.length ≤ 1000)
    (turn : ∀ i x d H', ds0[i]? = some d → At H' x d → Same H0 H' → LcK H0 D ds1 i H' → g x (wipe σ vs) H' fun σ2 H2 => wipe σ2 vs = wipe σ vs ∧ tt σ2 H2 fun b H3 =>
      if b = true then te σ2 H3 fun y H4 => ∃ acc, H4 D = some (.lst acc) ∧ acc.length < sizeLine ∧ LcI H0 D ds1 (i + 1) (upd H4 D (.lst (acc ++ [y]))) else LcI H0 D ds1 (i + 1) H3)
    (fin : ∀ H' ys, H' D = some (.lst ys) → AtAll H' ys ds1 → Same H0 H' → Qd H') :
    ∃ W : Nat → Nat → Hp → Prop, (∃ m, W 0 m (upd H0 D (.lst []))) ∧ ∀ i m H, W i m H →
      ((Itt K a).stop i H ∧ Qd H) ∨ ((Itt K a).go i H ∧ ∃ Nx : Hp → Prop, (∀ H', Nx H' → ∃ m', m' < m ∧ W (i + 1) m' H') ∧ ∀ x H', (Itt K a).yld i H x H' → g x (wipe σ vs) H' fun σ2 H2 => wipe σ2 vs = wipe σ vs ∧ tt σ2 H2 fun b H3 =>
        if b = true then te σ2 H3 fun y H4 => ∃ acc, H4 D = some (.lst acc) ∧ acc.length < sizeLine ∧ Nx (upd H4 D (.lst (acc ++ [y]))) else Nx H3) := by
  refine lc_tup (K := K) (a := a) (xs := xs0) (LcI H0 D ds1) (lcI_0 hD) (fun i H' _ I => SqT.of (I.choose_spec.2.2 _ _ ha)) (fun i x H' hx I => ?_) fun H' I => ?_
  · obtain ⟨d, hd, hx'⟩ := r.get hx
    have s := I.choose_spec.2.2
    exact turn i x d H' hd (hx'.up s.tups) s fun d' y H4 e s2 h4 => lcI_step hD I s2 e h4 hs
  · obtain ⟨ys, h1, h2, h3⟩ := I.all (by rw [hl, r.len])
    exact fin H' ys h1 h2 h3
theorem lcd_list (hD : H0 D = none) (ha : H0 a = some (.lst xs0)) (r : AtAll H0 xs0 ds0) (hl : ds1.length = ds0.length) (hs : ds1.length ≤ 1000)
    (turn : ∀ i x d H', ds0[i]? = some d → At H' x d → Same H0 H' → LcK H0 D ds1 i H' → g x (wipe σ vs) H' fun σ2 H2 => wipe σ2 vs = wipe σ vs ∧ tt σ2 H2 fun b H3 =>
      if b = true then te σ2 H3 fun y H4 => ∃ acc, H4 D = some (.lst acc) ∧ acc.length < sizeLine ∧ LcI H0 D ds1 (i + 1) (upd H4 D (.lst (acc ++ [y]))) else LcI H0 D ds1 (i + 1) H3)
    (fin : ∀ H' ys, H' D = some (.lst ys) → AtAll H' ys ds1 → Same H0 H' → Qd H') :
    ∃ W : Nat → Nat → Hp → Prop, (∃ m, W 0 m (upd H0 D (.lst []))) ∧ ∀ i m H, W i m H →
      ((Itl K a).stop i H ∧ Qd H) ∨ ((Itl K a).go i H ∧ ∃ Nx : Hp → Prop, (∀ H', Nx H' → ∃ m', m' < m ∧ W (i + 1) m' H') ∧ ∀ x H', (Itl K a).yld i H x H' → g x (wipe σ vs) H' fun σ2 H2 => wipe σ2 vs = wipe σ vs ∧ tt σ2 H2 fun b H3 =>
        if b = true then te σ2 H3 fun y H4 => ∃ acc, H4 D = some (.lst acc) ∧ acc.length < sizeLine ∧ Nx (upd H4 D (.lst (acc ++ [y]))) else Nx H3) := by
  refine lc_list (K := K) (a := a) (xs := xs0) (LcI H0 D ds1) (lcI_0 hD) (fun i H' _ I => SqL.of (I.choose_spec.2.2 _ _ ha)) (fun i x H' hx I => ?_) fun H' I => ?_
  · obtain ⟨d, hd, hx'⟩ := r.get hx
    have s := I.choose_spec.2.2
    exact turn i x d H' hd (hx'.up s.tups) s fun d' y H4 e s2 h4 => lcI_step hD I s2 e h4 hs
  · obtain ⟨ys, h1, h2, h3⟩ := I.all (by rw [hl, r.len])
    exact fin H' ys h1 h2 h3
theorem lcd_range {n : Nat} {lo : Int} (hD : H0 D = none) (hl : ds1.length = n) (hs : ds1.length ≤ 1000)
    (turn : ∀ i H', i < n → Same H0 H' → LcK H0 D ds1 i H' → g (.int (lo + i)) (wipe σ vs) H' fun σ2 H2 => wipe σ2 vs = wipe σ vs ∧ tt σ2 H2 fun b H3 =>
      if b = true then te σ2 H3 fun y H4 => ∃ acc, H4 D = some (.lst acc) ∧ acc.length < sizeLine ∧ LcI H0 D ds1 (i + 1) (upd H4 D (.lst (acc ++ [y]))) else LcI H0 D ds1 (i + 1) H3)
    (fin : ∀ H' ys, H' D = some (.lst ys) → AtAll H' ys ds1 → Same H0 H' → Qd H') :
    ∃ W : Nat → Nat → Hp → Prop, (∃ m, W 0 m (upd H0 D (.lst []))) ∧ ∀ i m H, W i m H →
      ((Itr lo n).stop i H ∧ Qd H) ∨ ((Itr lo n).go i H ∧ ∃ Nx : Hp → Prop, (∀ H', Nx H' → ∃ m', m' < m ∧ W (i + 1) m' H') ∧ ∀ x H', (Itr lo n).yld i H x H' → g x (wipe σ vs) H' fun σ2 H2 => wipe σ2 vs = wipe σ vs ∧ tt σ2 H2 fun b H3 =>
        if b = true then te σ2 H3 fun y H4 => ∃ acc, H4 D = some (.lst acc) ∧ acc.length < sizeLine ∧ Nx (upd H4 D (.lst (acc ++ [y]))) else Nx H3) := by
  refine lc_range (LcI H0 D ds1) (lcI_0 hD) (fun i H' hi I => ?_) fun H' I => ?_
  · have s := I.choose_spec.2.2
    exact turn i H' hi s fun d' y H4 e s2 h4 => lcI_step hD I s2 e h4 hs
  · obtain ⟨ys, h1, h2, h3⟩ := I.all hl.symm
    exact fin H' ys h1 h2 h3
end
theorem tl_at {H : Hp} {l : Addr} {ys : List V} {ds : List PyData} (h2 : AtAll H ys ds) (hl : H l = none) : At (upd H l (.tup ys)) (.ref l) (.tuple ds) := at_tup upd_same (h2.up (same_new hl).tups)
theorem lookedM_snoc (p : Int) (q : List Int) (ps : List PairM) (kv : PairM) : lookedM p q (ps ++ [kv]) = plusM p (lookedM p q ps) (kv.2.map (psum q kv.1 * ·)) := by
  unfold lookedM; rw [List.foldl_append]; rfl
theorem getMap {α β : Type} {f : α → β} {l : List α} {i : Nat} {x : α} (h : l[i]? = some x) : (l.map f)[i]? = some (f x) := by rw [List.getElem?_map, h]; rfl
theorem lookedM_len (p : Int) (q : List Int) : ∀ ps : List PairM, (∀ r ∈ ps, r.2.length = q.length) → (lookedM p q ps).length = q.length := by
  intro ps h
  unfold lookedM
  have : ∀ (ps : List PairM) (f : List Int), f.length = q.length → (∀ r ∈ ps, r.2.length = q.length) → (ps.foldl (fun f kv => plusM p f (kv.2.map (psum q kv.1 * ·))) f).length = q.length := by
    intro ps
    induction ps with
    | nil => intro f hf _; exact hf
    | cons r ps ih =>
      intro f hf h
      refine ih _ ?_ fun r hr => h r (List.mem_cons_of_mem _ hr)
      rw [plusM_len, hf, List.length_map, h r List.mem_cons_self, Nat.min_self]
  exact this ps _ (by simp) h
section
variable {P : Program} {w : World} {K : PySem.W.Frag} {mg : Str → Option Value} {base : Heap}
abbrev N_Net_looked_at : List Str := ["self", "query", "pairs", "found", "key", "value", "part", "_", "number"]
theorem sc_Net_looked_at : FnScope N_Net_looked_at ["self", "query", "pairs"] (defScope s_Net_looked_at) := ⟨rfl, rfl, rfl, by decide +kernel, rfl, by decide +kernel, by decide +kernel⟩
theorem ok_Net_looked_at (T : Txt K mg) : MFn P w K mg base 3 (He.ga K "Net") "looked_at" ["self", "query", "pairs"] (Sp3 (p_Net_looked_at K)) := by
  refine mfn T.d_Net_looked_at T.m_Net_looked_at sc_Net_looked_at (fun _ _ _ _ _ _ us hl => match us, hl with | [_, _, _], _ => rfl) len3 fun cdv A outer s H vs Q E hr h => ?_
  obtain ⟨a0, a1, a2, rfl, p, M, b, l, ns, ys, ps, rfl, rfl, rfl, N, hp, hb, hl, hy, hns, hnl, hps, q⟩ := h
  refine ⟨_, pss_cons (ps_set (i := 3) sc_Net_looked_at.nd rfl (Or.inl rfl) (pe_callTy call_tuple_of (by rfl) T.b_tuple (by decide +kernel) (pa_cons (pe_lc (own := [("_", 7)]) rfl sc_Net_looked_at.nd (pi_tup (pv 1)) (blkOk_by (N := N_Net_looked_at) (sc := defScope s_Net_looked_at) (by decide +kernel)) (fun _ _ _ _ _ => pg_name (i := 7) sc_Net_looked_at.nd rfl (Or.inl rfl) (hf := Or.inr rfl)) (fun _ _ _ _ _ => pts_nil) (fun _ _ _ _ _ => pe_int)) pa_nil)))
      (pss_cons (ps_for PassesOwn.never rfl (pi_list (pv 2)) (pg_tup rfl (pgs_cons (pg_name (i := 4) sc_Net_looked_at.nd rfl (Or.inl rfl)) (pgs_cons (pg_name (i := 5) sc_Net_looked_at.nd rfl (Or.inl rfl)) pgs_nil)))
      (pss_cons (ps_set (i := 6) sc_Net_looked_at.nd rfl (Or.inr rfl) (pe_g (ok_product_sum T) (hr.mono (by decide)) (pa_cons (pv 1) (pa_cons (pv 4) pa_nil))))
      (pss_one (ps_set (i := 3) sc_Net_looked_at.nd rfl (Or.inl rfl) (pe_m (ok_Net_plus T) T.cl_Net (hr.mono (by decide)) (pv 0) (pa_cons (pv 3) (pa_cons (pe_lc (own := [("number", 8)]) rfl sc_Net_looked_at.nd (pi_tup (pv 5)) (blkOk_by (N := N_Net_looked_at) (sc := defScope s_Net_looked_at) (by decide +kernel)) (fun _ _ _ _ _ => pg_name (i := 8) sc_Net_looked_at.nd rfl (Or.inl rfl) (hf := Or.inr rfl)) (fun _ _ _ _ _ => pts_nil) (fun _ _ _ _ _ => pe_op op_mul (pv 6) (pv 8))) pa_nil)))))))
      (pss_one (ps_ret (pv 3)))), ?_⟩
  obtain ⟨dx, ve, vs, vl, vo, vf, hn, _⟩ := id N.ex
  refine ⟨_, rfl, b, rfl, ⟨_, SqT.of hb⟩, fun D hD => lcd_tup (ds1 := (ns.map fun _ => (0 : Int)).map .int) hD hb (atAll_ints ns) (by simp) (by simpa using hnl) (fun i x d H' hd hx s kp => ?_) fun H1 zs h1 h2 h3 => ⟨D, zs, rfl, .inl ⟨SqL.of h1, fun e he => ?_⟩⟩⟩
  · obtain ⟨n, hn', rfl⟩ := map_get hd
    exact ⟨rfl, kp _ _ _ (getMap (getMap hn')) (Same.refl _) (.int 0)⟩
  have s2 : Same H _ := h3.trans (same_new (o := .tup zs) he)
  have hv := tl_at h2 he
  refine ⟨_, rfl, l, rfl, ⟨_, SqL.of (s2 _ _ hl)⟩, for_list (K := K) (a := l) (xs := ys) (fun i σ H' => ∃ v3 v4 v5 v6 v7 v8, σ = [some (.ref p), some (.ref b), some (.ref l), some v3, v4, v5, v6, v7, v8] ∧ Same H H' ∧ At H' v3 (dVec (lookedM M.prime ns (ps.take i))))
    ⟨.ref e, none, none, none, none, none, rfl, s2, hv⟩ (fun i σ H' _ I => ?_) (fun i x σ H' hx I => ?_) fun σ H' I => ?_⟩
  · obtain ⟨_, _, _, _, _, _, _, s, _⟩ := I
    exact SqL.of (s _ _ hl)
  · obtain ⟨v3, v4, v5, v6, v7, v8, rfl, s, h3⟩ := I
    obtain ⟨d, hd, hx'⟩ := hy.get hx
    obtain ⟨pr, epr, rfl⟩ := map_get hd
    obtain ⟨c, zs, rfl, hc, hz⟩ := (hx'.up s.tups).tupI
    obtain ⟨f, rfl, hf⟩ := h3.vecI
    cases hz with
    | cons k1 hz => ?_
    cases hz with
    | cons k2 hz => ?_
    cases hz
    obtain ⟨c1, rfl, hc1⟩ := k1.vecI
    obtain ⟨c2, rfl, hc2⟩ := k2.vecI
    obtain ⟨ps1, ps2⟩ := hps pr (List.mem_of_getElem? epr)
    refine ⟨c, _, rfl, SqT.of hc, rfl, _, _, rfl, _, _, rfl, rfl, _, rfl, _, rfl, _, _, rfl, true, true, _, _, ns, pr.1, rfl, rfl, SqK.t (SqT.of (s _ _ hb)), SqK.t (SqT.of hc1), hns, fun H3 s3 => ?_⟩
    have s4 := s.trans s3
    refine ⟨_, rfl, p, dx, _, rfl, s4 _ _ hn, rfl, _, rfl, _, rfl, c2, rfl, ⟨_, SqT.of (s3 _ _ hc2)⟩, fun D hD => lcd_tup (ds1 := (pr.2.map (psum ns pr.1 * ·)).map .int) hD (s3 _ _ hc2) (atAll_ints pr.2) (by simp) (by rw [List.length_map, List.length_map, ps2]; exact hnl) (fun j x d H' hd hx s kp => ?_) fun H4 zs h1 h2 h3 => ?_⟩
    · obtain ⟨n, hn', rfl⟩ := map_get hd
      cases hx.intI
      exact ⟨rfl, _, rfl, _, rfl, _, _, rfl, rfl, .inr (ps1 _ (List.mem_of_getElem? hn')), kp _ _ _ (getMap (getMap hn')) (Same.refl _) (.int _)⟩
    · cases h2.intsI
      refine ⟨_, _, _, rfl, p, M, true, false, _, _, _, _, rfl, rfl, rfl, (N.up s4).up h3, hp, SqK.t (SqT.of (h3 _ _ (s3 _ _ hf))), SqK.l (SqL.of h1), ?_, fun H5 v s5 h5 => ⟨_, _, _, _, _, _, rfl, (s4.trans h3).trans s5, ?_⟩⟩
      · rw [lookedM_len _ _ _ fun r hr => (hps r (List.mem_of_mem_take hr)).2]; exact hnl
      · rw [take_snoc epr, lookedM_snoc]
        exact h5
  · obtain ⟨v3, v4, v5, v6, v7, v8, rfl, s, h3⟩ := I
    refine ⟨_, rfl, q _ _ s ?_⟩
    rw [hy.len, List.length_map, List.take_length] at h3
    exact h3
end
end Sv
end
section
set_option autoImplicit false
/-! The net in plain Lean: rows keep their form. -/
namespace Sv
theorem snocInd {α : Type} {p : List α → Prop} (h0 : p []) (h1 : ∀ a l, p a → p (a ++ [l])) : ∀ a, p a := by
  intro a
  rw [← List.reverse_reverse a]
  induction a.reverse with
  | nil => exact h0
  | cons x r ih => rw [List.reverse_cons]; exact h1 _ _ ih
structure RowOk (M : NetM) (L w : Nat) (r : RowM) : Prop where
  n : r.1.length = M.layers.length
  ps : ∀ p ∈ r.1, VecOk M.prime w p.1 ∧ VecOk M.prime w p.2
  l : r.2.length = L
  ws : ∀ x ∈ r.2, 1 ≤ x ∧ x ≤ M.prime
theorem lookedM_ok {p : Int} (hp : 0 < p) {w : Nat} : ∀ (ps : List PairM) (f q : List Int), (∀ r ∈ ps, r.2.length = w) → VecOk p w f → VecOk p w (ps.foldl (fun f kv => plusM p f (kv.2.map (psum q kv.1 * ·))) f) := by
  intro ps
  induction ps with
  | nil => intro f q _ hf; exact hf
  | cons r ps ih =>
    intro f q h hf
    exact ih _ q (fun r hr => h r (List.mem_cons_of_mem _ hr)) (plusM_ok hp hf.1 (by rw [List.length_map, h r List.mem_cons_self]))
theorem zeroVec {p : Int} (hp : 0 < p) {w : Nat} {q : List Int} (h : q.length = w) : VecOk p w (q.map fun _ => 0) := ⟨by simp [h], fun x hx => by
  obtain ⟨_, _, rfl⟩ := List.mem_map.mp hx
  exact ⟨Int.le_refl _, hp⟩⟩
theorem layM_ok {p : Int} (hp : 0 < p) {w : Nat} {l : Lay} (hl : LayOk p w l) {old : List PairM} (ho : ∀ r ∈ old, r.2.length = w) {x : List Int} (hx : VecOk p w x) :
    VecOk p w (layM p l old x).1 ∧ VecOk p w (layM p l old x).2.1 ∧ VecOk p w (layM p l old x).2.2 := by
  have h1 := timesM_ok hp hl.k x
  have h2 := timesM_ok hp hl.v x
  have hq := timesM_ok hp hl.q x
  have hlk : VecOk p w (lookedM p (timesM p l.q x) (old ++ [(timesM p l.k x, timesM p l.v x)])) := by
    refine lookedM_ok hp _ _ _ (fun r hr => ?_) (zeroVec hp hq.1)
    rcases List.mem_append.mp hr with h | h
    · exact ho r h
    · rw [List.mem_singleton.mp h]; exact h2.1
  have hx1 := plusM_ok hp hx.1 hlk.1
  exact ⟨plusM_ok hp hx1.1 (timesM_ok hp hl.s _).1, h1, h2⟩
theorem oldM_ok {M : NetM} {L w : Nat} {rows : List RowM} (h : ∀ r ∈ rows, RowOk M L w r) {j : Nat} (hj : j < M.layers.length) : ∀ pr ∈ oldM rows j, VecOk M.prime w pr.1 ∧ VecOk M.prime w pr.2 := by
  intro pr hr
  obtain ⟨r, hr', rfl⟩ := List.mem_map.mp hr
  have o := h r hr'
  have hj' : j < r.1.length := by rw [o.n]; exact hj
  rw [List.getD_eq_getElem?_getD, List.getElem?_eq_getElem hj']
  exact o.ps _ (List.getElem_mem hj')
theorem laysM_step {p : Int} {rows : List RowM} {ls : List Lay} {j : Nat} {l : Lay} (h : ls[j]? = some l) (x : List Int) (own : List PairM) :
    laysM p rows j (ls.drop j) x own = laysM p rows (j + 1) (ls.drop (j + 1)) (layM p l (oldM rows j) x).1 (own ++ [(layM p l (oldM rows j) x).2]) := by
  obtain ⟨hj, e⟩ := List.getElem?_eq_some_iff.mp h
  rw [List.drop_eq_getElem_cons hj, e]
  rfl
theorem laysM_ok {M : NetM} {L w : Nat} (N : NetOk M L w) {rows : List RowM} (h : ∀ r ∈ rows, RowOk M L w r) : ∀ (ls : List Lay) (j : Nat) (x : List Int) (own : List PairM), ls = M.layers.drop j → j ≤ M.layers.length → VecOk M.prime w x → own.length = j → (∀ pr ∈ own, VecOk M.prime w pr.1 ∧ VecOk M.prime w pr.2) →
    VecOk M.prime w (laysM M.prime rows j ls x own).1 ∧ (laysM M.prime rows j ls x own).2.length = M.layers.length ∧ ∀ pr ∈ (laysM M.prime rows j ls x own).2, VecOk M.prime w pr.1 ∧ VecOk M.prime w pr.2 := by
  have hp : 0 < M.prime := by have := N.p0; omega
  intro ls
  induction ls with
  | nil =>
    intro j x own e hj hx ho hw
    have : M.layers.length ≤ j := by
      have := congrArg List.length e
      simp at this; omega
    exact ⟨hx, by show own.length = _; omega, hw⟩
  | cons l ls ih =>
    intro j x own e hj hx ho hw
    have hj' : j < M.layers.length := by
      have := congrArg List.length e
      simp at this; omega
    have e2 : l = M.layers[j] ∧ ls = M.layers.drop (j + 1) := by
      rw [List.drop_eq_getElem_cons hj'] at e
      exact List.cons.inj e
    have hl : LayOk M.prime w l := by rw [e2.1]; exact N.layers _ (List.getElem_mem hj')
    obtain ⟨a, b, c⟩ := layM_ok hp hl (old := oldM rows j) (fun r hr => (oldM_ok h hj' r hr).2.1) hx
    refine ih (j + 1) _ _ e2.2 hj' a (by simp [ho]) fun pr hr => ?_
    rcases List.mem_append.mp hr with h1 | h1
    · exact hw pr h1
    · rw [List.mem_singleton.mp h1]; exact ⟨b, c⟩
theorem x0M_ok {M : NetM} {L w : Nat} (N : NetOk M L w) {i : Int} (h0 : 0 ≤ i) (h1 : i < L) (n : Nat) : VecOk M.prime w (x0M M n i) := by
  have hp : 0 < M.prime := by have := N.p0; omega
  have hi : i.toNat < M.embed.length := by rw [N.embed.1]; omega
  have hv : VecOk M.prime w (M.embed.getD i.toNat []) := by
    rw [List.getD_eq_getElem?_getD, List.getElem?_eq_getElem hi]
    exact N.embed.2 _ (List.getElem_mem hi)
  exact plusM_ok hp hv.1 (by rw [List.length_map]; exact N.shift.1)
theorem outM_ok {M : NetM} {L w : Nat} (N : NetOk M L w) (x : List Int) : (outM M x).length = L ∧ ∀ z ∈ outM M x, 1 ≤ z ∧ z ≤ M.prime := by
  have hp : 0 < M.prime := by have := N.p0; omega
  refine ⟨by unfold outM; rw [List.length_map]; exact N.out.1, fun z hz => ?_⟩
  obtain ⟨r, _, rfl⟩ := List.mem_map.mp hz
  have := Int.emod_nonneg (psum r x) (b := M.prime) (by omega)
  have := Int.emod_lt_of_pos (psum r x) hp
  omega
theorem rowM_ok {M : NetM} {L w : Nat} (N : NetOk M L w) {rows : List RowM} (h : ∀ r ∈ rows, RowOk M L w r) {i : Int} (h0 : 0 ≤ i) (h1 : i < L) : RowOk M L w (rowM M rows i) := by
  obtain ⟨a, b, c⟩ := laysM_ok N h M.layers 0 (x0M M rows.length i) [] rfl (Nat.zero_le _) (x0M_ok N h0 h1 _) rfl (by simp)
  exact ⟨b, c, (outM_ok N _).1, (outM_ok N _).2⟩
theorem rowsM_snoc (M : NetM) (a : List Int) (l : Int) : rowsM M (a ++ [l]) = rowsM M a ++ [rowM M (rowsM M a) l] := by
  unfold rowsM; rw [List.foldl_append]; rfl
theorem rowsM_len (M : NetM) : ∀ a : List Int, (rowsM M a).length = a.length := by
  refine snocInd rfl fun a l ih => ?_
  rw [rowsM_snoc, List.length_append, List.length_append, ih]; rfl
theorem rowsM_app (M : NetM) (a b : List Int) : ∃ c, rowsM M (a ++ b) = rowsM M a ++ c := by
  refine snocInd (p := fun b => ∃ c, rowsM M (a ++ b) = rowsM M a ++ c) ⟨[], by simp⟩ (fun b l ih => ?_) b
  · obtain ⟨c, e⟩ := ih
    exact ⟨c ++ [rowM M (rowsM M (a ++ b)) l], by rw [← List.append_assoc, rowsM_snoc, e, List.append_assoc]⟩
theorem rowsM_take (M : NetM) (a : List Int) (n : Nat) : rowsM M (a.take n) = (rowsM M a).take n := by
  obtain ⟨c, e⟩ := rowsM_app M (a.take n) (a.drop n)
  rw [List.take_append_drop] at e
  rw [e]
  by_cases h : n ≤ a.length
  · rw [List.take_left' (by rw [rowsM_len, List.length_take]; omega)]
  · have hc : c = [] := by
      have h1 := congrArg List.length e
      rw [List.length_append, rowsM_len, rowsM_len, List.length_take] at h1
      exact List.eq_nil_of_length_eq_zero (by omega)
    subst hc
    have : a.take n = a := List.take_of_length_le (by omega)
    rw [List.append_nil, this, List.take_of_length_le (by rw [rowsM_len]; omega)]
theorem rowsM_ok {M : NetM} {L w : Nat} (N : NetOk M L w) : ∀ a : List Int, (∀ x ∈ a, 0 ≤ x ∧ x < L) → ∀ r ∈ rowsM M a, RowOk M L w r := by
  refine snocInd (fun _ r hr => by cases hr) fun a l ih => ?_
  · intro h r hr
    rw [rowsM_snoc] at hr
    have ih' := ih fun x hx => h x (List.mem_append_left _ hx)
    have hl := h l (by simp)
    rcases List.mem_append.mp hr with h1 | h1
    · exact ih' r h1
    · rw [List.mem_singleton.mp h1]; exact rowM_ok N ih' hl.1 hl.2
end Sv
end
section
set_option Elab.async false
set_option linter.all false
set_option maxRecDepth 100000
set_option maxHeartbeats 4000000
/-! The walk: Net.row, Net.__init__. -/
namespace Sv
open PySem PySem.Spec PyProof.Rows L2
def p_Net_row (K : PySem.W.Frag) : P3 := fun a b c H Q => ∃ (p : Addr) (M : NetM) (L w : Nat) (q : Addr) (rs : List RowM) (i : Int), a = .ref p ∧ b = .ref q ∧ c = .int i ∧ NetAt K H p M ∧ NetOk M L w ∧ At H (.ref q) (.tuple (rs.map dRow)) ∧ (∀ r ∈ rs, RowOk M L w r) ∧ rs.length ≤ 500 ∧
  0 ≤ i ∧ i < L ∧ ∀ H' v, Same H H' → At H' v (dRow (rowM M rs i)) → Q v H'
theorem VecOk.small {p : Int} (hp : p ≤ 97) {w : Nat} {v : List Int} (h : VecOk p w v) : SmallI v := fun n hn => by
  have := h.2 n hn
  constructor <;> omega
theorem MatOk.small {p : Int} (hp : p ≤ 97) {n w : Nat} {m : List (List Int)} (h : MatOk p n w m) : ∀ r ∈ m, SmallI r := fun r hr => (h.2 r hr).small hp
theorem ll0 : (0 : Nat) ≤ sizeLine := by decide
theorem ll1 : (1 : Nat) ≤ sizeLine := by decide
theorem ll2 : (2 : Nat) ≤ sizeLine := by decide
theorem ll5 : (5 : Nat) ≤ sizeLine := by decide
theorem ty_l {K : PySem.W.Frag} {H : Hp} {o : Addr} {xs : List V} (h : H o = some (.lst xs)) : tyV K "list" (.ref o) H := .inl ⟨rfl, _, SqL.of h⟩
/-- data in a heap before a thing was made -/
theorem up_new {H H' : Hp} {a D : Addr} {o : HO} (s : Same H H') (hD : H D = none) (h : H a = some o) : a ≠ D := fun e => by rw [e, hD] at h; cases h
section
variable {P : Program} {w : World} {K : PySem.W.Frag} {mg : Str → Option Value} {base : Heap}
abbrev N_Net_row : List Str := ["self", "rows", "letter", "x", "own", "weights", "layer", "pair", "pairs", "query", "key", "value", "first", "second", "vector", "number", "row"]
theorem sc_Net_row : FnScope N_Net_row ["self", "rows", "letter"] (defScope s_Net_row) := ⟨rfl, rfl, rfl, by decide +kernel, rfl, by decide +kernel, by decide +kernel⟩
theorem ok_Net_row (T : Txt K mg) : MFn P w K mg base 4 (He.ga K "Net") "row" ["self", "rows", "letter"] (Sp3 (p_Net_row K)) := by
  refine mfn T.d_Net_row T.m_Net_row sc_Net_row (fun _ _ _ _ _ _ us hl => match us, hl with | [_, _, _], _ => rfl) len3 fun cdv A outer s H vs Q E hr h => ?_
  obtain ⟨a0, a1, a2, rfl, p, M, L, W, b, rs, letter, rfl, rfl, rfl, N, ok, hr0, hrs, hrl, l0, l1, q⟩ := h
  refine ⟨_, pss_cons (ps_if (pt_not (pt_val (pe_m (ok_Net_is_letter T) T.cl_Net (hr.mono (by decide)) (pv 0) (pa_cons (pv 2) pa_nil)))) (pss_one (ps_never)) (pss_nil))
      (pss_cons (ps_set (i := 3) sc_Net_row.nd rfl (Or.inr rfl) (pe_m (ok_Net_plus T) T.cl_Net (hr.mono (by decide)) (pv 0) (pa_cons (pe_ix ix_tup (pe_fld (pv 0) rfl) (pv 2) (fun _ _ => rfl)) (pa_cons (pe_lc (own := [("number", 15)]) rfl sc_Net_row.nd (pi_tup (pe_fld (pv 0) rfl)) (blkOk_by (N := N_Net_row) (sc := defScope s_Net_row) (by decide +kernel)) (fun _ _ _ _ _ => pg_name (i := 15) sc_Net_row.nd rfl (Or.inl rfl) (hf := Or.inr rfl)) (fun _ _ _ _ _ => pts_nil) (fun _ _ _ _ _ => pe_op op_mul (pe_callB (call_len_seqK (K0 := K)) (by rfl) T.b_len PySem.boot_len (pa_cons (pv 1) pa_nil)) (pv 15))) pa_nil))))
      (pss_cons (ps_set (i := 4) sc_Net_row.nd rfl (Or.inl rfl) (pe_lst pa_nil))
      (pss_cons (ps_for PassesOwn.never rfl (pi_enum2 true (by rfl) T.b_enumerate (pa_cons (pe_fld (pv 0) rfl) pa_nil)) (pg_tup rfl (pgs_cons (pg_name (i := 6) sc_Net_row.nd rfl (Or.inr rfl)) (pgs_cons (pg_tup rfl (pgs_cons (pg_name (i := 9) sc_Net_row.nd rfl (Or.inl rfl)) (pgs_cons (pg_name (i := 10) sc_Net_row.nd rfl (Or.inl rfl)) (pgs_cons (pg_name (i := 11) sc_Net_row.nd rfl (Or.inl rfl)) (pgs_cons (pg_name (i := 12) sc_Net_row.nd rfl (Or.inl rfl)) (pgs_cons (pg_name (i := 13) sc_Net_row.nd rfl (Or.inl rfl)) pgs_nil)))))) pgs_nil)))
      (pss_cons (ps_set (i := 7) sc_Net_row.nd rfl (Or.inl rfl) (pe_tup (pa_cons (pe_m (ok_Net_times T) T.cl_Net (hr.mono (by decide)) (pv 0) (pa_cons (pv 10) (pa_cons (pv 3) pa_nil))) (pa_cons (pe_m (ok_Net_times T) T.cl_Net (hr.mono (by decide)) (pv 0) (pa_cons (pv 11) (pa_cons (pv 3) pa_nil))) pa_nil))))
      (pss_cons (ps_set (i := 8) sc_Net_row.nd rfl (Or.inl rfl) (pe_op op_cat (pe_lc (own := [("row", 16)]) rfl sc_Net_row.nd (pi_tup (pv 1)) (blkOk_by (N := N_Net_row) (sc := defScope s_Net_row) (by decide +kernel)) (fun _ _ _ _ _ => pg_name (i := 16) sc_Net_row.nd rfl (Or.inl rfl) (hf := Or.inr rfl)) (fun _ _ _ _ _ => pts_nil) (fun _ _ _ _ _ => pe_ix (ix_tupK (K0 := K)) (pe_ix (ix_tupK (K0 := K)) (pv 16) (pe_int) (fun _ _ => rfl)) (pv 6) (fun _ _ => rfl))) (pe_lst (pa_cons (pv 7) pa_nil))))
      (pss_cons (ps_set (i := 3) sc_Net_row.nd rfl (Or.inr rfl) (pe_m (ok_Net_plus T) T.cl_Net (hr.mono (by decide)) (pv 0) (pa_cons (pv 3) (pa_cons (pe_m (ok_Net_looked_at T) T.cl_Net (hr.mono (by decide)) (pv 0) (pa_cons (pe_m (ok_Net_times T) T.cl_Net (hr.mono (by decide)) (pv 0) (pa_cons (pv 9) (pa_cons (pv 3) pa_nil))) (pa_cons (pv 8) pa_nil))) pa_nil))))
      (pss_cons (ps_set (i := 3) sc_Net_row.nd rfl (Or.inr rfl) (pe_m (ok_Net_plus T) T.cl_Net (hr.mono (by decide)) (pv 0) (pa_cons (pv 3) (pa_cons (pe_m (ok_Net_times T) T.cl_Net (hr.mono (by decide)) (pv 0) (pa_cons (pv 13) (pa_cons (pe_lc (own := [("number", 15)]) rfl sc_Net_row.nd (pi_tup (pe_m (ok_Net_times T) T.cl_Net (hr.mono (by decide)) (pv 0) (pa_cons (pv 12) (pa_cons (pv 3) pa_nil)))) (blkOk_by (N := N_Net_row) (sc := defScope s_Net_row) (by decide +kernel)) (fun _ _ _ _ _ => pg_name (i := 15) sc_Net_row.nd rfl (Or.inl rfl) (hf := Or.inr rfl)) (fun _ _ _ _ _ => pts_nil) (fun _ _ _ _ _ => pe_op op_mul (pv 15) (pv 15))) pa_nil))) pa_nil))))
      (pss_one (ps_expr (pe_bm PySem.F.plainAttrs_list PySem.F.slot_list_append PySem.F.type_list_append mt_append (pv 4) (pa_cons (pv 7) pa_nil)))))))))
      (pss_cons (ps_setLc (i := 5) (own := [("vector", 14)]) rfl sc_Net_row.nd rfl rfl (sw_true rfl rfl rfl (by decide +kernel)) (pi_tup (pe_fld (pv 0) rfl)) (blkOk_by (N := N_Net_row) (sc := defScope s_Net_row) (by decide +kernel)) (fun _ _ _ _ _ => pg_name (i := 14) sc_Net_row.nd rfl (Or.inl rfl) (hf := Or.inr rfl)) (fun _ _ _ _ _ => pts_nil) (fun _ _ _ _ _ => pe_op op_add (pe_int) (pe_m (ok_Net_rest T) T.cl_Net (hr.mono (by decide)) (pv 0) (pa_cons (pe_g (ok_product_sum T) (hr.mono (by decide)) (pa_cons (pv 14) (pa_cons (pv 3) pa_nil))) pa_nil))))
      (pss_one (ps_ret (pe_tup (pa_cons (pe_callTy call_tuple_of (by rfl) T.b_tuple (by decide +kernel) (pa_cons (pv 4) pa_nil)) (pa_cons (pe_callTy call_tuple_of (by rfl) T.b_tuple (by decide +kernel) (pa_cons (pv 5) pa_nil)) pa_nil))))))))), ?_⟩
  obtain ⟨li, rfl⟩ := Int.eq_ofNat_of_zero_le l0
  obtain ⟨dx, ve, vs, vl, vo, vf, hn, hve, hvs, hvl, hvo, hvf⟩ := id N.ex
  have hp : 0 < M.prime := by have := ok.p0; omega
  have hp97 := ok.p1
  have hw4 := ok.w1
  have hL12 := ok.l1
  obtain ⟨_, rws, e0, hb, hrr⟩ := hr0.tupI
  cases e0
  obtain ⟨c1, xe, rfl, hc1, re⟩ := hve.matI
  obtain ⟨c2, rfl, hc2⟩ := hvs.vecI
  obtain ⟨c3, xl, rfl, hc3, rl⟩ := hvl.tupI
  obtain ⟨c4, xo, rfl, hc4, ro⟩ := hvo.matI
  have hil : li < M.embed.length := by rw [ok.embed.1]; omega
  obtain ⟨ve, he1, he2⟩ := re.getD (i := li) (d := dVec (M.embed.getD li [])) (by rw [List.getElem?_map, List.getD_eq_getElem?_getD, List.getElem?_eq_getElem hil]; rfl)
  obtain ⟨c5, rfl, hc5⟩ := he2.vecI
  have hdec : decide (0 ≤ (li : Int) ∧ (li : Int) ≤ (M.embed.length : Int) - 1) = true := by rw [ok.embed.1]; simp; omega
  refine ⟨_, rfl, p, dx, _, rfl, hn, rfl, _, rfl, _, _, rfl, p, M, _, rfl, rfl, N, ?_⟩
  rw [hdec]
  refine ⟨true, rfl, ?_⟩
  refine ⟨_, rfl, p, dx, _, rfl, hn, rfl, ⟨_, rfl, p, _, dx, _, _, rfl, hn, T.cl_Net, T.n_Net_embed, rfl, _, rfl, c1, xe, _, _, rfl, rfl, SqT.of hc1, atI_nat he1, ?_⟩⟩
  refine ⟨_, rfl, p, _, dx, _, _, rfl, hn, T.cl_Net, T.n_Net_shift, rfl, c2, rfl, ⟨_, SqT.of hc2⟩, fun D hD => lcd_tup (ds1 := (M.shift.map ((rs.length : Int) * ·)).map .int) hD hc2 (atAll_ints M.shift) (by simp) (by rw [List.length_map, List.length_map, ok.shift.1]; omega) (fun i x d H' hd hx s kp => ?_) fun H1 zs h1 h2 h3 => ?_⟩
  · obtain ⟨n, hn', rfl⟩ := map_get hd
    cases hx.intI
    have hsm := VecOk.small hp97 ok.shift _ (List.mem_of_getElem? hn')
    refine ⟨rfl, _, rfl, b, rws, rfl, .inr (SqT.of (s _ _ hb)), _, rfl, _, _, rfl, rfl, .inr hsm, kp _ _ _ (getMap (getMap hn')) (Same.refl _) ?_⟩
    rw [hrr.len, List.length_map]
    exact .int _
  cases h2.intsI
  refine ⟨_, _, _, rfl, p, M, true, false, _, _, _, _, rfl, rfl, rfl, N.up h3, hp, SqK.t (SqT.of (h3 _ _ hc5)), SqK.l (SqL.of h1), ?_, fun H2 v s2 hv => ?_⟩
  · rw [List.getD_eq_getElem?_getD, List.getElem?_eq_getElem hil]
    have := (ok.embed.2 _ (List.getElem_mem hil)).1
    show (M.embed[li]).length ≤ 1000
    omega
  have s2' := h3.trans s2
  refine ⟨by decide, fun o ho => ?_⟩
  have ho0 : H o = none := by
    cases e : H o with
    | none => rfl
    | some z => rw [s2' _ _ e] at ho; cases ho
  have s3 : Same H (upd H2 o (.lst [])) := s2'.trans (same_new ho)
  have hx0 := x0M_ok ok l0 l1 rs.length
  refine ⟨_, rfl, p, _, dx, _, _, rfl, s3 _ _ hn, T.cl_Net, T.n_Net_layers, rfl, c3, xl, rfl, SqK.t (SqT.of (s3 _ _ hc3)), for_it (walk_enum2 (K := K) (k := true) (xs := xl)) (fun i σ H' => ∃ vx v5 v6 v7 v8 v9 v10 v11 v12 v13 v14 v15 v16,
      σ = [some (.ref p), some (.ref b), some (.int li), some vx, some (.ref o), v5, v6, v7, v8, v9, v10, v11, v12, v13, v14, v15, v16] ∧ Same H H' ∧ ∃ x own ys, At H' vx (dVec x) ∧ VecOk M.prime W x ∧ H' o = some (.lst ys) ∧ AtAll H' ys (own.map dPair) ∧ own.length = i ∧
      laysM M.prime rs i (M.layers.drop i) x own = laysM M.prime rs 0 M.layers (x0M M rs.length li) [])
    ⟨v, none, none, none, none, none, none, none, none, none, none, none, none, rfl, s3, _, [], [], hv.up (same_new ho).tups, hx0, upd_same, .nil, rfl, rfl⟩ (fun i σ H' _ I => ?_) (fun i x σ H' H2 hi I y => ?_) fun σ H' I => ?_⟩
  · obtain ⟨_, _, _, _, _, _, _, _, _, _, _, _, _, _, s, _⟩ := I
    exact SqK.t (SqT.of (s _ _ hc3))
  · obtain ⟨vx, v5, v6, v7, v8, v9, v10, v11, v12, v13, v14, v15, v16, rfl, s, x, own, ys, hx, okx, hy, hys, hol, eq⟩ := I
    obtain ⟨T0, x0, y0, rfl, hT, rfl, e1, e2⟩ := y
    cases e1
    obtain ⟨d, hd, hy0⟩ := rl.get e2
    obtain ⟨l, el, rfl⟩ := map_get hd
    have hlm : l ∈ M.layers := List.mem_of_getElem? el
    have okl := ok.layers l hlm
    have s4 : Same H' _ := same_new (o := .tup [V.int i, y0]) hT
    obtain ⟨c, zs, rfl, hc, hz⟩ := (hy0.up s.tups).tupI
    cases hz with
    | cons k1 hz => ?_
    cases hz with
    | cons k2 hz => ?_
    cases hz with
    | cons k3 hz => ?_
    cases hz with
    | cons k4 hz => ?_
    cases hz with
    | cons k5 hz => ?_
    cases hz
    obtain ⟨cx, rfl, hcx⟩ := hx.vecI
    refine ⟨T0, _, rfl, SqT.of upd_same, rfl, _, _, rfl, _, _, rfl, ⟨c, _, rfl, SqT.of (s4 _ _ hc), rfl, _, _, rfl, _, _, rfl, _, _, rfl, _, _, rfl, _, _, rfl, rfl, rfl, ?_⟩⟩
    have s5 := s.trans s4
    refine ⟨_, rfl, p, dx, _, rfl, s5 _ _ hn, rfl, _, rfl, _, rfl, _, _, _, rfl, p, M, _, true, cx, _, rfl, rfl, N.up s5, hp, k2.up s4.tups, SqK.t (SqT.of (s4 _ _ hcx)), okl.k.small hp97, by rw [okl.k.1]; omega, fun H3 va sa hva => ?_⟩
    have s6 := s5.trans sa
    refine ⟨_, rfl, p, dx, _, rfl, s6 _ _ hn, rfl, _, rfl, _, rfl, _, _, _, rfl, p, M, _, true, cx, _, rfl, rfl, N.up s6, hp, (k3.up s4.tups).up sa.tups, SqK.t (SqT.of (sa _ _ (s4 _ _ hcx))), okl.v.small hp97, by rw [okl.v.1]; omega, fun H4 vb sb hvb => ?_⟩
    have s7 := s6.trans sb
    refine ⟨ll2, fun t ht => ?_⟩
    have s8 : Same H4 (upd H4 t (.tup [va, vb])) := same_new ht
    have hpr : At (upd H4 t (.tup [va, vb])) (.ref t) (dPair (layM M.prime l (oldM rs i) x).2) := at_tup upd_same (.cons ((hva.up sb.tups).up s8.tups) (.cons (hvb.up s8.tups) .nil))
    have s9 := s7.trans s8
    have hij : i < M.layers.length := (List.getElem?_eq_some_iff.mp el).1
    refine ⟨_, rfl, b, rfl, ⟨_, SqT.of (s9 _ _ hb)⟩, fun D hD => lcd_tup (ds1 := (oldM rs i).map dPair) hD (s9 _ _ hb) (hrr.up s9.tups) (by simp [oldM]) (by rw [List.length_map]; unfold oldM; rw [List.length_map]; omega) (fun j x d H' hd hx s kp => ?_) fun H5 zs h1 h2 h3 => ?_⟩
    · obtain ⟨r, hr', rfl⟩ := map_get hd
      obtain ⟨b1, us, rfl, hb1, h5⟩ := hx.tupI
      cases h5 with
      | cons h5 h6 => ?_
      obtain ⟨b2, ws, rfl, hb2, h7⟩ := h5.tupI
      have okr := hrs r (List.mem_of_getElem? hr')
      have hir : i < r.1.length := by rw [okr.n]; exact hij
      obtain ⟨z, hz, hz2⟩ := h7.getD (getMap (f := dPair) (List.getElem?_eq_getElem hir))
      refine ⟨rfl, _, rfl, b1, _, 0, _, rfl, rfl, SqT.of hb1, atI_nat (j := 0) rfl, _, rfl, b2, _, i, _, rfl, rfl, SqT.of hb2, atI_nat hz, kp _ _ _ (getMap (getMap hr')) (Same.refl _) ?_⟩
      rw [List.getD_eq_getElem?_getD, List.getElem?_eq_getElem hir]
      exact hz2
    have s10 := s9.trans h3
    refine ⟨_, rfl, ll1, fun o2 ho2 => ?_⟩
    have s11 : Same H5 (upd H5 o2 (.lst [V.ref t])) := same_new ho2
    refine ⟨D, o2, zs, _, rfl, rfl, s11 _ _ h1, upd_same, ?_, fun o3 ho3 => ?_⟩
    · have := h2.len
      rw [List.length_map] at this
      unfold oldM at this
      rw [List.length_map] at this
      show _ < sizeLine
      exact small1000 (by rw [this]; omega)
    have s12 := s11.trans (same_new (o := .lst (zs ++ [V.ref t])) ho3)
    have s13 := s10.trans s12
    have hpairs : AtAll (upd (upd H5 o2 (.lst [V.ref t])) o3 (.lst (zs ++ [V.ref t]))) (zs ++ [V.ref t]) ((oldM rs i ++ [(layM M.prime l (oldM rs i) x).2]).map dPair) := by
      rw [List.map_append]
      exact (h2.up s12.tups).app (.cons (hpr.up (h3.trans s12).tups) .nil)
    have s14 : Same H4 (upd (upd H5 o2 (.lst [V.ref t])) o3 (.lst (zs ++ [V.ref t]))) := s8.trans (h3.trans s12)
    have hcx' := s14 _ _ (sb _ _ (sa _ _ (s4 _ _ hcx)))
    have s15 := sa.trans (sb.trans s14)
    refine ⟨_, rfl, p, dx, _, rfl, s13 _ _ hn, rfl, _, rfl, _, rfl, p, dx, _, rfl, s13 _ _ hn, rfl, _, rfl, p, dx, _, rfl, s13 _ _ hn, rfl, _, rfl, _, rfl, _, _, _, rfl, p, M, _, true, cx, _, rfl, rfl, N.up s13, hp, (k1.up s4.tups).up s15.tups, SqK.t (SqT.of hcx'), okl.q.small hp97, by rw [okl.q.1]; omega, fun H6 vq sq hvq => ?_⟩
    obtain ⟨cq, rfl, hcq⟩ := hvq.vecI
    have okq := timesM_ok hp okl.q x
    obtain ⟨okL1, okL2, okL3⟩ := layM_ok hp okl (old := oldM rs i) (fun r hr => (oldM_ok hrs hij r hr).2.1) okx
    have hps : ∀ r ∈ oldM rs i ++ [(layM M.prime l (oldM rs i) x).2], VecOk M.prime W r.1 ∧ VecOk M.prime W r.2 := fun r hr => by
      rcases List.mem_append.mp hr with h | h
      · exact oldM_ok hrs hij r h
      · rw [List.mem_singleton.mp h]; exact ⟨okL2, okL3⟩
    have s16 := s13.trans sq
    refine ⟨_, rfl, _, _, _, rfl, p, M, cq, o3, _, _, _, rfl, rfl, rfl, N.up s16, hp, hcq, sq _ _ upd_same, hpairs.up sq.tups, okq.small hp97, by rw [okq.1]; omega, fun r hr => ⟨(hps r hr).2.small hp97, by rw [(hps r hr).2.1, okq.1]⟩, fun H7 vk sk hvk => ?_⟩
    have s17 := s16.trans sk
    obtain ⟨ck, rfl, hck⟩ := hvk.vecI
    have okk : (lookedM M.prime (timesM M.prime l.q x) (oldM rs i ++ [(layM M.prime l (oldM rs i) x).2])).length = W := by
      rw [lookedM_len _ _ _ fun r hr => by rw [(hps r hr).2.1, okq.1], okq.1]
    have okx1 := plusM_ok hp okx.1 okk
    refine ⟨_, _, _, rfl, p, M, true, true, cx, ck, _, _, rfl, rfl, rfl, N.up s17, hp, SqK.t (SqT.of (sk _ _ (sq _ _ hcx'))), SqK.t (SqT.of hck), by rw [okx.1]; omega, fun H8 vx1 sx hvx1 => ?_⟩
    have s18 := s17.trans sx
    obtain ⟨cy, rfl, hcy⟩ := hvx1.vecI
    have s19 : Same H4 H8 := s14.trans (sq.trans (sk.trans sx))
    have s20 := sa.trans (sb.trans s19)
    refine ⟨_, rfl, p, dx, _, rfl, s18 _ _ hn, rfl, _, rfl, _, rfl, p, dx, _, rfl, s18 _ _ hn, rfl, _, rfl, ?_⟩
    refine ⟨_, rfl, p, dx, _, rfl, s18 _ _ hn, rfl, _, rfl, _, rfl, _, _, _, rfl, p, M, _, true, cy, _, rfl, rfl, N.up s18, hp, (k4.up s4.tups).up s20.tups, SqK.t (SqT.of hcy), okl.f.small hp97, by rw [okl.f.1]; omega, fun H9 vf1 sf hvf1 => ?_⟩
    have s21 := s18.trans sf
    obtain ⟨cf, rfl, hcf⟩ := hvf1.vecI
    have okf := timesM_ok hp okl.f (plusM M.prime x (lookedM M.prime (timesM M.prime l.q x) (oldM rs i ++ [(layM M.prime l (oldM rs i) x).2])))
    refine ⟨cf, rfl, ⟨_, SqT.of hcf⟩, fun D2 hD2 => lcd_tup (ds1 := ((timesM M.prime l.f (plusM M.prime x (lookedM M.prime (timesM M.prime l.q x) (oldM rs i ++ [(layM M.prime l (oldM rs i) x).2])))).map fun n => n * n).map .int) hD2 hcf (atAll_ints _) (by simp) (by rw [List.length_map, List.length_map, okf.1]; omega) (fun j x d H' hd hx s kp => ?_) fun H10 ws g1 g2 g3 => ?_⟩
    · obtain ⟨n, hn', rfl⟩ := map_get hd
      cases hx.intI
      exact ⟨rfl, _, rfl, _, rfl, _, _, rfl, rfl, .inl (okf.small hp97 _ (List.mem_of_getElem? hn')), kp _ _ _ (getMap (getMap hn')) (Same.refl _) (.int _)⟩
    have s22 := s21.trans g3
    cases g2.intsI
    refine ⟨_, _, _, rfl, p, M, _, false, D2, _, rfl, rfl, N.up s22, hp, (k5.up s4.tups).up (s20.trans (sf.trans g3)).tups, SqK.l (SqL.of g1), okl.s.small hp97, by rw [okl.s.1]; omega, fun H11 vs1 ss1 hvs1 => ?_⟩
    have s23 := s22.trans ss1
    obtain ⟨cs, rfl, hcs⟩ := hvs1.vecI
    refine ⟨_, _, _, rfl, p, M, true, true, cy, cs, _, _, rfl, rfl, rfl, N.up s23, hp, SqK.t (SqT.of (ss1 _ _ (g3 _ _ (sf _ _ hcy)))), SqK.t (SqT.of hcs), by rw [okx1.1]; omega, fun H12 vx2 sx2 hvx2 => ?_⟩
    have s24 := s23.trans sx2
    have s25 : Same H4 H12 := s19.trans (sf.trans (g3.trans (ss1.trans sx2)))
    have s26 : Same (upd H4 t (.tup [va, vb])) H12 := (h3.trans s12).trans (sq.trans (sk.trans (sx.trans (sf.trans (g3.trans (ss1.trans sx2))))))
    have hyo := s25 _ _ (sb _ _ (sa _ _ (s4 _ _ hy)))
    have hol' : ys.length ≤ 3 := by
      have := hys.len
      rw [List.length_map] at this
      have := ok.few
      omega
    refine ⟨_, rfl, ty_l hyo, _, rfl, o, ys, _, rfl, rfl, hyo, small1000 (by omega), ?_⟩
    have tu : Tups H12 (upd H12 o (.lst (ys ++ [V.ref t]))) := tups_upd hyo rfl
    refine ⟨_, _, _, _, _, _, _, _, _, _, _, _, _, rfl, fun z u hz => ?_, _, own ++ [(layM M.prime l (oldM rs i) x).2], _, hvx2.up tu, (layM_ok hp okl (old := oldM rs i) (fun r hr => (oldM_ok hrs hij r hr).2.1) okx).1, upd_same, ?_, by rw [List.length_append, hol]; rfl, ?_⟩
    · rw [upd_ne (ne_of_none hz ho0)]
      exact s24 _ _ hz
    · rw [List.map_append]
      exact (((hys.up (s4.trans (sa.trans (sb.trans s25))).tups).snoc (hpr.up s26.tups))).up tu
    · rw [← eq, laysM_step el]
      rfl
  · obtain ⟨vx, v5, v6, v7, v8, v9, v10, v11, v12, v13, v14, v15, v16, rfl, s, x, own, ys, hx, okx, hy, hys, hol, eq⟩ := I
    obtain ⟨cx, rfl, hcx⟩ := hx.vecI
    have hdr : M.layers.drop xl.length = [] := by
      rw [rl.len, List.length_map]
      exact List.drop_of_length_le (Nat.le_refl _)
    rw [hdr] at eq
    have eqx : x = (laysM M.prime rs 0 M.layers (x0M M rs.length li) []).1 := congrArg Prod.fst eq
    have eqo : own = (laysM M.prime rs 0 M.layers (x0M M rs.length li) []).2 := congrArg Prod.snd eq
    refine ⟨_, rfl, p, _, dx, _, _, rfl, s _ _ hn, T.cl_Net, T.n_Net_out, rfl, c4, rfl, ⟨_, SqT.of (s _ _ hc4)⟩, fun D hD => lcd_tup (ds1 := (outM M x).map .int) hD (s _ _ hc4) (ro.up s.tups) (by simp [outM]) (by rw [List.length_map, (outM_ok ok _).1]; omega) (fun j z d H' hd hz s1 kp => ?_) fun H10 ws g1 g2 g3 => ?_⟩
    · obtain ⟨v, hv, rfl⟩ := map_get hd
      obtain ⟨cv, rfl, hcv⟩ := hz.vecI
      have okv := ok.out.2 v (List.mem_of_getElem? hv)
      have s2 := s.trans s1
      refine ⟨rfl, _, rfl, p, dx, _, rfl, s2 _ _ hn, rfl, _, rfl, _, rfl, _, _, rfl, true, true, cv, cx, v, x, rfl, rfl, SqK.t (SqT.of hcv), SqK.t (SqT.of (s1 _ _ hcx)), okv.small hp97, fun H2 s3 => ?_⟩
      refine ⟨_, _, rfl, p, M, _, rfl, rfl, (N.up s2).up s3, hp, _, _, rfl, rfl, kp _ _ _ (getMap (i := j) ?_) s3 (.int _)⟩
      unfold outM
      exact getMap hv
    have s2 := s.trans g3
    have hws := atAll_ints (H := H10) (outM M x)
    refine ⟨_, rfl, o, ys, rfl, .inl ⟨SqL.of (g3 _ _ hy), fun e1 he1 => ⟨_, rfl, D, ws, rfl, .inl ⟨SqL.of ((same_new he1) _ _ g1), fun e2 he2 => ⟨ll2, fun e3 he3 => ?_⟩⟩⟩⟩⟩
    have t1 : Same H10 _ := same_new (o := .tup ys) he1
    have t2 : Same _ _ := same_new (o := .tup ws) he2
    have t3 : Same _ _ := same_new (o := .tup [V.ref e1, V.ref e2]) he3
    refine q _ _ (s2.trans (t1.trans (t2.trans t3))) (at_tup upd_same (.cons (At.up (at_tup (t2 _ _ upd_same) ?_) t3.tups) (.cons (At.up (at_tup upd_same ?_) t3.tups) .nil)))
    · show AtAll _ ys (List.map dPair (laysM M.prime rs 0 M.layers (x0M M rs.length li) []).2)
      rw [← eqo]
      exact (hys.up g3.tups).up (t1.trans t2).tups
    · show AtAll _ ws (List.map PyData.int (outM M (laysM M.prime rs 0 M.layers (x0M M rs.length li) []).1))
      rw [← eqx]
      exact g2.up (t1.trans t2).tups
end
end Sv
end
section
set_option Elab.async false
set_option linter.all false
set_option maxRecDepth 100000
set_option maxHeartbeats 4000000
/-! Frames; the walk: Net.__init__, greatest, by_number. -/
namespace Sv
open PySem PySem.Spec PyProof.Rows L2
/-- all that stood stands, save at S; tuples stand -/
structure Fr (S : List Addr) (H H' : Hp) : Prop where
  t : Tups H H'
  k : ∀ a o, a ∉ S → H a = some o → H' a = some o
theorem Fr.refl (S : List Addr) (H : Hp) : Fr S H H := ⟨Tups.refl H, fun _ _ _ h => h⟩
theorem Fr.trans {S : List Addr} {H H1 H2 : Hp} (a : Fr S H H1) (b : Fr S H1 H2) : Fr S H H2 := ⟨a.t.trans b.t, fun c o n h => b.k c o n (a.k c o n h)⟩
theorem Fr.same {S : List Addr} {H H1 : Hp} (a : Same H H1) : Fr S H H1 := ⟨a.tups, fun c o _ h => a c o h⟩
theorem Fr.sub {S S' : List Addr} {H H1 : Hp} (a : Fr S H H1) (h : ∀ x ∈ S, x ∈ S') : Fr S' H H1 := ⟨a.t, fun c o n e => a.k c o (fun z => n (h c z)) e⟩
theorem Fr.upd {S : List Addr} {H : Hp} {p : Addr} {o u : HO} (h : H p = some u) (hu : frozen u = false) (hp : p ∈ S) : Fr S H (L2.upd H p o) :=
  ⟨tups_upd h hu, fun c z n e => by rw [upd_ne (fun q => n (by rw [q]; exact hp))]; exact e⟩
theorem Fr.ins {S : List Addr} {H : Hp} {p C dx : Addr} {fs : List (Str × V)} {o : HO} (h : H p = some (.ins C dx fs)) (hp : p ∈ S) (hu : frozen (.ins C dx fs) = false := by rfl) : Fr S H (L2.upd H p o) := .upd h hu hp
theorem Fr.lst {S : List Addr} {H : Hp} {p : Addr} {xs : List V} {o : HO} (h : H p = some (.lst xs)) (hp : p ∈ S) : Fr S H (L2.upd H p o) := .upd h rfl hp
theorem Fr.fresh {S : List Addr} {H H1 : Hp} (a : Fr S H H1) {p : Addr} (h : H1 p = none) (hp : ∀ x ∈ S, H1 x ≠ none) : H p = none := by
  cases e : H p with
  | none => rfl
  | some z =>
    by_cases m : p ∈ S
    · exact (hp p m h).elim
    · rw [a.k _ _ m e] at h; cases h
theorem gen_ins (S : List Addr) {H H1 : Hp} {p C dx : Addr} {fs : List (Str × V)} {o : HO} (h : H p = some (.ins C dx fs)) (hG : L2.upd H p o = H1) (hp : p ∈ S) (hu : frozen (.ins C dx fs) = false := by rfl) : Fr S H H1 ∧ H1 p = some o := by
  subst hG; exact ⟨Fr.ins h hp hu, upd_same⟩
theorem gen_lst (S : List Addr) {H H1 : Hp} {p : Addr} {xs : List V} {o : HO} (h : H p = some (.lst xs)) (hG : L2.upd H p o = H1) (hp : p ∈ S) : Fr S H H1 ∧ H1 p = some o := by
  subst hG; exact ⟨Fr.lst h hp, upd_same⟩
theorem gen_new {H H1 : Hp} {p : Addr} {o : HO} (h : H p = none) (hG : L2.upd H p o = H1) : Same H H1 ∧ H1 p = some o := by
  subst hG; exact ⟨same_new h, upd_same⟩
def p_Net_init (K : PySem.W.Frag) : P7 := fun a b c d e f g H Q => ∃ (p dx : Addr) (M : NetM) (L w : Nat), a = .ref p ∧ H p = some (.ins (He.ga K "Net") dx []) ∧ b = .int M.prime ∧ NetOk M L w ∧ inV (.int M.prime) primesV = true ∧
  At H c (dMat M.embed) ∧ At H d (dVec M.shift) ∧ At H e (.tuple (M.layers.map dLay)) ∧ At H f (dMat M.out) ∧ At H g (dOpt M.fin) ∧ ∀ H', Fr [p] H H' → NetAt K H' p M → Q .non H'
theorem lay5 {p : Int} {w : Nat} {l : Lay} (ok : LayOk p w l) {i : Nat} {d : PyData} (h : ([dMat l.q, dMat l.k, dMat l.v, dMat l.f, dMat l.s] : List PyData)[i]? = some d) : ∃ m, d = dMat m ∧ m.length = w := by
  match i, h with
  | 0, h => exact ⟨l.q, (Option.some.inj h).symm, ok.q.1⟩
  | 1, h => exact ⟨l.k, (Option.some.inj h).symm, ok.k.1⟩
  | 2, h => exact ⟨l.v, (Option.some.inj h).symm, ok.v.1⟩
  | 3, h => exact ⟨l.f, (Option.some.inj h).symm, ok.f.1⟩
  | 4, h => exact ⟨l.s, (Option.some.inj h).symm, ok.s.1⟩
  | n + 5, h => simp at h
section
variable {P : Program} {w : World} {K : PySem.W.Frag} {mg : Str → Option Value} {base : Heap}
abbrev N_Net_init : List Str := ["self", "prime", "embed", "shift", "layers", "out", "end", "layer", "matrix"]
theorem sc_Net_init : FnScope N_Net_init ["self", "prime", "embed", "shift", "layers", "out", "end"] (defScope s_Net_init) := ⟨rfl, rfl, rfl, by decide +kernel, rfl, by decide +kernel, by decide +kernel⟩
theorem ok_Net_init (T : Txt K mg) : CFn P w K mg base 3 "Net" (He.ga K "Net") ["self", "prime", "embed", "shift", "layers", "out", "end"] (Sp7 (p_Net_init K)) := by
  refine cfn T.d_Net_init T.mk_Net T.g_Net sc_Net_init (fun _ _ _ _ _ _ us hl => match us, hl with | [_, _, _, _, _, _, _], _ => rfl) len7 fun cdv A outer s H vs Q E hr h => ?_
  obtain ⟨a0, a1, a2, a3, a4, a5, a6, rfl, p, dx, M, L, W, rfl, hp, rfl, ok, hpr, he, hs, hl, ho, hf, q⟩ := h
  refine ⟨_, pss_cons (ps_if (PW.pt (pw_or (pt_not (pt_val (pe_g (ok_is_between T) (hr.mono (by decide)) (pa_cons (pv 1) (pa_cons (pe_int) (pa_cons (pe_int) pa_nil)))))) (pw_or1 (pt_cmpR op_notIn_seq (pv 1) (pe_glob (v := .ref (He.ga K "PRIMES")) (by rfl) T.g_PRIMES rfl) (by rfl))))) (pss_one (ps_never)) (pss_nil))
      (pss_cons (ps_fld (pv 0) (pv 1) rfl)
      (pss_cons (ps_fld (pv 0) (pe_g (ok_matrix_of T) (hr.mono (by decide)) (pa_cons (pv 2) pa_nil)) rfl)
      (pss_cons (ps_fld (pv 0) (pe_g (ok_vector_of T) (hr.mono (by decide)) (pa_cons (pv 3) pa_nil)) rfl)
      (pss_cons (ps_fld (pv 0) (pe_callTy call_tuple_of (by rfl) T.b_tuple (by decide +kernel) (pa_cons (pe_lc (own := [("layer", 7)]) rfl sc_Net_init.nd (pi_tup (pv 4)) (blkOk_by (N := N_Net_init) (sc := defScope s_Net_init) (by decide +kernel)) (fun _ _ _ _ _ => pg_name (i := 7) sc_Net_init.nd rfl (Or.inl rfl) (hf := Or.inr rfl)) (fun _ _ _ _ _ => pts_nil) (fun _ _ _ _ _ => pe_callTy (call_tuple_ofK (K0 := K)) (by rfl) T.b_tuple (by decide +kernel) (pa_cons (pe_lc (own := [("matrix", 8)]) rfl sc_Net_init.nd (pi_tupK (K0 := K) (pv 7)) (blkOk_by (N := N_Net_init) (sc := _) (by rfl)) (fun _ _ _ _ _ => pg_name (i := 8) sc_Net_init.nd rfl (Or.inl rfl) (hf := Or.inr rfl)) (fun _ _ _ _ _ => pts_nil) (fun _ _ _ _ _ => pe_g (ok_matrix_of T) (hr.mono (by decide)) (pa_cons (pv 8) pa_nil))) pa_nil))) pa_nil)) rfl)
      (pss_cons (ps_fld (pv 0) (pe_g (ok_matrix_of T) (hr.mono (by decide)) (pa_cons (pv 5) pa_nil)) rfl)
      (pss_one (ps_fld (pv 0) (pv 6) rfl))))))), ?_⟩
  have p0 := ok.p0
  have p1 := ok.p1
  have hw4 := ok.w1
  have hL12 := ok.l1
  have hdec : decide (2 ≤ M.prime ∧ M.prime ≤ 97) = true := by simp; omega
  refine ⟨_, rfl, _, _, _, rfl, _, _, _, rfl, rfl, rfl, ?_⟩
  rw [hdec]
  refine ⟨true, rfl, _, rfl, _, _, rfl, .inr (T.primes H), rfl, rfl, ?_⟩
  rw [hpr]
  refine ⟨_, rfl, _, rfl, _, rfl, p, _, dx, _, rfl, hp, T.cl_Net, T.n_Net_prime, by show 0 < 1000; omega, ?_⟩
  generalize hG : upd H p _ = H1
  obtain ⟨f1, e1⟩ := gen_ins [p] hp hG (.head _)
  refine ⟨_, rfl, _, rfl, M.embed, he.up f1.t, by rw [ok.embed.1]; omega, fun H2 v2 s2 hm2 => ⟨_, rfl, p, _, dx, _, rfl, s2 _ _ e1, T.cl_Net, T.n_Net_embed, by show 1 < 1000; omega, ?_⟩⟩
  generalize hG : upd H2 p _ = H3
  obtain ⟨f3, e3⟩ := gen_ins [p] (s2 _ _ e1) hG (.head _)
  have a3 := f1.trans ((Fr.same s2).trans f3)
  obtain ⟨cs, rfl, hcs⟩ := (hs.up a3.t).vecI
  refine ⟨_, rfl, _, rfl, cs, _, rfl, hcs, ⟨_, rfl, p, _, dx, _, rfl, e3, T.cl_Net, T.n_Net_shift, by show 2 < 1000; omega, ?_⟩⟩
  generalize hG : upd H3 p _ = H4
  obtain ⟨f4, e4⟩ := gen_ins [p] e3 hG (.head _)
  have a4 := a3.trans f4
  obtain ⟨cl, xl, rfl, hcl, rl⟩ := (hl.up a4.t).tupI
  refine ⟨_, rfl, cl, rfl, ⟨_, SqT.of hcl⟩, fun D hD => lcd_tup (ds1 := M.layers.map dLay) hD hcl rl (by simp) (by rw [List.length_map]; have := ok.few; omega) (fun i x d H' hd hx s kp => ?_) fun H5 ys h1 h2 h3 => ?_⟩
  · obtain ⟨l, el, rfl⟩ := map_get hd
    have okl := ok.layers l (List.mem_of_getElem? el)
    obtain ⟨c, zs, rfl, hc, rz⟩ := hx.tupI
    refine ⟨rfl, _, rfl, c, rfl, ⟨_, SqT.of hc⟩, fun D hD => lcd_tup (ds1 := [dMat l.q, dMat l.k, dMat l.v, dMat l.f, dMat l.s]) hD hc rz rfl (by show 5 ≤ 1000; omega) (fun i x d H' hd hx s kp => ?_) fun H5 ys h1 h2 h3 => ?_⟩
    · obtain ⟨m, rfl, hm⟩ := lay5 okl hd
      exact ⟨rfl, _, rfl, _, rfl, m, hx, by omega, fun H2 v s2 h => kp _ _ _ hd s2 h⟩
    · exact ⟨_, ys, rfl, .inl ⟨SqL.of h1, fun e he => kp _ _ _ hd (h3.trans (same_new he)) (tl_at h2 he)⟩⟩
  refine ⟨_, ys, rfl, .inl ⟨SqL.of h1, fun e he => ⟨_, rfl, p, _, dx, _, rfl, same_new he _ _ (h3 _ _ e4), T.cl_Net, T.n_Net_layers, by show 3 < 1000; omega, ?_⟩⟩⟩
  have hve := tl_at h2 he
  generalize hG : upd H5 e _ = H6 at *
  obtain ⟨s6, e6⟩ := gen_new he hG
  generalize hG : upd H6 p _ = H7
  obtain ⟨f7, e7⟩ := gen_ins [p] (s6 _ _ (h3 _ _ e4)) hG (.head _)
  have a6 := a4.trans (Fr.same (h3.trans s6))
  have a7 := a6.trans f7
  refine ⟨_, rfl, _, rfl, M.out, ho.up a7.t, by rw [ok.out.1]; omega, fun H8 v8 s8 h8 => ⟨_, rfl, p, _, dx, _, rfl, s8 _ _ e7, T.cl_Net, T.n_Net_out, by show 4 < 1000; omega, ?_⟩⟩
  generalize hG : upd H8 p _ = H9
  obtain ⟨f9, e9⟩ := gen_ins [p] (s8 _ _ e7) hG (.head _)
  have a9 := a7.trans ((Fr.same s8).trans f9)
  refine ⟨_, rfl, _, rfl, p, _, dx, _, rfl, e9, T.cl_Net, T.n_Net_end, by show 5 < 1000; omega, ?_⟩
  generalize hG : upd H9 p _ = H10
  obtain ⟨f10, e10⟩ := gen_ins [p] e9 hG (.head _)
  have a10 := a9.trans f10
  have b7 := (Fr.same (S := [p]) s8).trans (f9.trans f10)
  have b4 := (Fr.same (S := [p]) h3).trans ((Fr.same (S := [p]) s6).trans (f7.trans b7))
  have b2 := f3.trans (f4.trans b4)
  refine q _ a10 ⟨dx, _, _, _, _, _, e10, hm2.up b2.t, (hs.up a10.t), ?_, h8.up (f9.trans f10).t, hf.up a10.t⟩
  exact hve.up (f7.trans b7).t
end
end Sv
end
section
set_option autoImplicit false
/-! Asks in plain Lean: the rule, the choice, the next text. -/
namespace Sv
structure RuleM where
  start : Int
  steps : List (List (Option Int))
structure AskM where
  prompt : List Int
  most : Int
  stops : List (List Int)
  tape : List Int
  rule : Option RuleM
def stepM (r : RuleM) (s : Option Int) (l : Int) : Option Int := match s with
  | none => none
  | some i => (r.steps.getD i.toNat []).getD l.toNat none
def afterM (r : RuleM) (t : List Int) : Option Int := t.foldl (stepM r) (some r.start)
def letsM (r : RuleM) (t : List Int) (l : Int) : Bool := (afterM r (t ++ [l])).isSome
def letM (rule : Option RuleM) (ws t : List Int) : List Int := match rule with
  | none => ws
  | some r => ws.mapIdx fun i w => w * (if letsM r t (i : Int) then 1 else 0)
/-- the first of the greatest among the first i -/
def greatM (ws : List Int) : Nat → Nat
  | 0 => 0
  | i + 1 => if ws.getD (greatM ws i) 0 < ws.getD i 0 then i else greatM ws i
def byM : List Int → Int → Nat → Nat
  | [], _, k => k
  | w :: r, left, k => if w ≤ left then byM r (left - w) (k + 1) else k
def choiceM (a : AskM) (ws t : List Int) : Option Int :=
  let lw := letM a.rule ws t
  if lw.sum = 0 then none
  else if a.tape = [] then some (greatM lw lw.length : Nat)
  else some (byM lw (a.tape.getD (t.length % a.tape.length) 0 % lw.sum) 0 : Nat)
/-- the length of the longest stop behind t -/
def stopM (stops : List (List Int)) (t : List Int) : Nat := stops.foldl (fun m s => if m < s.length ∧ s.length ≤ t.length ∧ t.drop (t.length - s.length) = s then s.length else m) 0
inductive Wd where
  | stuck
  | fin
  | stop
  | most
  deriving DecidableEq
def nextM (fin : Option Int) (a : AskM) (t ws : List Int) : List Int × Option Wd := match choiceM a ws t with
  | none => (t, some .stuck)
  | some l => if some l = fin then (t, some .fin) else
    let t2 := t ++ [l]
    if 0 < stopM a.stops t2 then (t2.take (t2.length - stopM a.stops t2), some .stop)
    else (t2, if (t2.length : Int) = a.most then some .most else none)
structure RuleOk (r : RuleM) (L : Nat) : Prop where
  n : r.steps.length ≤ 10
  s0 : 0 ≤ r.start
  s1 : r.start < r.steps.length
  w : ∀ x ∈ r.steps, x.length = L
  st : ∀ x ∈ r.steps, ∀ y ∈ x, ∀ i : Int, y = some i → 0 ≤ i ∧ i < r.steps.length
structure AskOk (a : AskM) (L : Nat) : Prop where
  p0 : 0 < a.prompt.length
  p1 : a.prompt.length ≤ 10
  pl : ∀ x ∈ a.prompt, 0 ≤ x ∧ x < L
  m0 : 1 ≤ a.most
  m1 : a.most ≤ 8
  sn : a.stops.length ≤ 4
  s0 : ∀ x ∈ a.stops, 0 < x.length ∧ x.length ≤ 4
  sl : ∀ x ∈ a.stops, ∀ y ∈ x, 0 ≤ y ∧ y < L
  tn : a.tape.length ≤ 3
  t0 : ∀ x ∈ a.tape, 0 ≤ x
  rule : ∀ r, a.rule = some r → RuleOk r L
theorem stepM_in {r : RuleM} {L : Nat} (ok : RuleOk r L) {l : Int} {s i : Int} (h : stepM r (some s) l = some i) : 0 ≤ i ∧ i < r.steps.length := by
  unfold stepM at h
  simp only [List.getD_eq_getElem?_getD] at h
  cases e : r.steps[s.toNat]? with
  | none => rw [e] at h; simp at h
  | some row =>
    rw [e] at h
    simp only [Option.getD_some] at h
    cases e2 : row[l.toNat]? with
    | none => rw [e2] at h; simp at h
    | some x =>
      rw [e2] at h
      exact ok.st row (List.mem_of_getElem? e) x (List.mem_of_getElem? e2) i h
theorem afterM_snoc (r : RuleM) (t : List Int) (l : Int) : afterM r (t ++ [l]) = stepM r (afterM r t) l := by
  unfold afterM; rw [List.foldl_append]; rfl
theorem afterM_in {r : RuleM} {L : Nat} (ok : RuleOk r L) : ∀ t i, afterM r t = some i → 0 ≤ i ∧ i < r.steps.length := by
  refine snocInd (fun i h => ?_) fun t l ih i h => ?_
  · cases h; exact ⟨ok.s0, ok.s1⟩
  · rw [afterM_snoc] at h
    cases e : afterM r t with
    | none => rw [e] at h; cases h
    | some s => rw [e] at h; exact stepM_in ok h
theorem stepM_none (r : RuleM) (t : List Int) : t.foldl (stepM r) none = none := by
  induction t with
  | nil => rfl
  | cons x t ih => exact ih
theorem letM_len (r : Option RuleM) (ws t : List Int) : (letM r ws t).length = ws.length := by
  cases r with
  | none => rfl
  | some r => exact List.length_mapIdx ..
theorem letM_pos {r : Option RuleM} {ws t : List Int} {p : Int} (h : ∀ x ∈ ws, 1 ≤ x ∧ x ≤ p) (hp : 0 ≤ p) : ∀ x ∈ letM r ws t, 0 ≤ x ∧ x ≤ p := by
  cases r with
  | none => intro x hx; have := h x hx; omega
  | some r =>
    intro x hx
    obtain ⟨i, hi, rfl⟩ := List.mem_mapIdx.mp hx
    have := h _ (List.getElem_mem hi)
    split <;> omega
theorem sum_nonneg : ∀ {l : List Int}, (∀ x ∈ l, 0 ≤ x) → 0 ≤ l.sum
  | [], _ => by simp
  | x :: r, h => by
    rw [List.sum_cons]
    have := h x List.mem_cons_self
    have := sum_nonneg (l := r) fun y hy => h y (List.mem_cons_of_mem _ hy)
    omega
theorem greatM_lt {ws : List Int} (h : 0 < ws.length) : ∀ i, i ≤ ws.length → greatM ws i < ws.length
  | 0, _ => h
  | i + 1, hi => by
    unfold greatM
    split
    · omega
    · exact greatM_lt h i (by omega)
theorem byM_lt : ∀ (ws : List Int) (left : Int) (k : Nat), 0 ≤ left → left < ws.sum → byM ws left k < k + ws.length
  | [], left, k, h0, h1 => by simp at h1; omega
  | w :: r, left, k, h0, h1 => by
    unfold byM
    rw [List.sum_cons] at h1
    rw [List.length_cons]
    split
    · have := byM_lt r (left - w) (k + 1) (by omega) (by omega)
      omega
    · omega
theorem choiceM_in {a : AskM} {ws t : List Int} {L : Nat} {p : Int} (hl : ws.length = L) (h : ∀ x ∈ ws, 1 ≤ x ∧ x ≤ p) {c : Int} (e : choiceM a ws t = some c) : 0 ≤ c ∧ c < L := by
  have hp : 0 ≤ p := by
    cases ws with
    | nil => unfold choiceM at e; simp [letM] at e; cases hr : a.rule <;> rw [hr] at e <;> simp at e
    | cons x r => have := h x List.mem_cons_self; omega
  have hpos := letM_pos (r := a.rule) (t := t) h hp
  have hln := letM_len a.rule ws t
  unfold choiceM at e
  simp only [] at e
  split at e
  · cases e
  rename_i hs
  have hs0 := sum_nonneg fun x hx => (hpos x hx).1
  have hne : 0 < (letM a.rule ws t).length := by
    cases h2 : letM a.rule ws t with
    | nil => rw [h2] at hs; simp at hs
    | cons x r => simp
  split at e
  · cases e
    have := greatM_lt hne _ (Nat.le_refl _)
    omega
  · cases e
    have := byM_lt (letM a.rule ws t) (a.tape.getD (t.length % a.tape.length) 0 % (letM a.rule ws t).sum) 0 (Int.emod_nonneg _ hs) (Int.emod_lt_of_pos _ (by omega))
    omega
theorem stopM_snoc (stops : List (List Int)) (s t : List Int) : stopM (stops ++ [s]) t = if stopM stops t < s.length ∧ s.length ≤ t.length ∧ t.drop (t.length - s.length) = s then s.length else stopM stops t := by
  unfold stopM; rw [List.foldl_append]; rfl
theorem stopM_le (stops : List (List Int)) (t : List Int) : stopM stops t ≤ t.length := by
  refine snocInd (p := fun s => stopM s t ≤ t.length) (Nat.zero_le _) (fun a l ih => ?_) stops
  rw [stopM_snoc]
  split
  · rename_i h; exact h.2.1
  · exact ih
end Sv
end
section
set_option Elab.async false
set_option linter.all false
set_option maxRecDepth 100000
set_option maxHeartbeats 4000000
/-! The walk: greatest, by_number, Rule.*, Ask.*. -/
namespace Sv
open PySem PySem.Spec PyProof.Rows L2
def dOpts (r : List (Option Int)) : PyData := .tuple (r.map dOpt)
def dSteps (m : List (List (Option Int))) : PyData := .tuple (m.map dOpts)
def dStops (m : List (List Int)) : PyData := dMat m
structure RuleAt (K : PySem.W.Frag) (H : Hp) (p : Addr) (r : RuleM) : Prop where
  ex : ∃ dx v, H p = some (.ins (He.ga K "Rule") dx [("start", .int r.start), ("steps", v)]) ∧ At H v (dSteps r.steps)
theorem RuleAt.keep {K : PySem.W.Frag} {H H' : Hp} {p : Addr} {r : RuleM} (n : RuleAt K H p r) (t : Tups H H') : RuleAt K H' p r := by
  obtain ⟨dx, v, h, h1⟩ := n.ex
  exact ⟨dx, v, t _ _ rfl h, h1.up t⟩
def RuleV (K : PySem.W.Frag) (H : Hp) (v : V) : Option RuleM → Prop
  | none => v = .non
  | some r => ∃ p, v = .ref p ∧ RuleAt K H p r
theorem RuleV.keep {K : PySem.W.Frag} {H H' : Hp} {v : V} {r : Option RuleM} (n : RuleV K H v r) (t : Tups H H') : RuleV K H' v r := by
  cases r with
  | none => exact n
  | some r => obtain ⟨p, e, h⟩ := n; exact ⟨p, e, h.keep t⟩
structure AskAt (K : PySem.W.Frag) (H : Hp) (p : Addr) (a : AskM) : Prop where
  ex : ∃ dx v1 v2 v3 v4, H p = some (.ins (He.ga K "Ask") dx [("prompt", v1), ("most", .int a.most), ("stops", v2), ("tape", v3), ("rule", v4)]) ∧ At H v1 (dVec a.prompt) ∧ At H v2 (dMat a.stops) ∧ At H v3 (dVec a.tape) ∧ RuleV K H v4 a.rule
theorem AskAt.keep {K : PySem.W.Frag} {H H' : Hp} {p : Addr} {a : AskM} (n : AskAt K H p a) (t : Tups H H') : AskAt K H' p a := by
  obtain ⟨dx, v1, v2, v3, v4, h, h1, h2, h3, h4⟩ := n.ex
  exact ⟨dx, v1, v2, v3, v4, t _ _ rfl h, h1.up t, h2.up t, h3.up t, h4.keep t⟩
/-! ### promises -/
def p_greatest : P1 := fun a H Q => ∃ (p : Addr) (ws : List Int), a = .ref p ∧ H p = some (.tup (ws.map V.int)) ∧ 0 < ws.length ∧ ∀ H', Same H H' → Q (.int (greatM ws ws.length : Nat)) H'
def p_by_number : P2 := fun a b H Q => ∃ (p : Addr) (ws : List Int) (n : Int), a = .ref p ∧ b = .int n ∧ H p = some (.tup (ws.map V.int)) ∧ (∀ x ∈ ws, 0 ≤ x) ∧ 0 < ws.sum ∧ Q (.int (byM ws (n % ws.sum) 0 : Nat)) H
def p_Rule_init (K : PySem.W.Frag) : P3 := fun a b c H Q => ∃ (p dx : Addr) (r : RuleM), a = .ref p ∧ H p = some (.ins (He.ga K "Rule") dx []) ∧ b = .int r.start ∧ At H c (dSteps r.steps) ∧ r.steps.length ≤ 1000 ∧ ∀ H', Fr [p] H H' → RuleAt K H' p r → Q .non H'
def p_Rule_after (K : PySem.W.Frag) : P2 := fun a b H Q => ∃ (p q : Addr) (r : RuleM) (L : Nat) (t : List Int), a = .ref p ∧ b = .ref q ∧ RuleAt K H p r ∧ RuleOk r L ∧ H q = some (.tup (t.map V.int)) ∧ (∀ x ∈ t, 0 ≤ x ∧ x < L) ∧
  ∀ v, At H v (dOpt (afterM r t)) → Q v H
def p_Rule_lets (K : PySem.W.Frag) : P3 := fun a b c H Q => ∃ (p q : Addr) (r : RuleM) (L : Nat) (t : List Int) (l : Int), a = .ref p ∧ b = .ref q ∧ c = .int l ∧ RuleAt K H p r ∧ RuleOk r L ∧ H q = some (.tup (t.map V.int)) ∧ (∀ x ∈ t, 0 ≤ x ∧ x < L) ∧ t.length ≤ 500 ∧ 0 ≤ l ∧ l < L ∧
  ∀ H', Same H H' → Q (.bl (letsM r t l)) H'
theorem dOpt_cases {H : Hp} {v : V} {o : Option Int} (h : At H v (dOpt o)) : (o = none ∧ v = .non) ∨ ∃ i, o = some i ∧ v = .int i := by
  cases o with
  | none => exact .inl ⟨rfl, h.nonI⟩
  | some i => exact .inr ⟨i, rfl, h.intI⟩
section
variable {P : Program} {w : World} {K : PySem.W.Frag} {mg : Str → Option Value} {base : Heap}
abbrev N_greatest : List Str := ["weights", "best", "letter", "weight"]
theorem sc_greatest : FnScope N_greatest ["weights"] (defScope s_greatest) := ⟨rfl, rfl, rfl, by decide +kernel, rfl, by decide +kernel, by decide +kernel⟩
theorem ok_greatest (T : Txt K mg) : GFn P w K mg base 1 "greatest" ["weights"] (Sp1 p_greatest) := by
  refine gfn T.d_greatest T.g_greatest sc_greatest (fun _ _ _ _ _ _ us hl => match us, hl with | [_], _ => rfl) len1 fun cdv A outer s H vs Q E hr h => ?_
  obtain ⟨a0, rfl, p, ws, rfl, hp, h0, q⟩ := h
  refine ⟨_, pss_cons (ps_set (i := 1) sc_greatest.nd rfl (Or.inl rfl) (pe_int))
      (pss_cons (ps_for PassesOwn.never rfl (pi_enum2 true (by rfl) T.b_enumerate (pa_cons (pv 0) pa_nil)) (pg_tup rfl (pgs_cons (pg_name (i := 2) sc_greatest.nd rfl (Or.inl rfl)) (pgs_cons (pg_name (i := 3) sc_greatest.nd rfl (Or.inl rfl)) pgs_nil)))
      (pss_one (ps_if (pt_cmpR op_gt (pv 3) (pe_ix ix_tup (pv 0) (pv 1) (fun _ _ => rfl)) (nomark _)) (pss_one (ps_set (i := 1) sc_greatest.nd rfl (Or.inl rfl) (pv 2))) (pss_nil))))
      (pss_one (ps_ret (pv 1)))), ?_⟩
  refine ⟨_, rfl, p, ws.map V.int, rfl, SqK.t (SqT.of hp), for_it (walk_enum2 (K := K) (k := true) (xs := ws.map V.int)) (fun i σ H' => ∃ v2 v3, σ = [some (.ref p), some (.int (greatM ws i : Nat)), v2, v3] ∧ Same H H')
    ⟨none, none, rfl, Same.refl H⟩ (fun i σ H' _ I => ?_) (fun i x σ H' H2 hi I y => ?_) fun σ H' I => ?_⟩
  · obtain ⟨_, _, _, s⟩ := I
    exact SqK.t (SqT.of (s _ _ hp))
  · obtain ⟨v2, v3, rfl, s⟩ := I
    obtain ⟨T0, x0, y0, rfl, hT, rfl, e1, e2⟩ := y
    cases e1
    obtain ⟨n, en, rfl⟩ := map_get e2
    have s2 := s.trans (same_new (o := .tup [V.int i, V.int n]) hT)
    have hgl := greatM_lt h0 i (by rw [List.length_map] at hi; omega)
    refine ⟨T0, _, rfl, SqT.of upd_same, rfl, _, _, rfl, _, _, rfl, rfl, ⟨_, rfl, _, rfl, _, rfl, p, _, _, _, rfl, rfl, SqT.of (s2 _ _ hp), atI_nat (getMap (List.getElem?_eq_getElem hgl)), ?_⟩⟩
    have ew : ws.getD i 0 = n := by rw [List.getD_eq_getElem?_getD, en]; rfl
    have eg : ws.getD (greatM ws i) 0 = ws[greatM ws i] := by rw [List.getD_eq_getElem?_getD, List.getElem?_eq_getElem hgl]; rfl
    refine ⟨_, _, rfl, rfl, _, rfl, ?_⟩
    by_cases hlt : n > ws[greatM ws i]
    · rw [decide_eq_true hlt]
      refine ⟨_, rfl, some (.int i), some (.int n), ?_, s2⟩
      rw [greatM, if_pos (by rw [ew, eg]; exact hlt)]
      rfl
    · rw [decide_eq_false hlt]
      refine ⟨some (.int i), some (.int n), ?_, s2⟩
      rw [greatM, if_neg (by rw [ew, eg]; exact hlt)]
      rfl
  · obtain ⟨v2, v3, rfl, s⟩ := I
    refine ⟨_, rfl, ?_⟩
    rw [List.length_map]
    exact q _ s
abbrev N_by_number : List Str := ["weights", "number", "left", "letter"]
theorem sc_by_number : FnScope N_by_number ["weights", "number"] (defScope s_by_number) := ⟨rfl, rfl, rfl, by decide +kernel, rfl, by decide +kernel, by decide +kernel⟩
theorem ok_by_number (T : Txt K mg) : GFn P w K mg base 1 "by_number" ["weights", "number"] (Sp2 p_by_number) := by
  refine gfn T.d_by_number T.g_by_number sc_by_number (fun _ _ _ _ _ _ us hl => match us, hl with | [_, _], _ => rfl) len2 fun cdv A outer s H vs Q E hr h => ?_
  obtain ⟨a0, a1, rfl, p, ws, n, rfl, rfl, hp, hpos, hs0, q⟩ := h
  refine ⟨_, pss_cons (ps_set (i := 2) sc_by_number.nd rfl (Or.inl rfl) (pe_op op_mod (pe_callTy call_int1 (by rfl) T.b_int (by decide +kernel) (pa_cons (pv 1) pa_nil)) (pe_callB (cr_sumT rfl) (by rfl) T.b_sum (by decide +kernel) (pa_cons (pv 0) pa_nil))))
      (pss_cons (ps_set (i := 3) sc_by_number.nd rfl (Or.inl rfl) (pe_int))
      (pss_cons (ps_while PassesOwn.never (pt_cmpR op_ge (pv 2) (pe_ix ix_tup (pv 0) (pv 3) (fun _ _ => rfl)) (nomark _)) (pss_cons (ps_aug (i := 2) sc_by_number.nd rfl (Or.inl rfl) (pe_ix ix_tup (pv 0) (pv 3) (fun _ _ => rfl)) ip_sub)
      (pss_one (ps_aug (i := 3) sc_by_number.nd rfl (Or.inl rfl) (pe_int) ip_add))))
      (pss_one (ps_ret (pv 3))))), ?_⟩
  refine ⟨_, rfl, .inl ⟨n, rfl, _, rfl, p, ws, rfl, SqT.of hp, _, _, rfl, rfl, hs0, ?_⟩⟩
  refine ⟨fun m σ H' => ∃ (k : Nat) (left : Int), σ = [some (.ref p), some (.int n), some (.int left), some (.int k)] ∧ H' = H ∧ m = ws.length - k ∧ 0 ≤ left ∧ left < (ws.drop k).sum ∧ byM (ws.drop k) left k = byM ws (n % ws.sum) 0,
    ⟨_, 0, _, rfl, rfl, rfl, Int.emod_nonneg _ (by omega), Int.emod_lt_of_pos _ hs0, rfl⟩, ?_⟩
  rintro m σ H' ⟨k, left, rfl, rfl, rfl, l0, l1, e⟩
  have hk : k < ws.length := by
    apply Classical.byContradiction
    intro h
    rw [List.drop_of_length_le (by omega)] at l1
    simp at l1
    omega
  rw [List.drop_eq_getElem_cons hk] at l1 e
  rw [List.sum_cons] at l1
  have hix : atI (ws.map V.int) ((k : Nat) : Int) = some (.int ws[k]) := atI_nat (getMap (List.getElem?_eq_getElem hk))
  refine ⟨_, rfl, _, rfl, _, rfl, p, _, _, _, rfl, rfl, SqT.of hp, hix, _, _, rfl, rfl, _, rfl, ?_⟩
  by_cases hle : left ≥ ws[k]
  · rw [decide_eq_true hle]
    refine ⟨_, fun σ' H' h => ⟨ws.length - (k + 1), by omega, h⟩, ?_⟩
    refine ⟨_, rfl, _, rfl, _, rfl, p, _, _, _, rfl, rfl, SqT.of hp, hix, _, _, rfl, rfl, ?_⟩
    refine ⟨_, rfl, _, _, rfl, rfl, k + 1, left - ws[k], rfl, rfl, rfl, by omega, by omega, ?_⟩
    rw [byM, if_pos hle] at e
    exact e
  · rw [decide_eq_false hle]
    refine ⟨_, rfl, ?_⟩
    rw [byM, if_neg hle] at e
    rw [e]
    exact q
abbrev N_Rule_init : List Str := ["self", "start", "steps", "row"]
theorem sc_Rule_init : FnScope N_Rule_init ["self", "start", "steps"] (defScope s_Rule_init) := ⟨rfl, rfl, rfl, by decide +kernel, rfl, by decide +kernel, by decide +kernel⟩
theorem ok_Rule_init (T : Txt K mg) : CFn P w K mg base 1 "Rule" (He.ga K "Rule") ["self", "start", "steps"] (Sp3 (p_Rule_init K)) := by
  refine cfn T.d_Rule_init T.mk_Rule T.g_Rule sc_Rule_init (fun _ _ _ _ _ _ us hl => match us, hl with | [_, _, _], _ => rfl) len3 fun cdv A outer s H vs Q E hr h => ?_
  obtain ⟨a0, a1, a2, rfl, p, dx, r, rfl, hp, rfl, hst, hsl, q⟩ := h
  refine ⟨_, pss_cons (ps_fld (pv 0) (pv 1) rfl)
      (pss_one (ps_fld (pv 0) (pe_callTy call_tuple_of (by rfl) T.b_tuple (by decide +kernel) (pa_cons (pe_lc (own := [("row", 3)]) rfl sc_Rule_init.nd (pi_tup (pv 2)) (blkOk_by (N := N_Rule_init) (sc := defScope s_Rule_init) (by decide +kernel)) (fun _ _ _ _ _ => pg_name (i := 3) sc_Rule_init.nd rfl (Or.inl rfl) (hf := Or.inr rfl)) (fun _ _ _ _ _ => pts_nil) (fun _ _ _ _ _ => pe_callTy (call_tuple_ofK (K0 := K)) (by rfl) T.b_tuple (by decide +kernel) (pa_cons (pv 3) pa_nil))) pa_nil)) rfl)), ?_⟩
  refine ⟨_, rfl, _, rfl, p, _, dx, _, rfl, hp, T.cl_Rule, T.n_Rule_start, by show 0 < 1000; omega, ?_⟩
  generalize hG : upd H p _ = H1
  obtain ⟨f1, e1⟩ := gen_ins [p] hp hG (.head _)
  obtain ⟨c, xs, rfl, hc, rc⟩ := (hst.up f1.t).tupI
  refine ⟨_, rfl, c, rfl, ⟨_, SqT.of hc⟩, fun D hD => lcd_tup (ds1 := r.steps.map dOpts) hD hc rc (by simp) (by rw [List.length_map]; exact hsl) (fun i x d H' hd hx s kp => ?_) fun H5 ys h1 h2 h3 => ?_⟩
  · obtain ⟨l, el, rfl⟩ := map_get hd
    obtain ⟨b, zs, rfl, hb, rz⟩ := id hx.tupI
    exact ⟨rfl, _, rfl, b, zs, rfl, .inr ⟨SqT.of hb, kp _ _ _ hd (Same.refl _) hx⟩⟩
  refine ⟨_, ys, rfl, .inl ⟨SqL.of h1, fun e he => ⟨_, rfl, p, _, dx, _, rfl, same_new he _ _ (h3 _ _ e1), T.cl_Rule, T.n_Rule_steps, by show 1 < 1000; omega, ?_⟩⟩⟩
  have hv := tl_at h2 he
  generalize hG : upd H5 e _ = H6 at *
  obtain ⟨s6, e6⟩ := gen_new he hG
  generalize hG : upd H6 p _ = H7
  obtain ⟨f7, e7⟩ := gen_ins [p] (s6 _ _ (h3 _ _ e1)) hG (.head _)
  exact q _ (f1.trans ((Fr.same (h3.trans s6)).trans f7)) ⟨dx, _, e7, hv.up f7.t⟩
abbrev N_Rule_after : List Str := ["self", "text", "state", "letter"]
theorem sc_Rule_after : FnScope N_Rule_after ["self", "text"] (defScope s_Rule_after) := ⟨rfl, rfl, rfl, by decide +kernel, rfl, by decide +kernel, by decide +kernel⟩
theorem ok_Rule_after (T : Txt K mg) : MFn P w K mg base 1 (He.ga K "Rule") "after" ["self", "text"] (Sp2 (p_Rule_after K)) := by
  refine mfn T.d_Rule_after T.m_Rule_after sc_Rule_after (fun _ _ _ _ _ _ us hl => match us, hl with | [_, _], _ => rfl) len2 fun cdv A outer s H vs Q E hr h => ?_
  obtain ⟨a0, a1, rfl, p, b, r, L, t, rfl, rfl, hr0, ok, hb, ht, q⟩ := h
  refine ⟨_, pss_cons (ps_set (i := 2) sc_Rule_after.nd rfl (Or.inl rfl) (pe_fld (pv 0) rfl))
      (pss_cons (ps_for PassesOwn.never rfl (pi_tup (pv 1)) (pg_name (i := 3) sc_Rule_after.nd rfl (Or.inl rfl))
      (pss_cons (ps_if (pt_cmp (pc_isN (pv 2))) (pss_one (ps_ret (pe_non))) (pss_nil))
      (pss_one (ps_set (i := 2) sc_Rule_after.nd rfl (Or.inl rfl) (pe_ix ix_tup (pe_ix ix_tup (pe_fld (pv 0) rfl) (pv 2) (fun _ _ => rfl)) (pv 3) (fun _ _ => rfl))))))
      (pss_one (ps_ret (pv 2)))), ?_⟩
  obtain ⟨dx, v, hp, hv⟩ := hr0.ex
  obtain ⟨c, xs, rfl, hc, rc⟩ := hv.tupI
  refine ⟨_, rfl, p, _, dx, _, _, rfl, hp, T.cl_Rule, T.n_Rule_start, rfl, ?_⟩
  refine ⟨_, rfl, b, rfl, ⟨_, SqT.of hb⟩, for_tup (K := K) (a := b) (xs := t.map V.int) (fun i σ H' => ∃ v2 v3, σ = [some (.ref p), some (.ref b), some v2, v3] ∧ H' = H ∧ At H v2 (dOpt (afterM r (t.take i))))
    ⟨_, none, rfl, rfl, .int _⟩ (fun i σ H' _ I => ?_) (fun i x σ H' hx I => ?_) fun σ H' I => ?_⟩
  · obtain ⟨_, _, _, rfl, _⟩ := I
    exact SqT.of hb
  · obtain ⟨v2, v3, rfl, rfl, h2⟩ := I
    obtain ⟨l, el, rfl⟩ := map_get hx
    have hl := ht l (List.mem_of_getElem? el)
    rcases dOpt_cases h2 with ⟨e, rfl⟩ | ⟨i2, e, rfl⟩
    · refine ⟨_, rfl, _, rfl, ?_⟩
      refine q _ ?_
      have : afterM r t = none := by
        rw [← List.take_append_drop i t]
        unfold afterM
        rw [List.foldl_append]
        show List.foldl _ (afterM r (t.take i)) _ = _
        rw [e]
        exact stepM_none _ _
      rw [this]
      exact .non
    · obtain ⟨b0, b1⟩ := afterM_in ok _ _ e
      obtain ⟨j, rfl⟩ := Int.eq_ofNat_of_zero_le b0
      obtain ⟨k, rfl⟩ := Int.eq_ofNat_of_zero_le hl.1
      have hj : j < r.steps.length := by omega
      obtain ⟨v3, g1, g2⟩ := rc.getD (getMap (f := dOpts) (List.getElem?_eq_getElem hj))
      obtain ⟨c3, zs, rfl, hc3, rz⟩ := g2.tupI
      have hk : k < r.steps[j].length := by
        rw [ok.w _ (List.getElem_mem hj)]; omega
      obtain ⟨v4, g3, g4⟩ := rz.getD (getMap (f := dOpt) (List.getElem?_eq_getElem hk))
      refine ⟨_, rfl, _, rfl, ?_⟩
      refine ⟨_, rfl, p, _, dx, _, _, rfl, hp, T.cl_Rule, T.n_Rule_steps, rfl, ?_⟩
      refine ⟨_, rfl, c, _, _, _, rfl, rfl, SqT.of hc, atI_nat g1, _, rfl, c3, _, _, _, rfl, rfl, SqT.of hc3, atI_nat g3, _, _, rfl, rfl, ?_⟩
      have e2 : afterM r (t.take (i + 1)) = r.steps[j][k] := by
        rw [take_snoc el, afterM_snoc, e]
        unfold stepM
        simp only [Int.toNat_natCast, List.getD_eq_getElem?_getD]
        rw [List.getElem?_eq_getElem hj]
        simp only [Option.getD_some]
        rw [List.getElem?_eq_getElem hk]
        rfl
      rw [e2]
      exact g4
  · obtain ⟨v2, v3, rfl, rfl, h2⟩ := I
    refine ⟨_, rfl, q _ ?_⟩
    rw [List.length_map, List.take_length] at h2
    exact h2
end
end Sv
end
section
set_option Elab.async false
set_option linter.all false
set_option maxRecDepth 100000
set_option maxHeartbeats 4000000
/-! The walk: Rule.lets, Ask.*. -/
namespace Sv
open PySem PySem.Spec PyProof.Rows L2
def p_Ask_init (K : PySem.W.Frag) : P6 := fun a b c d e f H Q => ∃ (p dx : Addr) (k : AskM), a = .ref p ∧ H p = some (.ins (He.ga K "Ask") dx []) ∧ At H b (dVec k.prompt) ∧ c = .int k.most ∧ 1 ≤ k.most ∧ k.most ≤ 30 ∧ At H d (dMat k.stops) ∧ k.stops.length ≤ 1000 ∧ At H e (dVec k.tape) ∧ RuleV K H f k.rule ∧
  ∀ H', Fr [p] H H' → AskAt K H' p k → Q .non H'
def p_Ask_let_weights (K : PySem.W.Frag) : P3 := fun a b c H Q => ∃ (p q q2 : Addr) (k : AskM) (L : Nat) (ws t : List Int), a = .ref p ∧ b = .ref q ∧ c = .ref q2 ∧ AskAt K H p k ∧ (∀ r, k.rule = some r → RuleOk r L) ∧ ws.length = L ∧ L ≤ 1000 ∧
  H q = some (.tup (ws.map V.int)) ∧ SmallI ws ∧ H q2 = some (.tup (t.map V.int)) ∧ (∀ x ∈ t, 0 ≤ x ∧ x < L) ∧ t.length ≤ 500 ∧ ∀ H' v, Same H H' → At H' v (dVec (letM k.rule ws t)) → Q v H'
def p_Ask_choice (K : PySem.W.Frag) : P3 := fun a b c H Q => ∃ (p q q2 : Addr) (k : AskM) (L : Nat) (ws t : List Int), a = .ref p ∧ b = .ref q ∧ c = .ref q2 ∧ AskAt K H p k ∧ (∀ r, k.rule = some r → RuleOk r L) ∧ ws.length = L ∧ L ≤ 1000 ∧
  H q = some (.tup (ws.map V.int)) ∧ (∀ x ∈ ws, 1 ≤ x ∧ x ≤ 97) ∧ H q2 = some (.tup (t.map V.int)) ∧ (∀ x ∈ t, 0 ≤ x ∧ x < L) ∧ t.length ≤ 500 ∧ ∀ H' v, Same H H' → At H' v (dOpt (choiceM k ws t)) → Q v H'
theorem dec_t {a b : V} (h : a = b) : decide (a = b) = true := decide_eq_true h
theorem dec_f {a b : V} (h : a ≠ b) : decide (a = b) = false := decide_eq_false h
theorem catA_at {K : PySem.W.Frag} {H : Hp} {a b : Addr} {xs ys : List V} {Q : VK} (ha : H a = some (.tup xs)) (hb : H b = some (.tup ys)) (hl : xs.length + ys.length ≤ 1000) (q : ∀ H' c, Same H H' → H' c = some (.tup (xs ++ ys)) → Q (.ref c) H') : rCatA K (.ref a) (.ref b) H Q := by
  refine ⟨a, b, xs, ys, rfl, rfl, SqT.of ha, SqT.of hb, Nat.le_of_lt (small1000 hl), fun e => ?_, fun _ e => ?_, fun _ _ p hp => q _ _ (same_new hp) upd_same⟩
  · exact q _ _ (Same.refl _) (by rw [hb, e]; rfl)
  · exact q _ _ (Same.refl _) (by rw [ha, e, List.append_nil])
/-- a class that is made with keywords -/
structure CFnK (P : Program) (w : World) (K : PySem.W.Frag) (mg : Str → Option Value) (base : Heap) (k : Nat) (x : Str) (C : Addr) (n : Nat) (ps ks : List Str) (sp : Sp) : Prop where
  ex : ∃ f fd g, Mk K C f ∧ mg x = some (.ref C) ∧ FnOk P w K mg base CX0 k f fd ps sp ∧ KBn K fd ps (n + 1) ks g (fun vs zs => vs ++ zs)
theorem pe_cK {X : Cx} {k n : Nat} {x : Str} {C : Addr} {ps ks : List Str} {sp : Sp} {e : Expr} {es : List Expr} {kws : List Keyword} {t tk : TA} {p pos : Pos} (G : CFnK X.prog X.w X.K X.mg X.base k x C n ps ks sp) (hr : Room (k + 1) X.A) (ha : PA X (e :: es) t) (hkw : PK X kws tk) (hg : Gl X x := by rfl)
    (hall : (backToKw pos (keywordEach kws X.env)).all (·.1.isSome) = true := by rfl) (hks : (backToKw pos (keywordEach kws X.env)).filterMap (·.1) = ks := by rfl) (hdb : (x == ("__debug__" : Str)) = false := by decide)
    (he : starEach (e :: es) X.env = (false, eval e X.env) :: starEach es X.env := by rfl) (hpl : ((backTo pos (starEach (e :: es) X.env)).any (·.1) || (backToKw pos (keywordEach kws X.env)).any (·.1.isNone)) = false := by rfl) :
    PE X (.Call (.Name x p) (e :: es) kws pos) (tMakeK C n ks.length sp (fun vs zs => vs ++ zs) E0 t tk) := by
  obtain ⟨f, fd, g, M, hm, F, b⟩ := G.ex
  exact pe_makeK M F hr hg hm b pass0 ha hkw hall hks hdb he hpl
theorem ask_binds {K : PySem.W.Frag} {f : Addr} {fd : FuncData} (F : FunD K "__init__" "Ask.__init__" (defArgs s_Ask_init) (defBody s_Ask_init) (defScope s_Ask_init) [] [("rule", V.non)] f fd) :
    ∃ g, KBn K fd ["self", "prompt", "most", "stops", "tape", "rule"] 3 ["stops", "tape", "rule"] g (fun vs zs => vs ++ zs) := by
  obtain ⟨mv, h⟩ := F.kbinds0 (ps := ["self", "prompt", "most", "stops", "tape", "rule"]) 3 ["stops", "tape", "rule"] [] (fun us _ ws => us ++ ws) (by simp) (by simp) (fun r1 _ r3 => r1.append r3) (fun D doc pm an cdv ct us mv ws l1 l2 l3 => match us, ws, l1, l3 with
    | [_, _, _], [_, _, _], _, _ => rfl)
  exact ⟨_, h⟩
section
variable {P : Program} {w : World} {K : PySem.W.Frag} {mg : Str → Option Value} {base : Heap}
abbrev N_Rule_lets : List Str := ["self", "text", "letter"]
theorem sc_Rule_lets : FnScope N_Rule_lets ["self", "text", "letter"] (defScope s_Rule_lets) := ⟨rfl, rfl, rfl, by decide +kernel, rfl, by decide +kernel, by decide +kernel⟩
theorem ok_Rule_lets (T : Txt K mg) : MFn P w K mg base 2 (He.ga K "Rule") "lets" ["self", "text", "letter"] (Sp3 (p_Rule_lets K)) := by
  refine mfn T.d_Rule_lets T.m_Rule_lets sc_Rule_lets (fun _ _ _ _ _ _ us hl => match us, hl with | [_, _, _], _ => rfl) len3 fun cdv A outer s H vs Q E hr h => ?_
  obtain ⟨a0, a1, a2, rfl, p, b, r, L, t, l, rfl, rfl, rfl, hr0, ok, hb, ht, htl, l0, l1, q⟩ := h
  refine ⟨_, pss_one (ps_ret (pe_cmp (pc_notN (pe_m (ok_Rule_after T) T.cl_Rule (hr.mono (by decide)) (pv 0) (pa_cons (pe_op op_catA (pe_callTy call_tuple_of (by rfl) T.b_tuple (by decide +kernel) (pa_cons (pv 1) pa_nil)) (pe_tup (pa_cons (pv 2) pa_nil))) pa_nil))))), ?_⟩
  obtain ⟨dx, v, hp, hv⟩ := id hr0.ex
  refine ⟨_, rfl, p, dx, _, rfl, hp, rfl, _, rfl, b, _, rfl, .inr ⟨SqT.of hb, _, rfl, ll1, fun e he => ?_⟩⟩
  obtain ⟨s1, e1⟩ := gen_new (o := .tup [V.int l]) he rfl
  refine catA_at (K := K) (s1 _ _ hb) e1 (by rw [List.length_map]; show _ + 1 ≤ 1000; omega) fun H2 c s2 hc => ?_
  have s3 := s1.trans s2
  refine ⟨_, _, rfl, p, c, r, L, t ++ [l], rfl, rfl, hr0.keep s3.tups, ok, by rw [List.map_append]; exact hc, fun x hx => ?_, fun v hv => ?_⟩
  · rcases List.mem_append.mp hx with h | h
    · exact ht x h
    · rw [List.mem_singleton.mp h]; exact ⟨l0, l1⟩
  · have q' := q _ s3
    unfold letsM at q'
    rcases dOpt_cases hv with ⟨e, rfl⟩ | ⟨i, e, rfl⟩ <;> rw [e] at q' <;> exact q'
abbrev N_Ask_init : List Str := ["self", "prompt", "most", "stops", "tape", "rule", "stop"]
theorem sc_Ask_init : FnScope N_Ask_init ["self", "prompt", "most", "stops", "tape", "rule"] (defScope s_Ask_init) := ⟨rfl, rfl, rfl, by decide +kernel, rfl, by decide +kernel, by decide +kernel⟩
theorem ok_Ask_init (T : Txt K mg) : CFnK P w K mg base 2 "Ask" (He.ga K "Ask") 2 ["self", "prompt", "most", "stops", "tape", "rule"] ["stops", "tape", "rule"] (Sp6 (p_Ask_init K)) := by
  obtain ⟨fd, F⟩ := T.d_Ask_init
  obtain ⟨g, b⟩ := ask_binds F
  refine ⟨_, fd, g, T.mk_Ask, T.g_Ask, F.ok sc_Ask_init len6 fun cdv A outer s H vs Q E hr h => ?_, b⟩
  obtain ⟨a0, a1, a2, a3, a4, a5, rfl, p, dx, k, rfl, hp, hpr, rfl, m0, m1, hst, hsl, hta, hru, q⟩ := h
  suffices ∃ t, PSs (cxOf CX0 P w K mg base N_Ask_init "Ask.__init__" (defScope s_Ask_init) (He.ma K (He.ga K "Ask") "__init__") cdv A outer s H E).nox (defBody s_Ask_init) t ∧ t { nx := fun _ H' => Q .non H', rt := Q } (L2.start N_Ask_init [.ref p, a1, .int k.most, a3, a4, a5]) H by
    obtain ⟨t, ht, q⟩ := this
    exact ⟨t, ht.nox, q⟩
  refine ⟨_, pss_cons (ps_if (pt_not (pt_val (pe_g (ok_is_between T) (hr.mono (by decide)) (pa_cons (pv 2) (pa_cons (pe_int) (pa_cons (pe_glob (v := .int 30) (by rfl) (T.i_MOST_LETTERS).choose_spec ⟨_, rfl⟩) pa_nil)))))) (pss_one (ps_never)) (pss_nil))
      (pss_cons (ps_fld (pv 0) (pe_callTy call_tuple_of (by rfl) T.b_tuple (by decide +kernel) (pa_cons (pv 1) pa_nil)) rfl)
      (pss_cons (ps_fld (pv 0) (pv 2) rfl)
      (pss_cons (ps_fld (pv 0) (pe_callTy call_tuple_of (by rfl) T.b_tuple (by decide +kernel) (pa_cons (pe_lc (own := [("stop", 6)]) rfl sc_Ask_init.nd (pi_tup (pv 3)) (blkOk_by (N := N_Ask_init) (sc := defScope s_Ask_init) (by decide +kernel)) (fun _ _ _ _ _ => pg_name (i := 6) sc_Ask_init.nd rfl (Or.inl rfl) (hf := Or.inr rfl)) (fun _ _ _ _ _ => pts_nil) (fun _ _ _ _ _ => pe_callTy (call_tuple_ofK (K0 := K)) (by rfl) T.b_tuple (by decide +kernel) (pa_cons (pv 6) pa_nil))) pa_nil)) rfl)
      (pss_cons (ps_fld (pv 0) (pe_callTy call_tuple_of (by rfl) T.b_tuple (by decide +kernel) (pa_cons (pv 4) pa_nil)) rfl)
      (pss_one (ps_fld (pv 0) (pv 5) rfl)))))), ?_⟩
  have hdec : decide (1 ≤ k.most ∧ k.most ≤ 30) = true := by simp; omega
  refine ⟨_, rfl, _, _, _, rfl, _, _, _, rfl, rfl, rfl, ?_⟩
  rw [hdec]
  obtain ⟨c1, rfl, hc1⟩ := hpr.vecI
  refine ⟨true, rfl, _, rfl, c1, _, rfl, .inr ⟨SqT.of hc1, _, rfl, p, _, dx, _, rfl, hp, T.cl_Ask, T.n_Ask_prompt, by show 0 < 1000; omega, ?_⟩⟩
  generalize hG : upd H p _ = H1
  obtain ⟨f1, e1⟩ := gen_ins [p] hp hG (.head _)
  refine ⟨_, rfl, _, rfl, p, _, dx, _, rfl, e1, T.cl_Ask, T.n_Ask_most, by show 1 < 1000; omega, ?_⟩
  generalize hG : upd H1 p _ = H2
  obtain ⟨f2, e2⟩ := gen_ins [p] e1 hG (.head _)
  have a2 := f1.trans f2
  obtain ⟨c2, xs, rfl, hc2, r2⟩ := (hst.up a2.t).matI
  refine ⟨_, rfl, c2, rfl, ⟨_, SqT.of hc2⟩, fun D hD => lcd_tup (ds1 := k.stops.map dVec) hD hc2 r2 (by simp) (by rw [List.length_map]; exact hsl) (fun i x d H' hd hx s kp => ?_) fun H5 ys h1 h2 h3 => ?_⟩
  · obtain ⟨l, el, rfl⟩ := map_get hd
    obtain ⟨b, rfl, hb⟩ := id hx.vecI
    exact ⟨rfl, _, rfl, b, _, rfl, .inr ⟨SqT.of hb, kp _ _ _ hd (Same.refl _) hx⟩⟩
  refine ⟨_, ys, rfl, .inl ⟨SqL.of h1, fun e he => ⟨_, rfl, p, _, dx, _, rfl, same_new he _ _ (h3 _ _ e2), T.cl_Ask, T.n_Ask_stops, by show 2 < 1000; omega, ?_⟩⟩⟩
  have hv := tl_at h2 he
  generalize hG : upd H5 e _ = H6 at *
  obtain ⟨s6, e6⟩ := gen_new he hG
  generalize hG : upd H6 p _ = H7
  obtain ⟨f7, e7⟩ := gen_ins [p] (s6 _ _ (h3 _ _ e2)) hG (.head _)
  have a7 := a2.trans ((Fr.same (h3.trans s6)).trans f7)
  obtain ⟨c3, rfl, hc3⟩ := (hta.up a7.t).vecI
  refine ⟨_, rfl, c3, _, rfl, .inr ⟨SqT.of hc3, _, rfl, p, _, dx, _, rfl, e7, T.cl_Ask, T.n_Ask_tape, by show 3 < 1000; omega, ?_⟩⟩
  generalize hG : upd H7 p _ = H8
  obtain ⟨f8, e8⟩ := gen_ins [p] e7 hG (.head _)
  refine ⟨_, rfl, _, rfl, p, _, dx, _, rfl, e8, T.cl_Ask, T.n_Ask_rule, by show 4 < 1000; omega, ?_⟩
  generalize hG : upd H8 p _ = H9
  obtain ⟨f9, e9⟩ := gen_ins [p] e8 hG (.head _)
  have a9 := a7.trans (f8.trans f9)
  exact q _ a9 ⟨dx, _, _, _, _, e9, hpr.up a9.t, (hv.up f7.t).up (f8.trans f9).t, hta.up a9.t, hru.keep a9.t⟩
abbrev N_Ask_let_weights : List Str := ["self", "weights", "text", "letter", "weight"]
theorem sc_Ask_let_weights : FnScope N_Ask_let_weights ["self", "weights", "text"] (defScope s_Ask_let_weights) := ⟨rfl, rfl, rfl, by decide +kernel, rfl, by decide +kernel, by decide +kernel⟩
theorem ok_Ask_let_weights (T : Txt K mg) : MFn P w K mg base 3 (He.ga K "Ask") "let_weights" ["self", "weights", "text"] (Sp3 (p_Ask_let_weights K)) := by
  refine mfn T.d_Ask_let_weights T.m_Ask_let_weights sc_Ask_let_weights (fun _ _ _ _ _ _ us hl => match us, hl with | [_, _, _], _ => rfl) len3 fun cdv A outer s H vs Q E hr h => ?_
  obtain ⟨a0, a1, a2, rfl, p, b, c, k, L, ws, t, rfl, rfl, rfl, ha, hrk, hwl, hL, hb, hws, hc, ht, htl, q⟩ := h
  refine ⟨_, pss_cons (ps_if (pt_cmp (pc_isN (pe_fld (pv 0) rfl))) (pss_one (ps_ret (pe_callTy call_tuple_of (by rfl) T.b_tuple (by decide +kernel) (pa_cons (pv 1) pa_nil)))) (pss_nil))
      (pss_one (ps_ret (pe_callTy call_tuple_of (by rfl) T.b_tuple (by decide +kernel) (pa_cons (pe_lc (own := [("letter", 3), ("weight", 4)]) rfl sc_Ask_let_weights.nd (pi_enum2 true (by rfl) T.b_enumerate (pa_cons (pv 1) pa_nil)) (blkOk_by (N := N_Ask_let_weights) (sc := defScope s_Ask_let_weights) (by decide +kernel)) (fun _ _ _ _ _ => pg_tupK (n := 2) (K0 := K) rfl (pgs_cons (pg_name (i := 3) sc_Ask_let_weights.nd rfl (Or.inl rfl) (hf := Or.inr rfl)) (pgs_cons (pg_name (i := 4) sc_Ask_let_weights.nd rfl (Or.inl rfl) (hf := Or.inr rfl)) pgs_nil))) (fun _ _ _ _ _ => pts_nil) (fun _ _ _ _ _ => pe_op op_mul (pv 4) (pe_callTy call_int1 (by rfl) T.b_int (by decide +kernel) (pa_cons (pe_m (ok_Rule_lets T) T.cl_Rule (hr.mono (by decide)) (pe_fldK (K0 := K) (pv 0) rfl) (pa_cons (pv 2) (pa_cons (pv 3) pa_nil))) pa_nil)))) pa_nil)))), ?_⟩
  obtain ⟨dx, v1, v2, v3, v4, hp, h1, h2, h3, h4⟩ := id ha.ex
  refine ⟨_, rfl, p, _, dx, _, _, rfl, hp, T.cl_Ask, T.n_Ask_rule, rfl, ?_⟩
  cases er : k.rule with
  | none =>
    rw [er] at h4
    obtain rfl : v4 = .non := h4
    refine ⟨_, rfl, _, rfl, b, _, rfl, .inr ⟨SqT.of hb, q _ _ (Same.refl _) ?_⟩⟩
    rw [er]
    exact at_vec hb
  | some r =>
    rw [er] at h4
    obtain ⟨rp, rfl, hrp⟩ := h4
    have okr := hrk r er
    rw [er] at q
    refine ⟨_, rfl, ?_⟩
    refine ⟨_, rfl, b, _, rfl, SqK.t (SqT.of hb), fun D hD => lc_it (walk_enum2 (K := K) (k := true) (xs := ws.map V.int)) (LcI H D ((letM (some r) ws t).map .int)) (lcI_0 hD) (fun i H' _ I => SqK.t (SqT.of (I.choose_spec.2.2 _ _ hb))) (fun i x H' H2 hi I y => ?_) fun H' I => ?_⟩
    · have s3 := I.choose_spec.2.2
      obtain ⟨T0, x0, y0, rfl, hT, rfl, e1, e2⟩ := y
      cases e1
      obtain ⟨n, en, rfl⟩ := map_get e2
      have s4 : Same H' (upd H' T0 (.tup [V.int i, V.int n])) := same_new hT
      have s5 := s3.trans s4
      have hil : i < ws.length := (List.getElem?_eq_some_iff.mp en).1
      refine ⟨T0, _, rfl, SqT.of upd_same, rfl, _, _, rfl, _, _, rfl, rfl, rfl, _, rfl, _, rfl, p, _, dx, _, _, rfl, s5 _ _ hp, T.cl_Ask, T.n_Ask_rule, rfl, ?_⟩
      obtain ⟨rdx, rv, hrr, _⟩ := id hrp.ex
      refine ⟨rp, rdx, _, rfl, s5 _ _ hrr, rfl, _, rfl, _, rfl, _, _, _, rfl, rp, c, r, L, t, i, rfl, rfl, rfl, hrp.keep s5.tups, okr, s5 _ _ hc, ht, htl, by omega, by omega, fun H3 s6 => ?_⟩
      refine .inr ⟨_, rfl, _, _, rfl, rfl, .inl (hws n (List.mem_of_getElem? en)), lcI_step hD I (s4.trans s6) (d := .int (n * if letsM r t i = true then 1 else 0)) ?_ (.int _) (by rw [List.length_map, letM_len]; omega)⟩
      refine getMap (x := n * if letsM r t i = true then 1 else 0) ?_
      show (ws.mapIdx _)[i]? = _
      rw [List.getElem?_mapIdx, en]
      rfl
    · obtain ⟨ys, g1, g2, g3⟩ := I.all (by simp [letM_len])
      exact tup_of_list g1 g2 g3 q
abbrev N_Ask_choice : List Str := ["self", "weights", "text", "let"]
theorem sc_Ask_choice : FnScope N_Ask_choice ["self", "weights", "text"] (defScope s_Ask_choice) := ⟨rfl, rfl, rfl, by decide +kernel, rfl, by decide +kernel, by decide +kernel⟩
theorem ok_Ask_choice (T : Txt K mg) : MFn P w K mg base 4 (He.ga K "Ask") "choice" ["self", "weights", "text"] (Sp3 (p_Ask_choice K)) := by
  refine mfn T.d_Ask_choice T.m_Ask_choice sc_Ask_choice (fun _ _ _ _ _ _ us hl => match us, hl with | [_, _, _], _ => rfl) len3 fun cdv A outer s H vs Q E hr h => ?_
  obtain ⟨a0, a1, a2, rfl, p, b, c, k, L, ws, t, rfl, rfl, rfl, ha, hrk, hwl, hL, hb, hws, hc, ht, htl, q⟩ := h
  refine ⟨_, pss_cons (ps_set (i := 3) sc_Ask_choice.nd rfl (Or.inl rfl) (pe_m (ok_Ask_let_weights T) T.cl_Ask (hr.mono (by decide)) (pv 0) (pa_cons (pv 1) (pa_cons (pv 2) pa_nil))))
      (pss_cons (ps_if (pt_cmpR op_eq (pe_callB (cr_sumT rfl) (by rfl) T.b_sum (by decide +kernel) (pa_cons (pv 3) pa_nil)) (pe_int) (nomark _)) (pss_one (ps_ret (pe_non))) (pss_nil))
      (pss_cons (ps_if (pt_cmpR op_eq (pe_callB call_len_seq (by rfl) T.b_len PySem.boot_len (pa_cons (pe_fld (pv 0) rfl) pa_nil)) (pe_int) (nomark _)) (pss_one (ps_ret (pe_g (ok_greatest T) (hr.mono (by decide)) (pa_cons (pv 3) pa_nil)))) (pss_nil))
      (pss_one (ps_ret (pe_g (ok_by_number T) (hr.mono (by decide)) (pa_cons (pv 3) (pa_cons (pe_ix ix_tup (pe_fld (pv 0) rfl) (pe_op op_mod (pe_callB call_len_seq (by rfl) T.b_len PySem.boot_len (pa_cons (pv 2) pa_nil)) (pe_callB call_len_seq (by rfl) T.b_len PySem.boot_len (pa_cons (pe_fld (pv 0) rfl) pa_nil))) (fun _ _ => rfl)) pa_nil))))))), ?_⟩
  obtain ⟨dx, v1, v2, v3, v4, hp, h1, h2, h3, h4⟩ := id ha.ex
  refine ⟨_, rfl, p, dx, _, rfl, hp, rfl, _, rfl, _, rfl, _, _, _, rfl, p, b, c, k, L, ws, t, rfl, rfl, rfl, ha, hrk, hwl, hL, hb, ?_, hc, ht, htl, fun H1 v s1 hv => ?_⟩
  · exact fun x hx => by have := hws x hx; constructor <;> omega
  have hlpos := letM_pos (r := k.rule) (t := t) hws (by omega)
  have hlen := letM_len k.rule ws t
  have hs0 := sum_nonneg fun x hx => (hlpos x hx).1
  obtain ⟨c2, rfl, hc2⟩ := hv.vecI
  refine ⟨_, rfl, c2, _, rfl, SqT.of hc2, rfl, _, rfl, ?_⟩
  have ech : choiceM k ws t = if (letM k.rule ws t).sum = 0 then none else if k.tape = [] then some ((greatM (letM k.rule ws t) (letM k.rule ws t).length : Nat) : Int) else some (byM (letM k.rule ws t) (k.tape.getD (t.length % k.tape.length) 0 % (letM k.rule ws t).sum) 0 : Nat) := rfl
  by_cases hz : (letM k.rule ws t).sum = 0
  · rw [dec_t (show V.int (letM k.rule ws t).sum = V.int 0 by rw [hz])]
    refine q _ _ s1 ?_
    rw [ech, if_pos hz]
    exact .non
  rw [dec_f (show V.int (letM k.rule ws t).sum ≠ V.int 0 from fun e => hz (V.int.inj e))]
  obtain ⟨c3, rfl, hc3⟩ := (h3.up s1.tups).vecI
  refine ⟨_, rfl, p, _, dx, _, _, rfl, s1 _ _ hp, T.cl_Ask, T.n_Ask_tape, rfl, c3, _, rfl, .inr (SqT.of hc3), rfl, _, rfl, ?_⟩
  by_cases he : k.tape = []
  · rw [dec_t (show V.int ((k.tape.map V.int).length : Nat) = V.int 0 by rw [he]; rfl)]
    have hne : 0 < (letM k.rule ws t).length := by
      cases h2 : letM k.rule ws t with
      | nil => rw [h2] at hz; simp at hz
      | cons x r => simp
    refine ⟨_, rfl, _, rfl, c2, _, rfl, hc2, hne, fun H2 s2 => q _ _ (s1.trans s2) ?_⟩
    rw [ech, if_neg hz, if_pos he]
    exact .int _
  · have hne : 0 < k.tape.length := List.length_pos_iff.mpr he
    have hlt := Nat.mod_lt t.length hne
    rw [dec_f (show V.int ((k.tape.map V.int).length : Nat) ≠ V.int 0 from fun e => by
      have := V.int.inj e
      rw [List.length_map] at this
      omega)]
    refine ⟨_, rfl, _, rfl, p, _, dx, _, _, rfl, s1 _ _ hp, T.cl_Ask, T.n_Ask_tape, rfl, _, rfl, c, _, rfl, .inr (SqT.of (s1 _ _ hc)), _, rfl, p, _, dx, _, _, rfl, s1 _ _ hp, T.cl_Ask, T.n_Ask_tape, rfl, c3, _, rfl, .inr (SqT.of hc3), _, _, rfl, rfl, ?_⟩
    have ei : (((t.map V.int).length : Nat) : Int) % (((k.tape.map V.int).length : Nat) : Int) = ((t.length % k.tape.length : Nat) : Int) := by rw [List.length_map, List.length_map]; rfl
    have et : k.tape.getD (t.length % k.tape.length) 0 = k.tape[t.length % k.tape.length] := by rw [List.getD_eq_getElem?_getD, List.getElem?_eq_getElem hlt]; rfl
    have hpos : 0 < (letM k.rule ws t).sum := by omega
    refine ⟨Int.ofNat_lt.mpr (by rw [List.length_map]; exact hne), c3, _, _, _, rfl, rfl, SqT.of hc3, by rw [ei]; exact atI_nat (getMap (List.getElem?_eq_getElem hlt)), _, _, rfl, c2, _, _, rfl, rfl, hc2, fun x hx => (hlpos x hx).1, hpos, q _ _ s1 ?_⟩
    rw [ech, if_neg hz, if_neg he, et]
    exact .int _
end
end Sv
end
section
set_option Elab.async false
set_option linter.all false
set_option maxRecDepth 100000
set_option maxHeartbeats 4000000
/-! The walk: check_letters, stop_length, next_text. -/
namespace Sv
open PySem PySem.Spec PyProof.Rows L2
/-! ### cuts, equal vectors -/
theorem cut_drop (xs : List V) (n : Nat) : cutV xs (some (n : Int)) none = xs.drop n := by
  unfold cutV
  rw [HT.sIx_nat, HT.sIx_none]
  by_cases h : n ≤ xs.length
  · rw [Nat.min_eq_left h, List.take_of_length_le (by rw [List.length_drop]; omega)]
  · rw [Nat.min_eq_right (by omega), List.drop_of_length_le (show xs.length ≤ n by omega)]; simp
theorem cut_take (xs : List V) (n : Nat) : cutV xs none (some (n : Int)) = xs.take n := by
  unfold cutV
  rw [HT.sIx_nat, HT.sIx_none, List.drop_zero, Nat.sub_zero]
  by_cases h : n ≤ xs.length
  · rw [Nat.min_eq_left h]
  · rw [Nat.min_eq_right (by omega), List.take_of_length_le (Nat.le_refl _), List.take_of_length_le (by omega)]
theorem cut_all {xs : List V} {lo hi : Option Int} (h : HT.sIx xs.length 0 lo = 0 ∧ HT.sIx xs.length xs.length hi = xs.length) : cutV xs lo hi = xs := by
  unfold cutV
  rw [h.1, h.2, List.drop_zero, Nat.sub_zero, List.take_length]
theorem slA_at {K : PySem.W.Frag} {H : Hp} {a : Addr} {xs : List V} {lo hi : Option Int} {Q : VK} (ha : H a = some (.tup xs)) (q : ∀ H' c, Same H H' → H' c = some (.tup (cutV xs lo hi)) → Q (.ref c) H') : rSlA K (.ref a) lo hi H Q :=
  ⟨a, xs, rfl, SqT.of ha, fun h => q _ _ (Same.refl _) (by rw [cut_all h]; exact ha), fun _ p hp => q _ _ (same_new hp) upd_same⟩
theorem eqvAll_ints : ∀ a b : List Int, PyData.eqvAll (a.map PyData.int) (b.map PyData.int) = decide (a = b)
  | [], [] => by simp [PyData.eqvAll]
  | [], _ :: _ => by simp [PyData.eqvAll]
  | _ :: _, [] => by simp [PyData.eqvAll]
  | a :: r, b :: t => by
    simp only [List.map_cons, PyData.eqvAll, PyData.eqv, eqvAll_ints r t]
    by_cases h : a = b <;> by_cases h' : r = t <;> simp [h, h']
theorem eqv_vec (a b : List Int) : PyData.eqv (dVec a) (dVec b) = decide (a = b) := by
  unfold dVec
  simp only [PyData.eqv]
  exact eqvAll_ints a b
theorem layAll_ints : ∀ ns : List Int, PyData.canLayAll0 (ns.map PyData.int) = true
  | [] => rfl
  | _ :: r => by simp [PyData.canLayAll0, PyData.canLay0, layAll_ints r]
theorem depthAll_ints : ∀ ns : List Int, PyData.depthAll (ns.map PyData.int) = 0
  | [] => rfl
  | _ :: r => by simp [PyData.depthAll, PyData.depth, depthAll_ints r]
theorem shaped_vec (ns : List Int) : SeqAt.shaped (dVec ns) = true := by
  simp [dVec, SeqAt.shaped, PyData.canLay0, PyData.depth, layAll_ints, depthAll_ints]
theorem eqD_vec {K : PySem.W.Frag} {H : Hp} {x y : V} {a b : List Int} {Q : VK} (hx : At H x (dVec a)) (hy : At H y (dVec b)) (q : Q (.bl (decide (a = b))) H) : rEqD K x y H Q :=
  ⟨_, _, At.dp _ _ hx, At.dp _ _ hy, shaped_vec _, shaped_vec _, by rw [eqv_vec]; exact q⟩
theorem neD_vec {K : PySem.W.Frag} {H : Hp} {x y : V} {a b : List Int} {Q : VK} (hx : At H x (dVec a)) (hy : At H y (dVec b)) (q : Q (.bl (!decide (a = b))) H) : rNeD K x y H Q :=
  ⟨_, _, At.dp _ _ hx, At.dp _ _ hy, shaped_vec _, shaped_vec _, by rw [eqv_vec]; exact q⟩
def wdS : Wd → Str
  | .stuck => "stuck"
  | .fin => "end"
  | .stop => "stop"
  | .most => "most"
def dWd : Option Wd → PyData
  | none => .none
  | some x => .str (wdS x)
def vWd : Option Wd → V
  | none => .non
  | some x => .str (wdS x)
theorem at_wd {H : Hp} : ∀ x : Option Wd, At H (vWd x) (dWd x)
  | none => .non
  | some _ => .str _
theorem At.wdI {H : Hp} {v : V} : ∀ {x : Option Wd}, At H v (dWd x) → v = vWd x
  | none, h => h.nonI
  | some _, h => h.strI
/-! ### promises -/
def p_check_letters (K : PySem.W.Frag) : P3 := fun a b c H Q => ∃ (p q e : Addr) (M : NetM) (k : AskM) (L : Nat), a = .ref p ∧ b = .ref q ∧ c = .ref e ∧ NetAt K H p M ∧ M.embed.length = L ∧ AskAt K H q k ∧ (∀ x ∈ k.prompt, 0 ≤ x ∧ x < L) ∧ (∀ s ∈ k.stops, ∀ x ∈ s, 0 ≤ x ∧ x < L) ∧ k.stops.length ≤ 100 ∧ H e = some (.tup []) ∧
  ∀ H', Same H H' → Q .non H'
def p_stop_length : P2 := fun a b H Q => ∃ (q : Addr) (stops : List (List Int)) (t : List Int), At H a (dMat stops) ∧ b = .ref q ∧ H q = some (.tup (t.map V.int)) ∧ ∀ H', Same H H' → Q (.int (stopM stops t : Nat)) H'
def p_next_text (K : PySem.W.Frag) : P4 := fun a b c d H Q => ∃ (p q c1 c2 : Addr) (M : NetM) (k : AskM) (L : Nat) (t ws : List Int), a = .ref p ∧ b = .ref q ∧ c = .ref c1 ∧ d = .ref c2 ∧ NetAt K H p M ∧ AskAt K H q k ∧ AskOk k L ∧ ws.length = L ∧ L ≤ 1000 ∧
  H c2 = some (.tup (ws.map V.int)) ∧ (∀ x ∈ ws, 1 ≤ x ∧ x ≤ 97) ∧ H c1 = some (.tup (t.map V.int)) ∧ (∀ x ∈ t, 0 ≤ x ∧ x < L) ∧ t.length ≤ 400 ∧
  ∀ H' c, Same H H' → At H' (.ref c) (.tuple [dVec (nextM M.fin k t ws).1, dWd (nextM M.fin k t ws).2]) → Q (.ref c) H'
section
variable {P : Program} {w : World} {K : PySem.W.Frag} {mg : Str → Option Value} {base : Heap}
abbrev N_check_letters : List Str := ["net", "ask", "begun", "row", "letter"]
theorem sc_check_letters : FnScope N_check_letters ["net", "ask", "begun"] (defScope s_check_letters) := ⟨rfl, rfl, rfl, by decide +kernel, rfl, by decide +kernel, by decide +kernel⟩
theorem ok_check_letters (T : Txt K mg) : GFn P w K mg base 3 "check_letters" ["net", "ask", "begun"] (Sp3 (p_check_letters K)) := by
  refine gfn T.d_check_letters T.g_check_letters sc_check_letters (fun _ _ _ _ _ _ us hl => match us, hl with | [_, _, _], _ => rfl) len3 fun cdv A outer s H vs Q E hr h => ?_
  obtain ⟨a0, a1, a2, rfl, p, b, e, M, k, L, rfl, rfl, rfl, N, hML, ha, hpr, hst, hsl, he, q⟩ := h
  refine ⟨_, pss_one (ps_for PassesOwn.never rfl (pi_tup (pe_op op_catA (pe_op op_catA (pe_tup (pa_cons (pe_fld (pv 1) rfl) pa_nil)) (pe_fld (pv 1) rfl)) (pe_tup (pa_cons (pe_callTy call_tuple_of (by rfl) T.b_tuple (by decide +kernel) (pa_cons (pv 2) pa_nil)) pa_nil)))) (pg_name (i := 3) sc_check_letters.nd rfl (Or.inl rfl))
      (pss_one (ps_for PassesOwn.never rfl (pi_tup (pv 3)) (pg_name (i := 4) sc_check_letters.nd rfl (Or.inl rfl))
      (pss_one (ps_if (pt_not (pt_val (pe_m (ok_Net_is_letter T) T.cl_Net (hr.mono (by decide)) (pv 0) (pa_cons (pv 4) pa_nil)))) (pss_one (ps_never)) (pss_nil)))))), ?_⟩
  obtain ⟨ndx, ve, vs, vl, vo, vf, hn, _⟩ := id N.ex
  obtain ⟨dx, v1, v2, v3, v4, hp, h1, h2, h3, h4⟩ := id ha.ex
  obtain ⟨c2, xs, rfl, hc2, r2⟩ := id h2.matI
  refine ⟨_, rfl, b, _, dx, _, _, rfl, hp, T.cl_Ask, T.n_Ask_prompt, rfl, ll1, fun e1 he1 => ?_⟩
  obtain ⟨s1, g1⟩ := gen_new (o := .tup [v1]) he1 rfl
  refine ⟨_, rfl, b, _, dx, _, _, rfl, s1 _ _ hp, T.cl_Ask, T.n_Ask_stops, rfl, ?_⟩
  have hlen := r2.len
  rw [List.length_map] at hlen
  refine catA_at (K := K) g1 (s1 _ _ hc2) (by show 1 + _ ≤ 1000; omega) fun H2 e2 s2 g2 => ?_
  refine ⟨_, rfl, e, _, rfl, .inr ⟨SqT.of (s2 _ _ (s1 _ _ he)), ll1, fun e3 he3 => ?_⟩⟩
  obtain ⟨s3, g3⟩ := gen_new (o := .tup [V.ref e]) he3 rfl
  refine catA_at (K := K) (s3 _ _ g2) g3 (by simp; omega) fun H4 e4 s4 g4 => ?_
  have s5 := s1.trans (s2.trans (s3.trans s4))
  have hall : AtAll H4 ([v1] ++ xs ++ [V.ref e]) (([k.prompt] ++ k.stops ++ [[]]).map dVec) := by
    rw [List.map_append, List.map_append]
    exact (AtAll.app (.cons (h1.up s5.tups) .nil) (r2.up s5.tups)).app (.cons (at_vec (ns := []) (s5 _ _ he)) .nil)
  have hin : ∀ r ∈ [k.prompt] ++ k.stops ++ [[]], ∀ x ∈ r, 0 ≤ x ∧ x < (L : Int) := fun r hr => by
    rcases List.mem_append.mp hr with hr | hr
    · rcases List.mem_append.mp hr with hr | hr
      · rw [List.mem_singleton.mp hr]; exact hpr
      · exact hst r hr
    · rw [List.mem_singleton.mp hr]; intro x hx; cases hx
  refine ⟨e4, rfl, ⟨_, SqT.of g4⟩, for_tup (K := K) (a := e4) (xs := [v1] ++ xs ++ [V.ref e]) (fun i σ H' => ∃ v3 v4, σ = [some (.ref p), some (.ref b), some (.ref e), v3, v4] ∧ Same H4 H')
    ⟨none, none, rfl, Same.refl _⟩ (fun i σ H' _ I => ?_) (fun i x σ H' hx I => ?_) fun σ H' I => ?_⟩
  · obtain ⟨_, _, _, s⟩ := I
    exact SqT.of (s _ _ g4)
  · obtain ⟨v3, v4, rfl, s⟩ := I
    obtain ⟨d, hd, hx'⟩ := hall.get hx
    obtain ⟨r, er, rfl⟩ := map_get hd
    obtain ⟨c3, rfl, hc3⟩ := (hx'.up s.tups).vecI
    have hr := hin r (List.mem_of_getElem? er)
    refine ⟨_, rfl, c3, rfl, ⟨_, SqT.of hc3⟩, for_tup (K := K) (a := c3) (xs := r.map V.int) (fun i σ H2 => ∃ v4, σ = [some (.ref p), some (.ref b), some (.ref e), some (.ref c3), v4] ∧ Same H' H2)
      ⟨v4, rfl, Same.refl _⟩ (fun i σ H' _ I => ?_) (fun i x σ H2 hx I => ?_) fun σ H2 I => ?_⟩
    · obtain ⟨_, _, s⟩ := I
      exact SqT.of (s _ _ hc3)
    · obtain ⟨v4, rfl, s2⟩ := I
      obtain ⟨l, el, rfl⟩ := map_get hx
      have hl := hr l (List.mem_of_getElem? el)
      have s6 := s5.trans (s.trans s2)
      have hdec : decide (0 ≤ l ∧ l ≤ (M.embed.length : Int) - 1) = true := by rw [hML]; simp; omega
      refine ⟨_, rfl, p, ndx, _, rfl, s6 _ _ hn, rfl, _, rfl, _, _, rfl, p, M, l, rfl, rfl, N.up s6, ?_⟩
      rw [hdec]
      exact ⟨true, rfl, _, rfl, s2⟩
    · obtain ⟨v4, rfl, s2⟩ := I
      exact ⟨_, _, rfl, s.trans s2⟩
  · obtain ⟨v3, v4, rfl, s⟩ := I
    exact q _ (s5.trans s)
abbrev N_stop_length : List Str := ["stops", "text", "most", "stop"]
theorem sc_stop_length : FnScope N_stop_length ["stops", "text"] (defScope s_stop_length) := ⟨rfl, rfl, rfl, by decide +kernel, rfl, by decide +kernel, by decide +kernel⟩
theorem ok_stop_length (T : Txt K mg) : GFn P w K mg base 1 "stop_length" ["stops", "text"] (Sp2 p_stop_length) := by
  refine gfn T.d_stop_length T.g_stop_length sc_stop_length (fun _ _ _ _ _ _ us hl => match us, hl with | [_, _], _ => rfl) len2 fun cdv A outer s H vs Q E hr h => ?_
  obtain ⟨a0, a1, rfl, c, stops, t, hs, rfl, hc, q⟩ := h
  refine ⟨_, pss_cons (ps_set (i := 2) sc_stop_length.nd rfl (Or.inl rfl) (pe_int))
      (pss_cons (ps_for PassesOwn.never rfl (pi_tup (pv 0)) (pg_name (i := 3) sc_stop_length.nd rfl (Or.inl rfl))
      (pss_one (ps_if (PW.pt (pw_and (pt_chain op_lt op_le (pv 2) (pe_callB call_len_seq (by rfl) T.b_len PySem.boot_len (pa_cons (pv 3) pa_nil)) (pe_callB call_len_seq (by rfl) T.b_len PySem.boot_len (pa_cons (pv 1) pa_nil))) (pw_and1 (pt_cmpR (op_eqD hr.units) (pe_slice sl_tupA (pv 1) (po_some (pe_op op_sub (pe_callB call_len_seq (by rfl) T.b_len PySem.boot_len (pa_cons (pv 1) pa_nil)) (pe_callB call_len_seq (by rfl) T.b_len PySem.boot_len (pa_cons (pv 3) pa_nil)))) po_none) (pv 3) (nomark _))))) (pss_one (ps_set (i := 2) sc_stop_length.nd rfl (Or.inl rfl) (pe_callB call_len_seq (by rfl) T.b_len PySem.boot_len (pa_cons (pv 3) pa_nil)))) (pss_nil))))
      (pss_one (ps_ret (pv 2)))), ?_⟩
  obtain ⟨c2, xs, rfl, hc2, r2⟩ := id hs.matI
  refine ⟨_, rfl, c2, rfl, ⟨_, SqT.of hc2⟩, for_tup (K := K) (a := c2) (xs := xs) (fun i σ H' => ∃ v3, σ = [some (.ref c2), some (.ref c), some (.int (stopM (stops.take i) t : Nat)), v3] ∧ Same H H')
    ⟨none, rfl, Same.refl H⟩ (fun i σ H' _ I => ?_) (fun i x σ H' hx I => ?_) fun σ H' I => ?_⟩
  · obtain ⟨_, _, s⟩ := I
    exact SqT.of (s _ _ hc2)
  · obtain ⟨v3, rfl, s⟩ := I
    obtain ⟨d, hd, hx'⟩ := r2.get hx
    obtain ⟨st, est, rfl⟩ := map_get hd
    obtain ⟨c3, rfl, hc3⟩ := (hx'.up s.tups).vecI
    refine ⟨_, rfl, _, rfl, c3, _, rfl, .inr (SqT.of hc3), _, _, rfl, rfl, _, rfl, ?_⟩
    have hct := s _ _ hc
    have estep : stopM (stops.take (i + 1)) t = if stopM (stops.take i) t < st.length ∧ st.length ≤ t.length ∧ t.drop (t.length - st.length) = st then st.length else stopM (stops.take i) t := by
      rw [take_snoc est]
      unfold stopM
      rw [List.foldl_append]
      rfl
    by_cases b1 : ((stopM (stops.take i) t : Nat) : Int) < (((st.map V.int).length : Nat) : Int)
    · rw [decide_eq_true b1]
      refine ⟨_, rfl, c, _, rfl, .inr (SqT.of hct), _, _, rfl, rfl, _, rfl, ?_⟩
      by_cases b2 : (((st.map V.int).length : Nat) : Int) ≤ (((t.map V.int).length : Nat) : Int)
      · rw [decide_eq_true b2]
        refine ⟨_, rfl, _, rfl, c, _, rfl, .inr (SqT.of hct), _, rfl, c3, _, rfl, .inr (SqT.of hc3), _, _, rfl, rfl, ?_⟩
        have elo : (((t.map V.int).length : Nat) : Int) - (((st.map V.int).length : Nat) : Int) = ((t.length - st.length : Nat) : Int) := by
          rw [List.length_map, List.length_map] at b2 ⊢
          omega
        refine ⟨_, congrArg V.int elo, ?_⟩
        dsimp only [tNoPart]
        refine slA_at (K := K) hct fun H2 c4 s2 hc4 => ?_
        rw [cut_drop, ← List.map_drop] at hc4
        refine ⟨_, rfl, eqD_vec (at_vec hc4) (at_vec (s2 _ _ hc3)) ?_⟩
        rw [List.length_map, List.length_map] at b2
        rw [List.length_map] at b1
        refine ⟨_, rfl, ?_⟩
        by_cases b3 : t.drop (t.length - st.length) = st
        · rw [decide_eq_true b3]
          refine ⟨_, rfl, c3, _, rfl, .inr (SqT.of (s2 _ _ hc3)), some (.ref c3), ?_, s.trans s2⟩
          rw [estep, if_pos ⟨by omega, by omega, b3⟩, List.length_map]
          rfl
        · rw [decide_eq_false b3]
          refine ⟨some (.ref c3), ?_, s.trans s2⟩
          rw [estep, if_neg (fun h => b3 h.2.2)]
          rfl
      · rw [decide_eq_false b2]
        refine ⟨some (.ref c3), ?_, s⟩
        rw [List.length_map, List.length_map] at b2
        rw [estep, if_neg (by omega)]
        rfl
    · rw [decide_eq_false b1]
      refine ⟨_, rfl, some (.ref c3), ?_, s⟩
      rw [List.length_map] at b1
      rw [estep, if_neg (by omega)]
      rfl
  · obtain ⟨v3, rfl, s⟩ := I
    refine ⟨_, rfl, ?_⟩
    rw [r2.len, List.length_map, List.take_length]
    exact q _ s
abbrev N_next_text : List Str := ["net", "ask", "text", "weights", "letter", "length"]
theorem sc_next_text : FnScope N_next_text ["net", "ask", "text", "weights"] (defScope s_next_text) := ⟨rfl, rfl, rfl, by decide +kernel, rfl, by decide +kernel, by decide +kernel⟩
theorem ok_next_text (T : Txt K mg) : GFn P w K mg base 5 "next_text" ["net", "ask", "text", "weights"] (Sp4 (p_next_text K)) := by
  refine gfn T.d_next_text T.g_next_text sc_next_text (fun _ _ _ _ _ _ us hl => match us, hl with | [_, _, _, _], _ => rfl) len4 fun cdv A outer s H vs Q E hr h => ?_
  obtain ⟨a0, a1, a2, a3, rfl, p, b, c1, c2, M, k, L, t, ws, rfl, rfl, rfl, rfl, N, ha, ok, hwl, hL, hc2, hws, hc1, ht, htl, q⟩ := h
  refine ⟨_, pss_cons (ps_set (i := 4) sc_next_text.nd rfl (Or.inl rfl) (pe_m (ok_Ask_choice T) T.cl_Ask (hr.mono (by decide)) (pv 1) (pa_cons (pv 3) (pa_cons (pv 2) pa_nil))))
      (pss_cons (ps_if (pt_cmp (pc_isN (pv 4))) (pss_one (ps_ret (pe_tup (pa_cons (pv 2) (pa_cons (pe_str) pa_nil))))) (pss_nil))
      (pss_cons (ps_if (pt_cmpR op_eq (pv 4) (pe_fld (pv 0) rfl) (nomark _)) (pss_one (ps_ret (pe_tup (pa_cons (pv 2) (pa_cons (pe_str) pa_nil))))) (pss_nil))
      (pss_cons (ps_set (i := 2) sc_next_text.nd rfl (Or.inl rfl) (pe_op op_catA (pv 2) (pe_tup (pa_cons (pv 4) pa_nil))))
      (pss_cons (ps_set (i := 5) sc_next_text.nd rfl (Or.inl rfl) (pe_g (ok_stop_length T) (hr.mono (by decide)) (pa_cons (pe_fld (pv 1) rfl) (pa_cons (pv 2) pa_nil))))
      (pss_cons (ps_if (pt_cmpR op_gt (pv 5) (pe_int) (nomark _)) (pss_one (ps_ret (pe_tup (pa_cons (pe_slice sl_tupA (pv 2) po_none (po_some (pe_op op_sub (pe_callB call_len_seq (by rfl) T.b_len PySem.boot_len (pa_cons (pv 2) pa_nil)) (pv 5)))) (pa_cons (pe_str) pa_nil))))) (pss_nil))
      (pss_one (ps_ret (pe_tup (pa_cons (pv 2) (pa_cons (pe_ifExp (pt_cmpR op_eq (pe_callB call_len_seq (by rfl) T.b_len PySem.boot_len (pa_cons (pv 2) pa_nil)) (pe_fld (pv 1) rfl) (nomark _)) (pe_str) (pe_non)) pa_nil)))))))))), ?_⟩
  obtain ⟨ndx, ve, vs, vl, vo, vf, hn, _, _, _, _, hfin⟩ := id N.ex
  obtain ⟨dx, v1, v2, v3, v4, hp, h1, h2, h3, h4⟩ := id ha.ex
  refine ⟨_, rfl, b, dx, _, rfl, hp, rfl, _, rfl, _, rfl, _, _, _, rfl, b, c2, c1, k, L, ws, t, rfl, rfl, rfl, ha, ok.rule, hwl, hL, hc2, hws, hc1, ht, by omega, fun H1 v s1 hv => ?_⟩
  have hl1 := fun c => choiceM_in (a := k) (t := t) (c := c) hwl hws
  have hnd : ∀ x, choiceM k ws t = x → nextM M.fin k t ws = match x with
      | none => (t, some .stuck)
      | some l => if some l = M.fin then (t, some .fin) else
        if 0 < stopM k.stops (t ++ [l]) then ((t ++ [l]).take ((t ++ [l]).length - stopM k.stops (t ++ [l])), some .stop)
        else (t ++ [l], if ((t ++ [l]).length : Int) = k.most then some .most else none) := fun x e => by rw [← e]; rfl
  rcases dOpt_cases hv with ⟨e, rfl⟩ | ⟨l, e, rfl⟩
  · refine ⟨_, rfl, _, rfl, ?_⟩
    refine ⟨_, rfl, ll2, fun e1 he1 => q _ _ (s1.trans (same_new he1)) ?_⟩
    rw [hnd _ e]
    exact at_tup upd_same (.cons (At.up (at_vec (s1 _ _ hc1)) (same_new he1).tups) (.cons (.str _) .nil))
  refine ⟨_, rfl, _, rfl, ?_⟩
  have hl := hl1 _ e
  refine ⟨_, rfl, _, rfl, p, _, ndx, _, _, rfl, s1 _ _ hn, T.cl_Net, T.n_Net_end, rfl, ?_⟩
  have hsc : scal (.int l) vf = true := by rcases dOpt_cases hfin with ⟨ef, rfl⟩ | ⟨fi, ef, rfl⟩ <;> rfl
  refine ⟨hsc, _, rfl, ?_⟩
  by_cases hf : some l = M.fin
  · have hlf : V.int l = vf := by rw [← hf] at hfin; exact hfin.intI.symm
    rw [dec_t hlf]
    refine ⟨_, rfl, ll2, fun e1 he1 => q _ _ (s1.trans (same_new he1)) ?_⟩
    rw [hnd _ e]
    dsimp only
    rw [if_pos hf]
    exact at_tup upd_same (.cons (At.up (at_vec (s1 _ _ hc1)) (same_new he1).tups) (.cons (.str _) .nil))
  have hlf : V.int l ≠ vf := fun z => by
    rcases dOpt_cases hfin with ⟨ef, rfl⟩ | ⟨fi, ef, rfl⟩
    · cases z
    · cases z; exact hf ef.symm
  rw [dec_f hlf]
  have hn2 := hnd _ e
  dsimp only at hn2
  rw [if_neg hf] at hn2
  refine ⟨_, rfl, _, rfl, ll1, fun e2 he2 => ?_⟩
  obtain ⟨s2, g2⟩ := gen_new (o := .tup [V.int l]) he2 rfl
  have s3 := s1.trans s2
  refine catA_at (K := K) (s3 _ _ hc1) g2 (by rw [List.length_map]; show _ + 1 ≤ 1000; omega) fun H3 c3 s4 hc3 => ?_
  have s5 := s3.trans s4
  have hc3' : H3 c3 = some (.tup ((t ++ [l]).map V.int)) := by rw [hc3, List.map_append]; rfl
  refine ⟨_, rfl, b, _, dx, _, _, rfl, s5 _ _ hp, T.cl_Ask, T.n_Ask_stops, rfl, _, rfl, ?_⟩
  refine ⟨_, _, rfl, c3, k.stops, t ++ [l], h2.up s5.tups, rfl, hc3', fun H4 s6 => ?_⟩
  have s7 := s5.trans s6
  refine ⟨_, rfl, _, _, rfl, rfl, _, rfl, ?_⟩
  by_cases hz : ((stopM k.stops (t ++ [l]) : Nat) : Int) > 0
  · rw [decide_eq_true hz]
    rw [if_pos (by omega)] at hn2
    have hsl : stopM k.stops (t ++ [l]) ≤ (t ++ [l]).length := stopM_le _ _
    refine ⟨_, rfl, _, rfl, c3, _, rfl, .inr (SqT.of (s6 _ _ hc3')), _, rfl, _, _, rfl, rfl, ?_⟩
    have elo : ((((t ++ [l]).map V.int).length : Nat) : Int) - ((stopM k.stops (t ++ [l]) : Nat) : Int) = (((t ++ [l]).length - stopM k.stops (t ++ [l]) : Nat) : Int) := by
      rw [List.length_map]
      omega
    refine ⟨_, congrArg V.int elo, ?_⟩
    refine slA_at (K := K) (s6 _ _ hc3') fun H5 c5 s8 hc5 => ?_
    rw [cut_take, ← List.map_take] at hc5
    refine ⟨ll2, fun e1 he1 => q _ _ (s7.trans (s8.trans (same_new he1))) ?_⟩
    rw [hn2]
    exact at_tup upd_same (.cons (At.up (at_vec hc5) (same_new he1).tups) (.cons (.str _) .nil))
  · rw [decide_eq_false hz]
    rw [if_neg (by omega)] at hn2
    refine ⟨_, rfl, _, rfl, c3, _, rfl, .inr (SqT.of (s6 _ _ hc3')), _, rfl, b, _, dx, _, _, rfl, s7 _ _ hp, T.cl_Ask, T.n_Ask_most, rfl, rfl, _, rfl, ?_⟩
    by_cases hm : ((t ++ [l]).length : Int) = k.most
    · rw [dec_t (show V.int ((((t ++ [l]).map V.int).length : Nat) : Int) = V.int k.most by rw [List.length_map, hm])]
      rw [if_pos hm] at hn2
      refine ⟨ll2, fun e1 he1 => q _ _ (s7.trans (same_new he1)) ?_⟩
      rw [hn2]
      exact at_tup upd_same (.cons (At.up (at_vec (s6 _ _ hc3')) (same_new he1).tups) (.cons (.str _) .nil))
    · rw [dec_f (show V.int ((((t ++ [l]).map V.int).length : Nat) : Int) ≠ V.int k.most from fun z => hm (by have := V.int.inj z; rw [List.length_map] at this; exact this))]
      rw [if_neg hm] at hn2
      refine ⟨ll2, fun e1 he1 => q _ _ (s7.trans (same_new he1)) ?_⟩
      rw [hn2]
      exact at_tup upd_same (.cons (At.up (at_vec (s6 _ _ hc3')) (same_new he1).tups) (.cons .non .nil))
end
end Sv
end
section
set_option Elab.async false
set_option linter.all false
set_option maxRecDepth 100000
set_option maxHeartbeats 4000000
/-! The walk: Store.* (calm). -/
namespace Sv
open PySem PySem.Spec PyProof.Rows L2
structure StoreM where
  many : Nat
  size : Nat
  cts : List Nat
  kept : List (List RowM)
def vN (n : Nat) : V := .int n
def dRows (rs : List RowM) : PyData := .tuple (rs.map dRow)
structure StoreAt (K : PySem.W.Frag) (H : Hp) (p ca ka : Addr) (S : StoreM) : Prop where
  ex : ∃ dx ks, H p = some (.ins (He.ga K "Store") dx [("many", .int S.many), ("size", .int S.size), ("counts", .ref ca), ("kept", .ref ka)]) ∧ H ca = some (.lst (S.cts.map vN)) ∧ H ka = some (.lst ks) ∧ AtAll H ks (S.kept.map dRows)
  ne : ca ≠ ka
  l1 : S.cts.length = S.many
  l2 : S.kept.length = S.many
  m0 : 1 ≤ S.many
  m1 : S.many ≤ 60
  s0 : 1 ≤ S.size
  s1 : S.size ≤ 8
  k1 : ∀ r ∈ S.kept, r.length ≤ S.size
theorem StoreAt.keep {K : PySem.W.Frag} {H H' : Hp} {p ca ka : Addr} {S : StoreM} {F : List Addr} (h : StoreAt K H p ca ka S) (f : Fr F H H') (n1 : ca ∉ F) (n2 : ka ∉ F) : StoreAt K H' p ca ka S := by
  obtain ⟨⟨dx, ks, h1, h2, h3, h4⟩, a, b, c, d⟩ := h
  exact ⟨⟨dx, ks, f.t _ _ rfl h1, f.k _ _ n1 h2, f.k _ _ n2 h3, h4.up f.t⟩, a, b, c, d, ‹_›, ‹_›, ‹_›, ‹_›⟩
theorem StoreAt.up {K : PySem.W.Frag} {H H' : Hp} {p ca ka : Addr} {S : StoreM} (h : StoreAt K H p ca ka S) (s : Same H H') : StoreAt K H' p ca ka S := h.keep (F := []) (Fr.same s) (by simp) (by simp)
theorem ixN_of {n j : Nat} (h : j < n) : ixN n (j : Int) = some j := by
  unfold ixN
  rw [if_pos (by omega)]
  simp [h]
def StoreM.setC (S : StoreM) (b c : Nat) : StoreM := { S with cts := S.cts.set b c }
def StoreM.setK (S : StoreM) (b : Nat) (r : List RowM) : StoreM := { S with kept := S.kept.set b r }
theorem StoreAt.setC {K : PySem.W.Frag} {H : Hp} {p ca ka : Addr} {S : StoreM} (h : StoreAt K H p ca ka S) (b c : Nat) : ∀ H', L2.upd H ca (.lst ((S.cts.map vN).set b (vN c))) = H' → Fr [ca, ka] H H' ∧ StoreAt K H' p ca ka (S.setC b c) := by
  obtain ⟨⟨dx, ks, h1, h2, h3, h4⟩, h5, h6, h7, h8⟩ := h
  intro H' e
  obtain ⟨f, g⟩ := gen_lst [ca, ka] h2 e (.head _)
  refine ⟨f, ⟨dx, ks, f.t _ _ rfl h1, by rw [g]; show _ = some (HO.lst ((S.cts.set b c).map vN)); rw [List.map_set], ?_, h4.up f.t⟩, h5, by show (S.cts.set b c).length = _; rw [List.length_set]; exact h6, h7, h8, ‹_›, ‹_›, ‹_›, ‹_›⟩
  rw [← e, upd_ne h5.symm]
  exact h3
theorem AtAll.set {H : Hp} : ∀ {vs : List V} {ds : List PyData} {i : Nat} {v : V} {d : PyData}, AtAll H vs ds → At H v d → AtAll H (vs.set i v) (ds.set i d)
  | _, _, _, _, _, .nil, _ => .nil
  | _, _, 0, _, _, .cons _ r, q => .cons q r
  | _, _, i + 1, _, _, .cons h r, q => .cons h (r.set q)
theorem StoreAt.setK {K : PySem.W.Frag} {H : Hp} {p ca ka : Addr} {S : StoreM} (h : StoreAt K H p ca ka S) (b : Nat) (r : List RowM) {v : V} (hv : At H v (dRows r)) (hr : r.length ≤ S.size) : ∀ ks, H ka = some (.lst ks) → ∀ H', L2.upd H ka (.lst (ks.set b v)) = H' → Fr [ca, ka] H H' ∧ StoreAt K H' p ca ka (S.setK b r) := by
  obtain ⟨⟨dx, ks, h1, h2, h3, h4⟩, h5, h6, h7, h8⟩ := h
  intro ks' e' H' e
  rw [h3] at e'
  cases e'
  obtain ⟨f, g⟩ := gen_lst [ca, ka] h3 e (by simp)
  refine ⟨f, ⟨dx, _, f.t _ _ rfl h1, ?_, g, ?_⟩, h5, h6, by show (S.kept.set b r).length = _; rw [List.length_set]; exact h7, h8, ‹_›, ‹_›, ‹_›, fun x hx => ?_⟩
  · rw [← e, upd_ne h5]
    exact h2
  · show AtAll _ _ ((S.kept.set b r).map dRows)
    rw [List.map_set]
    exact (h4.set hv).up f.t
  · rcases List.mem_or_eq_of_mem_set hx with h | h
    · exact ‹∀ r ∈ S.kept, r.length ≤ S.size› x h
    · rw [h]; exact hr
/-! ### promises -/
def p_Store_init (K : PySem.W.Frag) : P3 := fun a b c H Q => ∃ (p dx : Addr) (m s : Nat), a = .ref p ∧ H p = some (.ins (He.ga K "Store") dx []) ∧ b = .int m ∧ c = .int s ∧ 1 ≤ m ∧ m ≤ 60 ∧ 1 ≤ s ∧ s ≤ 8 ∧
  ∀ H' ca ka, Fr [p] H H' → H ca = none → H ka = none → StoreAt K H' p ca ka ⟨m, s, List.replicate m 0, List.replicate m []⟩ → Q .non H'
/-- what reads one block -/
def pBlk (K : PySem.W.Frag) (c : StoreM → Nat → Nat → Prop) (q : Addr → Addr → Addr → StoreM → Nat → Nat → Hp → VK → Prop) : P2 := fun x y H Q => ∃ (p ca ka : Addr) (S : StoreM) (b n : Nat), x = .ref p ∧ y = .int b ∧ StoreAt K H p ca ka S ∧ S.cts[b]? = some n ∧ c S b n ∧ q p ca ka S b n H Q
def p_Store_check_held (K : PySem.W.Frag) : P2 := pBlk K (fun _ _ n => 0 < n) fun _ _ _ _ _ _ H Q => Q .non H
def p_Store_check_alone (K : PySem.W.Frag) : P2 := pBlk K (fun _ _ n => n = 1) fun _ _ _ _ _ _ H Q => Q .non H
def p_Store_holders (K : PySem.W.Frag) : P2 := pBlk K (fun _ _ _ => True) fun _ _ _ _ _ n H Q => Q (.int n) H
def p_Store_rows (K : PySem.W.Frag) : P2 := pBlk K (fun _ _ n => 0 < n) fun _ _ _ S b _ H Q => ∀ v, At H v (dRows (S.kept.getD b [])) → Q v H
def p_Store_hold (K : PySem.W.Frag) : P2 := pBlk K (fun _ _ n => 0 < n) fun p ca ka S b n H Q => ∀ H', Fr [ca, ka] H H' → StoreAt K H' p ca ka (S.setC b (n + 1)) → Q .non H'
/-- the store behind a release -/
def StoreM.rel (S : StoreM) (b n : Nat) : StoreM := if n = 1 then (S.setC b 0).setK b [] else S.setC b (n - 1)
def p_Store_release (K : PySem.W.Frag) : P2 := pBlk K (fun _ _ n => 0 < n) fun p ca ka S b n H Q => ∀ H', Fr [ca, ka] H H' → StoreAt K H' p ca ka (S.rel b n) → Q .non H'
def p_Store_put_row (K : PySem.W.Frag) : P3 := fun x y z H Q => ∃ (p ca ka : Addr) (S : StoreM) (b : Nat) (r : RowM), x = .ref p ∧ y = .int b ∧ StoreAt K H p ca ka S ∧ S.cts[b]? = some 1 ∧ (S.kept.getD b []).length < S.size ∧ At H z (dRow r) ∧
  ∀ H', Fr [ca, ka] H H' → StoreAt K H' p ca ka (S.setK b (S.kept.getD b [] ++ [r])) → Q .non H'
def p_Store_shorten (K : PySem.W.Frag) : P3 := fun x y z H Q => ∃ (p ca ka : Addr) (S : StoreM) (b m : Nat), x = .ref p ∧ y = .int b ∧ z = .int m ∧ StoreAt K H p ca ka S ∧ S.cts[b]? = some 1 ∧ m ≤ (S.kept.getD b []).length ∧
  ∀ H', Fr [ca, ka] H H' → StoreAt K H' p ca ka (S.setK b ((S.kept.getD b []).take m)) → Q .non H'
section
variable {P : Program} {w : World} {K : PySem.W.Frag} {mg : Str → Option Value} {base : Heap}
abbrev N_Store_check_held : List Str := ["self", "block"]
theorem sc_Store_check_held : FnScope N_Store_check_held ["self", "block"] (defScope s_Store_check_held) := ⟨rfl, rfl, rfl, by decide +kernel, rfl, by decide +kernel, by decide +kernel⟩
theorem ok_Store_check_held (T : Txt K mg) : MFn P w K mg base 2 (He.ga K "Store") "check_held" ["self", "block"] (Sp2 (p_Store_check_held K)) := by
  refine mfn T.d_Store_check_held T.m_Store_check_held sc_Store_check_held (fun _ _ _ _ _ _ us hl => match us, hl with | [_, _], _ => rfl) len2 fun cdv A outer s H vs Q E hr h => ?_
  obtain ⟨a0, a1, rfl, p, ca, ka, S, b, n, rfl, rfl, st, hb, h0, q⟩ := h
  refine ⟨_, pss_one (ps_if (PW.pt (pw_or (pt_not (pt_val (pe_g (ok_is_between T) (hr.mono (by decide)) (pa_cons (pv 1) (pa_cons (pe_int) (pa_cons (pe_op op_sub (pe_fld (pv 0) rfl) (pe_int)) pa_nil)))))) (pw_or1 (pt_cmpR op_eq (pe_ix ix_list (pe_fld (pv 0) rfl) (pv 1) (fun _ _ => rfl)) (pe_int) (nomark _))))) (pss_one (ps_never)) (pss_nil)), ?_⟩
  obtain ⟨dx, ks, hp, hc, hk, hks⟩ := id st.ex
  have hlt := (List.getElem?_eq_some_iff.mp hb).1
  have hdec : decide ((0 : Int) ≤ (b : Int) ∧ (b : Int) ≤ (S.many : Int) - 1) = true := by rw [st.l1] at hlt; simp; omega
  refine ⟨_, rfl, _, rfl, p, _, dx, _, _, rfl, hp, T.cl_Store, T.n_Store_many, rfl, _, _, rfl, rfl, _, _, _, rfl, _, _, _, rfl, rfl, rfl, ?_⟩
  rw [hdec]
  refine ⟨true, rfl, _, rfl, p, _, dx, _, _, rfl, hp, T.cl_Store, T.n_Store_counts, rfl, _, rfl, ca, _, _, _, rfl, rfl, SqL.of hc, atI_nat (getMap hb), rfl, _, rfl, ?_⟩
  rw [dec_f (show vN n ≠ V.int 0 from fun z => by have := V.int.inj z; omega)]
  exact q
abbrev N_Store_check_alone : List Str := ["self", "block"]
theorem sc_Store_check_alone : FnScope N_Store_check_alone ["self", "block"] (defScope s_Store_check_alone) := ⟨rfl, rfl, rfl, by decide +kernel, rfl, by decide +kernel, by decide +kernel⟩
theorem ok_Store_check_alone (T : Txt K mg) : MFn P w K mg base 3 (He.ga K "Store") "check_alone" ["self", "block"] (Sp2 (p_Store_check_alone K)) := by
  refine mfn T.d_Store_check_alone T.m_Store_check_alone sc_Store_check_alone (fun _ _ _ _ _ _ us hl => match us, hl with | [_, _], _ => rfl) len2 fun cdv A outer s H vs Q E hr h => ?_
  obtain ⟨a0, a1, rfl, p, ca, ka, S, b, n, rfl, rfl, st, hb, rfl, q⟩ := h
  refine ⟨_, pss_cons (ps_expr (pe_m (ok_Store_check_held T) T.cl_Store (hr.mono (by decide)) (pv 0) (pa_cons (pv 1) pa_nil)))
      (pss_one (ps_if (pt_cmpR op_gt (pe_ix ix_list (pe_fld (pv 0) rfl) (pv 1) (fun _ _ => rfl)) (pe_int) (nomark _)) (pss_one (ps_never)) (pss_nil))), ?_⟩
  obtain ⟨dx, ks, hp, hc, hk, hks⟩ := id st.ex
  refine ⟨_, rfl, p, dx, _, rfl, hp, rfl, _, rfl, _, _, rfl, p, ca, ka, S, b, 1, rfl, rfl, st, hb, Nat.one_pos, ?_⟩
  exact ⟨_, rfl, p, _, dx, _, _, rfl, hp, T.cl_Store, T.n_Store_counts, rfl, _, rfl, ca, _, _, _, rfl, rfl, SqL.of hc, atI_nat (getMap hb), _, _, rfl, rfl, _, rfl, q⟩
abbrev N_Store_holders : List Str := ["self", "block"]
theorem sc_Store_holders : FnScope N_Store_holders ["self", "block"] (defScope s_Store_holders) := ⟨rfl, rfl, rfl, by decide +kernel, rfl, by decide +kernel, by decide +kernel⟩
theorem ok_Store_holders (T : Txt K mg) : MFn P w K mg base 2 (He.ga K "Store") "holders" ["self", "block"] (Sp2 (p_Store_holders K)) := by
  refine mfn T.d_Store_holders T.m_Store_holders sc_Store_holders (fun _ _ _ _ _ _ us hl => match us, hl with | [_, _], _ => rfl) len2 fun cdv A outer s H vs Q E hr h => ?_
  obtain ⟨a0, a1, rfl, p, ca, ka, S, b, n, rfl, rfl, st, hb, _, q⟩ := h
  refine ⟨_, pss_cons (ps_if (pt_not (pt_val (pe_g (ok_is_between T) (hr.mono (by decide)) (pa_cons (pv 1) (pa_cons (pe_int) (pa_cons (pe_op op_sub (pe_fld (pv 0) rfl) (pe_int)) pa_nil)))))) (pss_one (ps_never)) (pss_nil))
      (pss_one (ps_ret (pe_ix ix_list (pe_fld (pv 0) rfl) (pv 1) (fun _ _ => rfl)))), ?_⟩
  obtain ⟨dx, ks, hp, hc, hk, hks⟩ := id st.ex
  have hlt := (List.getElem?_eq_some_iff.mp hb).1
  have hdec : decide ((0 : Int) ≤ (b : Int) ∧ (b : Int) ≤ (S.many : Int) - 1) = true := by rw [st.l1] at hlt; simp; omega
  refine ⟨_, rfl, _, rfl, p, _, dx, _, _, rfl, hp, T.cl_Store, T.n_Store_many, rfl, _, _, rfl, rfl, _, _, _, rfl, _, _, _, rfl, rfl, rfl, ?_⟩
  rw [hdec]
  exact ⟨true, rfl, _, rfl, p, _, dx, _, _, rfl, hp, T.cl_Store, T.n_Store_counts, rfl, _, rfl, ca, _, _, _, rfl, rfl, SqL.of hc, atI_nat (getMap hb), q⟩
abbrev N_Store_rows : List Str := ["self", "block"]
theorem sc_Store_rows : FnScope N_Store_rows ["self", "block"] (defScope s_Store_rows) := ⟨rfl, rfl, rfl, by decide +kernel, rfl, by decide +kernel, by decide +kernel⟩
theorem ok_Store_rows (T : Txt K mg) : MFn P w K mg base 3 (He.ga K "Store") "rows" ["self", "block"] (Sp2 (p_Store_rows K)) := by
  refine mfn T.d_Store_rows T.m_Store_rows sc_Store_rows (fun _ _ _ _ _ _ us hl => match us, hl with | [_, _], _ => rfl) len2 fun cdv A outer s H vs Q E hr h => ?_
  obtain ⟨a0, a1, rfl, p, ca, ka, S, b, n, rfl, rfl, st, hb, h0, q⟩ := h
  refine ⟨_, pss_cons (ps_expr (pe_m (ok_Store_check_held T) T.cl_Store (hr.mono (by decide)) (pv 0) (pa_cons (pv 1) pa_nil)))
      (pss_one (ps_ret (pe_ix ix_list (pe_fld (pv 0) rfl) (pv 1) (fun _ _ => rfl)))), ?_⟩
  obtain ⟨dx, ks, hp, hc, hk, hks⟩ := id st.ex
  have hlt := (List.getElem?_eq_some_iff.mp hb).1
  have hlk : b < S.kept.length := by rw [st.l2, ← st.l1]; exact hlt
  obtain ⟨v, hv, hv2⟩ := hks.getD (getMap (f := dRows) (List.getElem?_eq_getElem hlk))
  refine ⟨_, rfl, p, dx, _, rfl, hp, rfl, _, rfl, _, _, rfl, p, ca, ka, S, b, n, rfl, rfl, st, hb, h0, ?_⟩
  refine ⟨_, rfl, p, _, dx, _, _, rfl, hp, T.cl_Store, T.n_Store_kept, rfl, _, rfl, ka, _, _, _, rfl, rfl, SqL.of hk, atI_nat hv, q _ ?_⟩
  rw [List.getD_eq_getElem?_getD, List.getElem?_eq_getElem hlk]
  exact hv2
abbrev N_Store_hold : List Str := ["self", "block"]
theorem sc_Store_hold : FnScope N_Store_hold ["self", "block"] (defScope s_Store_hold) := ⟨rfl, rfl, rfl, by decide +kernel, rfl, by decide +kernel, by decide +kernel⟩
theorem ok_Store_hold (T : Txt K mg) : MFn P w K mg base 3 (He.ga K "Store") "hold" ["self", "block"] (Sp2 (p_Store_hold K)) := by
  refine mfn T.d_Store_hold T.m_Store_hold sc_Store_hold (fun _ _ _ _ _ _ us hl => match us, hl with | [_, _], _ => rfl) len2 fun cdv A outer s H vs Q E hr h => ?_
  obtain ⟨a0, a1, rfl, p, ca, ka, S, b, n, rfl, rfl, st, hb, h0, q⟩ := h
  refine ⟨_, pss_cons (ps_expr (pe_m (ok_Store_check_held T) T.cl_Store (hr.mono (by decide)) (pv 0) (pa_cons (pv 1) pa_nil)))
      (pss_one (ps_augS (pe_fld (pv 0) rfl) (pv 1) get_list (pe_int) ip_add set_list)), ?_⟩
  obtain ⟨dx, ks, hp, hc, hk, hks⟩ := id st.ex
  have hlt := (List.getElem?_eq_some_iff.mp hb).1
  refine ⟨_, rfl, p, dx, _, rfl, hp, rfl, _, rfl, _, _, rfl, p, ca, ka, S, b, n, rfl, rfl, st, hb, h0, ?_⟩
  refine ⟨_, rfl, p, _, dx, _, _, rfl, hp, T.cl_Store, T.n_Store_counts, rfl, _, rfl, ca, _, _, _, rfl, rfl, SqL.of hc, atI_nat (getMap hb), ?_⟩
  refine ⟨_, _, rfl, rfl, ca, _, _, b, rfl, rfl, hc, ixN_of (by rw [List.length_map]; exact hlt), ?_⟩
  obtain ⟨f, st2⟩ := st.setC b (n + 1) _ rfl
  exact q _ f st2
abbrev N_Store_release : List Str := ["self", "block"]
theorem sc_Store_release : FnScope N_Store_release ["self", "block"] (defScope s_Store_release) := ⟨rfl, rfl, rfl, by decide +kernel, rfl, by decide +kernel, by decide +kernel⟩
theorem ok_Store_release (T : Txt K mg) : MFn P w K mg base 3 (He.ga K "Store") "release" ["self", "block"] (Sp2 (p_Store_release K)) := by
  refine mfn T.d_Store_release T.m_Store_release sc_Store_release (fun _ _ _ _ _ _ us hl => match us, hl with | [_, _], _ => rfl) len2 fun cdv A outer s H vs Q E hr h => ?_
  obtain ⟨a0, a1, rfl, p, ca, ka, S, b, n, rfl, rfl, st, hb, h0, q⟩ := h
  refine ⟨_, pss_cons (ps_expr (pe_m (ok_Store_check_held T) T.cl_Store (hr.mono (by decide)) (pv 0) (pa_cons (pv 1) pa_nil)))
      (pss_cons (ps_augS (pe_fld (pv 0) rfl) (pv 1) get_list (pe_int) ip_sub set_list)
      (pss_one (ps_if (pt_cmpR op_eq (pe_ix ix_list (pe_fld (pv 0) rfl) (pv 1) (fun _ _ => rfl)) (pe_int) (nomark _)) (pss_one (ps_asg (pe_tup pa_nil) (pg_sub (pe_fld (pv 0) rfl) (pv 1) set_list))) (pss_nil)))), ?_⟩
  obtain ⟨dx, ks, hp, hc, hk, hks⟩ := id st.ex
  have hlt := (List.getElem?_eq_some_iff.mp hb).1
  have hlk : b < S.kept.length := by rw [st.l2, ← st.l1]; exact hlt
  refine ⟨_, rfl, p, dx, _, rfl, hp, rfl, _, rfl, _, _, rfl, p, ca, ka, S, b, n, rfl, rfl, st, hb, h0, ?_⟩
  refine ⟨_, rfl, p, _, dx, _, _, rfl, hp, T.cl_Store, T.n_Store_counts, rfl, _, rfl, ca, _, _, _, rfl, rfl, SqL.of hc, atI_nat (getMap hb), ?_⟩
  refine ⟨_, _, rfl, rfl, ca, _, _, b, rfl, rfl, hc, ixN_of (by rw [List.length_map]; exact hlt), ?_⟩
  obtain ⟨m, rfl⟩ : ∃ m, n = m + 1 := ⟨n - 1, by omega⟩
  have em : ((m + 1 : Nat) : Int) - 1 = (m : Int) := by omega
  dsimp only
  rw [em]
  generalize hG : upd H ca _ = H1
  obtain ⟨f1, st1⟩ := st.setC b m _ hG
  obtain ⟨dx1, ks1, hp1, hc1, hk1, hks1⟩ := id st1.ex
  have hb1 : (S.setC b m).cts[b]? = some m := by show (S.cts.set b m)[b]? = _; rw [List.getElem?_set_self hlt]
  refine ⟨_, rfl, p, _, dx1, _, _, rfl, hp1, T.cl_Store, T.n_Store_counts, rfl, _, rfl, ca, _, _, _, rfl, rfl, SqL.of hc1, atI_nat (getMap hb1), rfl, _, rfl, ?_⟩
  by_cases hm : m = 0
  · subst hm
    rw [dec_t (show vN 0 = V.int 0 from rfl)]
    refine ⟨ll0, fun e he => ?_⟩
    obtain ⟨s2, e2⟩ := gen_new (o := .tup []) he rfl
    have st2 := st1.up s2
    refine ⟨_, rfl, p, _, dx1, _, _, rfl, s2 _ _ hp1, T.cl_Store, T.n_Store_kept, rfl, _, rfl, ka, _, _, b, rfl, rfl, s2 _ _ hk1, ixN_of (by rw [hks1.len, List.length_map]; exact hlk), ?_⟩
    obtain ⟨f3, st3⟩ := st2.setK b [] (at_tup (ds := []) e2 .nil) (Nat.zero_le _) ks1 (s2 _ _ hk1) _ rfl
    exact q _ (f1.trans ((Fr.same s2).trans f3)) (by unfold StoreM.rel; rw [if_pos rfl]; exact st3)
  · rw [dec_f (show vN m ≠ V.int 0 from fun z => by have := V.int.inj z; omega)]
    exact q _ f1 (by unfold StoreM.rel; rw [if_neg (by omega)]; exact st1)
abbrev N_Store_put_row : List Str := ["self", "block", "row"]
theorem sc_Store_put_row : FnScope N_Store_put_row ["self", "block", "row"] (defScope s_Store_put_row) := ⟨rfl, rfl, rfl, by decide +kernel, rfl, by decide +kernel, by decide +kernel⟩
theorem ok_Store_put_row (T : Txt K mg) : MFn P w K mg base 4 (He.ga K "Store") "put_row" ["self", "block", "row"] (Sp3 (p_Store_put_row K)) := by
  refine mfn T.d_Store_put_row T.m_Store_put_row sc_Store_put_row (fun _ _ _ _ _ _ us hl => match us, hl with | [_, _, _], _ => rfl) len3 fun cdv A outer s H vs Q E hr h => ?_
  obtain ⟨a0, a1, v, rfl, p, ca, ka, S, b, r, rfl, rfl, st, hb, hlen, hrow, q⟩ := h
  refine ⟨_, pss_cons (ps_expr (pe_m (ok_Store_check_alone T) T.cl_Store (hr.mono (by decide)) (pv 0) (pa_cons (pv 1) pa_nil)))
      (pss_cons (ps_if (pt_cmpR op_eq (pe_callB call_len_seq (by rfl) T.b_len PySem.boot_len (pa_cons (pe_ix ix_list (pe_fld (pv 0) rfl) (pv 1) (fun _ _ => rfl)) pa_nil)) (pe_fld (pv 0) rfl) (nomark _)) (pss_one (ps_never)) (pss_nil))
      (pss_one (ps_asg (pe_op op_catA (pe_ix ix_list (pe_fld (pv 0) rfl) (pv 1) (fun _ _ => rfl)) (pe_tup (pa_cons (pv 2) pa_nil))) (pg_sub (pe_fld (pv 0) rfl) (pv 1) set_list)))), ?_⟩
  obtain ⟨dx, ks, hp, hc, hk, hks⟩ := id st.ex
  have hlt := (List.getElem?_eq_some_iff.mp hb).1
  have hlk : b < S.kept.length := by rw [st.l2, ← st.l1]; exact hlt
  obtain ⟨u, hu, hu2⟩ := hks.getD (getMap (f := dRows) (List.getElem?_eq_getElem hlk))
  have ek : S.kept.getD b [] = S.kept[b] := by rw [List.getD_eq_getElem?_getD, List.getElem?_eq_getElem hlk]; rfl
  rw [ek] at hlen q
  obtain ⟨c, xs, rfl, hcx, rx⟩ := id hu2.tupI
  have hxl := rx.len
  rw [List.length_map] at hxl
  refine ⟨_, rfl, p, dx, _, rfl, hp, rfl, _, rfl, _, _, rfl, p, ca, ka, S, b, 1, rfl, rfl, st, hb, rfl, ?_⟩
  refine ⟨_, rfl, p, _, dx, _, _, rfl, hp, T.cl_Store, T.n_Store_kept, rfl, _, rfl, ka, _, _, _, rfl, rfl, SqL.of hk, atI_nat hu, c, _, rfl, .inr (SqT.of hcx), _, rfl, p, _, dx, _, _, rfl, hp, T.cl_Store, T.n_Store_size, rfl, rfl, _, rfl, ?_⟩
  rw [dec_f (show V.int (xs.length : Nat) ≠ V.int S.size from fun z => by have := V.int.inj z; omega)]
  refine ⟨_, rfl, p, _, dx, _, _, rfl, hp, T.cl_Store, T.n_Store_kept, rfl, _, rfl, ka, _, _, _, rfl, rfl, SqL.of hk, atI_nat hu, _, rfl, ll1, fun e he => ?_⟩
  obtain ⟨s2, e2⟩ := gen_new (o := .tup [v]) he rfl
  have hs8 := st.s1
  refine catA_at (K := K) (s2 _ _ hcx) e2 (by show _ + 1 ≤ 1000; omega) fun H3 c3 s3 hc3 => ?_
  have s4 := s2.trans s3
  have st4 := st.up s4
  refine ⟨_, rfl, p, _, dx, _, _, rfl, s4 _ _ hp, T.cl_Store, T.n_Store_kept, rfl, _, rfl, ka, _, _, b, rfl, rfl, s4 _ _ hk, ixN_of (by rw [hks.len, List.length_map]; exact hlk), ?_⟩
  obtain ⟨f5, st5⟩ := st4.setK b (S.kept[b] ++ [r]) (v := .ref c3) (at_tup hc3 (by rw [List.map_append]; exact (rx.up s4.tups).app (.cons (hrow.up s4.tups) .nil))) (by rw [List.length_append]; show _ + 1 ≤ _; omega) ks (s4 _ _ hk) _ rfl
  exact q _ ((Fr.same s4).trans f5) st5
abbrev N_Store_shorten : List Str := ["self", "block", "many"]
theorem sc_Store_shorten : FnScope N_Store_shorten ["self", "block", "many"] (defScope s_Store_shorten) := ⟨rfl, rfl, rfl, by decide +kernel, rfl, by decide +kernel, by decide +kernel⟩
theorem ok_Store_shorten (T : Txt K mg) : MFn P w K mg base 4 (He.ga K "Store") "shorten" ["self", "block", "many"] (Sp3 (p_Store_shorten K)) := by
  refine mfn T.d_Store_shorten T.m_Store_shorten sc_Store_shorten (fun _ _ _ _ _ _ us hl => match us, hl with | [_, _, _], _ => rfl) len3 fun cdv A outer s H vs Q E hr h => ?_
  obtain ⟨a0, a1, a2, rfl, p, ca, ka, S, b, m, rfl, rfl, rfl, st, hb, hm, q⟩ := h
  refine ⟨_, pss_cons (ps_expr (pe_m (ok_Store_check_alone T) T.cl_Store (hr.mono (by decide)) (pv 0) (pa_cons (pv 1) pa_nil)))
      (pss_cons (ps_if (pt_not (pt_val (pe_g (ok_is_between T) (hr.mono (by decide)) (pa_cons (pv 2) (pa_cons (pe_int) (pa_cons (pe_callB call_len_seq (by rfl) T.b_len PySem.boot_len (pa_cons (pe_ix ix_list (pe_fld (pv 0) rfl) (pv 1) (fun _ _ => rfl)) pa_nil)) pa_nil)))))) (pss_one (ps_never)) (pss_nil))
      (pss_one (ps_asg (pe_slice sl_tupA (pe_ix ix_list (pe_fld (pv 0) rfl) (pv 1) (fun _ _ => rfl)) po_none (po_some (pv 2))) (pg_sub (pe_fld (pv 0) rfl) (pv 1) set_list)))), ?_⟩
  obtain ⟨dx, ks, hp, hc, hk, hks⟩ := id st.ex
  have hlt := (List.getElem?_eq_some_iff.mp hb).1
  have hlk : b < S.kept.length := by rw [st.l2, ← st.l1]; exact hlt
  obtain ⟨u, hu, hu2⟩ := hks.getD (getMap (f := dRows) (List.getElem?_eq_getElem hlk))
  have ek : S.kept.getD b [] = S.kept[b] := by rw [List.getD_eq_getElem?_getD, List.getElem?_eq_getElem hlk]; rfl
  rw [ek] at hm q
  obtain ⟨c, xs, rfl, hcx, rx⟩ := id hu2.tupI
  have hxl := rx.len
  rw [List.length_map] at hxl
  have hkb := st.k1 _ (List.getElem_mem hlk)
  have hdec : decide ((0 : Int) ≤ (m : Int) ∧ (m : Int) ≤ (xs.length : Nat)) = true := by simp; omega
  refine ⟨_, rfl, p, dx, _, rfl, hp, rfl, _, rfl, _, _, rfl, p, ca, ka, S, b, 1, rfl, rfl, st, hb, rfl, ?_⟩
  refine ⟨_, rfl, _, rfl, p, _, dx, _, _, rfl, hp, T.cl_Store, T.n_Store_kept, rfl, _, rfl, ka, _, _, _, rfl, rfl, SqL.of hk, atI_nat hu, c, _, rfl, .inr (SqT.of hcx), _, _, _, rfl, _, _, _, rfl, rfl, rfl, ?_⟩
  rw [hdec]
  refine ⟨true, rfl, _, rfl, p, _, dx, _, _, rfl, hp, T.cl_Store, T.n_Store_kept, rfl, _, rfl, ka, _, _, _, rfl, rfl, SqL.of hk, atI_nat hu, _, rfl, _, rfl, ?_⟩
  dsimp only
  refine slA_at (K := K) hcx fun H3 c3 s3 hc3 => ?_
  rw [cut_take] at hc3
  have st4 := st.up s3
  refine ⟨_, rfl, p, _, dx, _, _, rfl, s3 _ _ hp, T.cl_Store, T.n_Store_kept, rfl, _, rfl, ka, _, _, b, rfl, rfl, s3 _ _ hk, ixN_of (by rw [hks.len, List.length_map]; exact hlk), ?_⟩
  obtain ⟨f5, st5⟩ := st4.setK b (S.kept[b].take m) (v := .ref c3) (at_tup hc3 (by rw [List.map_take]; exact (rx.up s3.tups).take m)) (by rw [List.length_take]; show _ ≤ S.size; omega) ks (s3 _ _ hk) _ rfl
  exact q _ ((Fr.same s3).trans f5) st5
end
end Sv
end
section
set_option Elab.async false
set_option linter.all false
set_option maxRecDepth 100000
set_option maxHeartbeats 4000000
/-! The walk: Store.__init__, Table.* (all but put_row). -/
namespace Sv
open PySem PySem.Spec PyProof.Rows L2
def dNs (bs : List Nat) : PyData := dVec (bs.map Int.ofNat)
theorem mapNs (bs : List Nat) : (bs.map Int.ofNat).map V.int = bs.map vN := by rw [List.map_map]; rfl
theorem at_ns {H : Hp} {a : Addr} {bs : List Nat} (h : H a = some (.tup (bs.map vN))) : At H (.ref a) (dNs bs) := at_vec (by rw [mapNs]; exact h)
theorem At.nsI {H : Hp} {v : V} {bs : List Nat} (h : At H v (dNs bs)) : ∃ a, v = .ref a ∧ H a = some (.tup (bs.map vN)) := by
  obtain ⟨a, e, h⟩ := At.vecI h
  rw [mapNs] at h
  exact ⟨a, e, h⟩
structure TableAt (K : PySem.W.Frag) (H : Hp) (tb p : Addr) (bs : List Nat) (len : Nat) : Prop where
  ex : ∃ dx vb, H tb = some (.ins (He.ga K "Table") dx [("store", .ref p), ("blocks", vb), ("length", .int len)]) ∧ At H vb (dNs bs)
theorem TableAt.keep {K : PySem.W.Frag} {H H' : Hp} {tb p : Addr} {bs : List Nat} {len : Nat} {F : List Addr} (h : TableAt K H tb p bs len) (f : Fr F H H') (n : tb ∉ F) : TableAt K H' tb p bs len := by
  obtain ⟨dx, vb, h1, h2⟩ := h.ex
  exact ⟨dx, vb, f.k _ _ n h1, h2.up f.t⟩
theorem TableAt.up {K : PySem.W.Frag} {H H' : Hp} {tb p : Addr} {bs : List Nat} {len : Nat} (h : TableAt K H tb p bs len) (s : Same H H') : TableAt K H' tb p bs len := h.keep (F := []) (Fr.same s) (by simp)
/-- a table is no list of the store -/
theorem tab_ne {K : PySem.W.Frag} {H : Hp} {tb p p2 ca ka : Addr} {bs : List Nat} {len : Nat} {S : StoreM} (t : TableAt K H tb p bs len) (s : StoreAt K H p2 ca ka S) : tb ∉ [ca, ka] := by
  obtain ⟨dx, vb, h1, _⟩ := t.ex
  obtain ⟨_, _, _, h3, h4, _⟩ := s.ex
  intro h
  rcases List.mem_cons.mp h with e | h
  · rw [e, h3] at h1; cases h1
  · rw [List.mem_singleton.mp h, h4] at h1; cases h1
theorem tab_ne' {K : PySem.W.Frag} {H : Hp} {tb p p2 ca ka : Addr} {bs : List Nat} {len : Nat} {S : StoreM} (t : TableAt K H tb p bs len) (s : StoreAt K H p2 ca ka S) : ca ∉ [tb] ∧ ka ∉ [tb] := by
  have := tab_ne t s
  simp at this ⊢
  exact ⟨fun e => this.1 e.symm, fun e => this.2 e.symm⟩
def p_Table_init (K : PySem.W.Frag) : P2 := fun a b H Q => ∃ (p dx st : Addr), a = .ref p ∧ b = .ref st ∧ H p = some (.ins (He.ga K "Table") dx []) ∧ ∀ H', Fr [p] H H' → TableAt K H' p st [] 0 → Q .non H'
def tabRows (S : StoreM) (bs : List Nat) (len : Nat) : List RowM := ((bs.map fun b => S.kept.getD b []).flatten).take len
def p_Table_rows (K : PySem.W.Frag) : P1 := fun a H Q => ∃ (tb p ca ka : Addr) (S : StoreM) (bs : List Nat) (len : Nat), a = .ref tb ∧ StoreAt K H p ca ka S ∧ TableAt K H tb p bs len ∧ (∀ b ∈ bs, ∃ n, S.cts[b]? = some n ∧ 0 < n) ∧ bs.length ≤ 100 ∧
  ∀ H' v, Same H H' → At H' v (dRows (tabRows S bs len)) → Q v H'
def p_Table_own_last (K : PySem.W.Frag) : P2 := fun a b H Q => ∃ (tb p ca ka : Addr) (S : StoreM) (bs : List Nat) (l len u : Nat), a = .ref tb ∧ b = .int u ∧ StoreAt K H p ca ka S ∧ TableAt K H tb p (bs ++ [l]) len ∧ S.cts[l]? = some 1 ∧ u ≤ (S.kept.getD l []).length ∧
  ∀ H', Fr [ca, ka] H H' → StoreAt K H' p ca ka (S.setK l ((S.kept.getD l []).take u)) → Q .non H'
def p_Table_take_over (K : PySem.W.Frag) : P2 := fun a b H Q => ∃ (tb p ca ka : Addr) (S : StoreM) (bs : List Nat) (len c n : Nat), a = .ref tb ∧ b = .int c ∧ StoreAt K H p ca ka S ∧ TableAt K H tb p bs len ∧ S.cts[c]? = some n ∧ 0 < n ∧ bs.length ≤ 100 ∧
  ∀ H', Fr [ca, ka, tb] H H' → StoreAt K H' p ca ka (S.setC c (n + 1)) → TableAt K H' tb p (bs ++ [c]) (len + S.size) → Q .non H'
def p_Table_exchange_last (K : PySem.W.Frag) : P2 := fun a b H Q => ∃ (tb p ca ka : Addr) (S : StoreM) (bs : List Nat) (l len c n m : Nat), a = .ref tb ∧ b = .int c ∧ StoreAt K H p ca ka S ∧ TableAt K H tb p (bs ++ [l]) len ∧ S.cts[c]? = some n ∧ 0 < n ∧ (S.setC c (n + 1)).cts[l]? = some m ∧ 0 < m ∧ bs.length ≤ 100 ∧
  ∀ H', Fr [ca, ka, tb] H H' → StoreAt K H' p ca ka ((S.setC c (n + 1)).rel l m) → TableAt K H' tb p (bs ++ [c]) len → Q .non H'
/-- blocks released one behind the other -/
def StoreM.relAll : StoreM → List Nat → StoreM
  | S, [] => S
  | S, b :: r => (S.rel b (S.cts.getD b 0)).relAll r
def StoreM.canRel : StoreM → List Nat → Prop
  | _, [] => True
  | S, b :: r => (∃ n, S.cts[b]? = some n ∧ 0 < n) ∧ (S.rel b (S.cts.getD b 0)).canRel r
def p_Table_cut (K : PySem.W.Frag) : P2 := fun a b H Q => ∃ (tb p ca ka : Addr) (S : StoreM) (bs : List Nat) (len : Nat), a = .ref tb ∧ b = .int 0 ∧ StoreAt K H p ca ka S ∧ TableAt K H tb p bs len ∧ S.canRel bs.reverse ∧
  ∀ H', Fr [ca, ka, tb] H H' → StoreAt K H' p ca ka (S.relAll bs.reverse) → TableAt K H' tb p [] 0 → Q .non H'
theorem StoreM.rel_many (S : StoreM) (b n : Nat) : (S.rel b n).many = S.many := by unfold StoreM.rel; split <;> rfl
theorem StoreM.rel_size (S : StoreM) (b n : Nat) : (S.rel b n).size = S.size := by unfold StoreM.rel; split <;> rfl
theorem cut_neg1 (xs : List V) (v : V) : cutV (xs ++ [v]) none (some (-1)) = xs := by
  unfold cutV
  rw [HT.sIx_none]
  have : HT.sIx (xs ++ [v]).length (xs ++ [v]).length (some (-1)) = xs.length := by
    show (if (-1 : Int) < 0 then ((-1 : Int) + ((xs ++ [v]).length : Int)).toNat else min (-1 : Int).toNat (xs ++ [v]).length) = _
    rw [if_pos (by omega), List.length_append]
    simp
    omega
  rw [this, List.drop_zero, Nat.sub_zero]
  exact List.take_left' rfl
section
variable {P : Program} {w : World} {K : PySem.W.Frag} {mg : Str → Option Value} {base : Heap}
abbrev N_Store_init : List Str := ["self", "many", "size", "_"]
theorem sc_Store_init : FnScope N_Store_init ["self", "many", "size"] (defScope s_Store_init) := ⟨rfl, rfl, rfl, by decide +kernel, rfl, by decide +kernel, by decide +kernel⟩
theorem ok_Store_init (T : Txt K mg) : CFn P w K mg base 2 "Store" (He.ga K "Store") ["self", "many", "size"] (Sp3 (p_Store_init K)) := by
  refine cfn T.d_Store_init T.mk_Store T.g_Store sc_Store_init (fun _ _ _ _ _ _ us hl => match us, hl with | [_, _, _], _ => rfl) len3 fun cdv A outer s H vs Q E hr h => ?_
  obtain ⟨a0, a1, a2, rfl, p, dx, m, s, rfl, hp, rfl, rfl, m0, m1, s0, s1, q⟩ := h
  refine ⟨_, pss_cons (ps_if (pt_not (pt_val (pe_g (ok_is_between T) (hr.mono (by decide)) (pa_cons (pv 1) (pa_cons (pe_int) (pa_cons (pe_glob (v := .int 60) (by rfl) (T.i_MOST_BLOCKS).choose_spec ⟨_, rfl⟩) pa_nil)))))) (pss_one (ps_never)) (pss_nil))
      (pss_cons (ps_if (pt_not (pt_val (pe_g (ok_is_between T) (hr.mono (by decide)) (pa_cons (pv 2) (pa_cons (pe_int) (pa_cons (pe_glob (v := .int 8) (by rfl) (T.i_MOST_ROWS).choose_spec ⟨_, rfl⟩) pa_nil)))))) (pss_one (ps_never)) (pss_nil))
      (pss_cons (ps_fld (pv 0) (pv 1) rfl)
      (pss_cons (ps_fld (pv 0) (pv 2) rfl)
      (pss_cons (ps_fld (pv 0) (pe_lc (own := [("_", 3)]) rfl sc_Store_init.nd (pi_range1 (by rfl) T.b_range (pa_cons (pv 1) pa_nil)) (blkOk_by (N := N_Store_init) (sc := defScope s_Store_init) (by decide +kernel)) (fun _ _ _ _ _ => pg_name (i := 3) sc_Store_init.nd rfl (Or.inl rfl) (hf := Or.inr rfl)) (fun _ _ _ _ _ => pts_nil) (fun _ _ _ _ _ => pe_int)) rfl)
      (pss_one (ps_fld (pv 0) (pe_lc (own := [("_", 3)]) rfl sc_Store_init.nd (pi_range1 (by rfl) T.b_range (pa_cons (pv 1) pa_nil)) (blkOk_by (N := N_Store_init) (sc := defScope s_Store_init) (by decide +kernel)) (fun _ _ _ _ _ => pg_name (i := 3) sc_Store_init.nd rfl (Or.inl rfl) (hf := Or.inr rfl)) (fun _ _ _ _ _ => pts_nil) (fun _ _ _ _ _ => pe_tup pa_nil)) rfl)))))), ?_⟩
  have hd1 : decide ((1 : Int) ≤ (m : Int) ∧ (m : Int) ≤ 60) = true := by simp; omega
  have hd2 : decide ((1 : Int) ≤ (s : Int) ∧ (s : Int) ≤ 8) = true := by simp; omega
  refine ⟨_, rfl, _, _, _, rfl, _, _, _, rfl, rfl, rfl, ?_⟩
  rw [hd1]
  refine ⟨true, rfl, _, rfl, _, _, _, rfl, _, _, _, rfl, rfl, rfl, ?_⟩
  rw [hd2]
  refine ⟨true, rfl, _, rfl, _, rfl, p, _, dx, _, rfl, hp, T.cl_Store, T.n_Store_many, by show 0 < 1000; omega, ?_⟩
  generalize hG : upd H p _ = H1
  obtain ⟨f1, e1⟩ := gen_ins [p] hp hG (.head _)
  refine ⟨_, rfl, _, rfl, p, _, dx, _, rfl, e1, T.cl_Store, T.n_Store_size, by show 1 < 1000; omega, ?_⟩
  generalize hG : upd H1 p _ = H2
  obtain ⟨f2, e2⟩ := gen_ins [p] e1 hG (.head _)
  have a2 := f1.trans f2
  refine ⟨_, rfl, m, rfl, by omega, by omega, fun D hD => lcd_range (n := m) (ds1 := (List.replicate m (0 : Int)).map .int) hD (by simp) (by simp; omega) (fun i H' hi s kp => ?_) fun H3 ys h1 h2 h3 => ?_⟩
  · refine ⟨rfl, kp _ _ _ (getMap (x := 0) ?_) (Same.refl _) (.int 0)⟩
    rw [List.getElem?_replicate, if_pos hi]
  refine ⟨_, rfl, p, _, dx, _, rfl, h3 _ _ e2, T.cl_Store, T.n_Store_counts, by show 2 < 1000; omega, ?_⟩
  generalize hG : upd H3 p _ = H4
  obtain ⟨f4, e4⟩ := gen_ins [p] (h3 _ _ e2) hG (.head _)
  have a4 := a2.trans ((Fr.same h3).trans f4)
  have hpD : D ≠ p := fun z => by rw [z, e2] at hD; cases hD
  have g1 := f4.k _ _ (by simp; exact hpD) h1
  refine ⟨_, rfl, m, rfl, by omega, by omega, fun D2 hD2 => lcd_range (n := m) (ds1 := (List.replicate m ([] : List RowM)).map dRows) hD2 (by simp) (by simp; omega) (fun i H' hi s kp => ?_) fun H5 zs g2 g3 g4 => ?_⟩
  · refine ⟨rfl, ll0, fun e he => kp _ _ _ (getMap (x := []) ?_) (same_new he) (at_tup (ds := []) upd_same .nil)⟩
    rw [List.getElem?_replicate, if_pos hi]
  refine ⟨_, rfl, p, _, dx, _, rfl, g4 _ _ e4, T.cl_Store, T.n_Store_kept, by show 3 < 1000; omega, ?_⟩
  generalize hG : upd H5 p _ = H6
  obtain ⟨f6, e6⟩ := gen_ins [p] (g4 _ _ e4) hG (.head _)
  have hpD2 : D2 ≠ p := fun z => by rw [z, e4] at hD2; cases hD2
  have a6 := a4.trans ((Fr.same g4).trans f6)
  have g5 := f6.k _ _ (by simp; exact hpD) (g4 _ _ g1)
  have g6 := f6.k _ _ (by simp; exact hpD2) g2
  have eys : ys = (List.replicate m 0).map vN := by
    rw [h2.intsI]
    simp [vN]
  have n1 : H D = none := a2.fresh hD (fun x hx => by rw [List.mem_singleton.mp hx, e2]; simp)
  have n2 : H D2 = none := a4.fresh hD2 (fun x hx => by rw [List.mem_singleton.mp hx, e4]; simp)
  refine q _ D D2 a6 n1 n2 ⟨⟨dx, zs, e6, by rw [g5, eys], g6, g3.up f6.t⟩, fun z => ?_, by simp, by simp, m0, m1, s0, s1, fun r hr => ?_⟩
  · rw [z, hD2] at g1; cases g1
  · rw [List.eq_of_mem_replicate hr]; exact Nat.zero_le _
abbrev N_Table_init : List Str := ["self", "store"]
theorem sc_Table_init : FnScope N_Table_init ["self", "store"] (defScope s_Table_init) := ⟨rfl, rfl, rfl, by decide +kernel, rfl, by decide +kernel, by decide +kernel⟩
theorem ok_Table_init (T : Txt K mg) : CFn P w K mg base 1 "Table" (He.ga K "Table") ["self", "store"] (Sp2 (p_Table_init K)) := by
  refine cfn T.d_Table_init T.mk_Table T.g_Table sc_Table_init (fun _ _ _ _ _ _ us hl => match us, hl with | [_, _], _ => rfl) len2 fun cdv A outer s H vs Q E hr h => ?_
  obtain ⟨a0, a1, rfl, p, dx, st, rfl, rfl, hp, q⟩ := h
  refine ⟨_, pss_cons (ps_fld (pv 0) (pv 1) rfl)
      (pss_cons (ps_fld (pv 0) (pe_tup pa_nil) rfl)
      (pss_one (ps_fld (pv 0) (pe_int) rfl))), ?_⟩
  refine ⟨_, rfl, _, rfl, p, _, dx, _, rfl, hp, T.cl_Table, T.n_Table_store, by show 0 < 1000; omega, ?_⟩
  generalize hG : upd H p _ = H1
  obtain ⟨f1, e1⟩ := gen_ins [p] hp hG (.head _)
  refine ⟨ll0, fun e he => ⟨_, rfl, p, _, dx, _, rfl, same_new he _ _ e1, T.cl_Table, T.n_Table_blocks, by show 1 < 1000; omega, ?_⟩⟩
  obtain ⟨s2, e2⟩ := gen_new (o := .tup []) he rfl
  generalize hG : upd (upd H1 e (.tup [])) p _ = H3
  obtain ⟨f3, e3⟩ := gen_ins [p] (s2 _ _ e1) hG (.head _)
  refine ⟨_, rfl, p, _, dx, _, rfl, e3, T.cl_Table, T.n_Table_length, by show 2 < 1000; omega, ?_⟩
  generalize hG : upd H3 p _ = H4
  obtain ⟨f4, e4⟩ := gen_ins [p] e3 hG (.head _)
  have f5 := f3.trans f4
  exact q _ (f1.trans ((Fr.same s2).trans f5)) ⟨dx, _, e4, (at_ns (bs := []) e2).up f5.t⟩
abbrev N_Table_rows : List Str := ["self", "found", "block"]
theorem sc_Table_rows : FnScope N_Table_rows ["self"] (defScope s_Table_rows) := ⟨rfl, rfl, rfl, by decide +kernel, rfl, by decide +kernel, by decide +kernel⟩
theorem ok_Table_rows (T : Txt K mg) : MFn P w K mg base 4 (He.ga K "Table") "rows" ["self"] (Sp1 (p_Table_rows K)) := by
  refine mfn T.d_Table_rows T.m_Table_rows sc_Table_rows (fun _ _ _ _ _ _ us hl => match us, hl with | [_], _ => rfl) len1 fun cdv A outer s H vs Q E hr h => ?_
  obtain ⟨a0, rfl, tb, p, ca, ka, S, bs, len, rfl, st, ta, hbs, hbl, q⟩ := h
  refine ⟨_, pss_cons (ps_set (i := 1) sc_Table_rows.nd rfl (Or.inl rfl) (pe_lst pa_nil))
      (pss_cons (ps_for PassesOwn.never rfl (pi_tup (pe_fld (pv 0) rfl)) (pg_name (i := 2) sc_Table_rows.nd rfl (Or.inl rfl))
      (pss_one (ps_expr (pe_bm PySem.F.plainAttrs_list PySem.F.slot_list_extend PySem.F.type_list_extend mt_extT (pv 1) (pa_cons (pe_m (ok_Store_rows T) T.cl_Store (hr.mono (by decide)) (pe_fld (pv 0) rfl) (pa_cons (pv 2) pa_nil)) pa_nil)))))
      (pss_one (ps_ret (pe_callTy call_tuple_of (by rfl) T.b_tuple (by decide +kernel) (pa_cons (pe_slice sl_list (pv 1) po_none (po_some (pe_fld (pv 0) rfl))) pa_nil))))), ?_⟩
  obtain ⟨dx, vb, ht, hvb⟩ := id ta.ex
  obtain ⟨sdx, ks, hp, _⟩ := id st.ex
  obtain ⟨c, rfl, hc⟩ := hvb.nsI
  have hs8 := st.s1
  refine ⟨ll0, fun o ho => ?_⟩
  generalize hG : upd H o _ = H1
  obtain ⟨s1, e1⟩ := gen_new ho hG
  have hk : ∀ b ∈ bs, (S.kept.getD b []).length ≤ 8 := fun b _ => by
    rw [List.getD_eq_getElem?_getD]
    cases e : S.kept[b]? with
    | none => exact Nat.zero_le _
    | some r => exact Nat.le_trans (st.k1 r (List.mem_of_getElem? e)) hs8
  have hfl : ∀ i, ((((bs.take i).map fun b => S.kept.getD b []).flatten).map dRow).length ≤ 8 * i ∧ 8 * i ≤ 8 * i := fun i => by
    refine ⟨?_, Nat.le_refl _⟩
    rw [List.length_map]
    have : ∀ l : List Nat, (∀ b ∈ l, b ∈ bs) → ((l.map fun b => S.kept.getD b []).flatten).length ≤ 8 * l.length := by
      intro l
      induction l with
      | nil => intro _; exact Nat.zero_le _
      | cons b l ih =>
        intro h
        rw [List.map_cons, List.flatten_cons, List.length_append, List.length_cons]
        have := hk b (h b List.mem_cons_self)
        have := ih fun x hx => h x (List.mem_cons_of_mem _ hx)
        omega
    have h1 := this (bs.take i) fun b hb => List.mem_of_mem_take hb
    rw [List.length_take] at h1
    omega
  refine ⟨_, rfl, tb, _, dx, _, _, rfl, s1 _ _ ht, T.cl_Table, T.n_Table_blocks, rfl, c, rfl, ⟨_, SqT.of (s1 _ _ hc)⟩, for_tup (K := K) (a := c) (xs := bs.map vN) (fun i σ H' => ∃ v2 ys, σ = [some (.ref tb), some (.ref o), v2] ∧ Same H H' ∧ H' o = some (.lst ys) ∧ AtAll H' ys ((((bs.take i).map fun b => S.kept.getD b []).flatten).map dRow))
    ⟨none, [], rfl, s1, e1, .nil⟩ (fun i σ H' _ I => ?_) (fun i x σ H' hx I => ?_) fun σ H' I => ?_⟩
  · obtain ⟨_, _, _, s, _⟩ := I
    exact SqT.of (s _ _ hc)
  · obtain ⟨v2, ys, rfl, s, hy, hys⟩ := I
    obtain ⟨b, eb, rfl⟩ := map_get hx
    obtain ⟨n, hn, h0⟩ := hbs b (List.mem_of_getElem? eb)
    have hib := (List.getElem?_eq_some_iff.mp eb).1
    refine ⟨_, rfl, ty_l hy, ?_⟩
    refine ⟨_, rfl, tb, _, dx, _, _, rfl, s _ _ ht, T.cl_Table, T.n_Table_store, rfl, p, sdx, _, rfl, s _ _ hp, rfl, _, rfl, _, _, rfl, p, ca, ka, S, b, n, rfl, rfl, st.up s, hn, h0, fun v hv => ?_⟩
    obtain ⟨c2, zs, rfl, hc2, hzs⟩ := hv.tupI
    have l1 := hys.len
    have l2 := (hfl i).1
    have l3 := hzs.len
    rw [List.length_map] at l3
    have l4 := hk b (List.mem_of_getElem? eb)
    refine ⟨o, c2, _, _, rfl, rfl, hy, SqT.of hc2, Nat.le_of_lt (small1000 (by omega)), ?_⟩
    have tu : Tups H' (upd H' o (.lst (ys ++ zs))) := tups_upd hy rfl
    refine ⟨some (.int b), _, rfl, fun z u hz => ?_, upd_same, ?_⟩
    · rw [upd_ne (ne_of_none hz ho)]
      exact s _ _ hz
    · rw [take_snoc eb, List.map_append, List.flatten_append, List.map_append]
      refine (hys.app ?_).up tu
      simpa using hzs
  · obtain ⟨v2, ys, rfl, s, hy, hys⟩ := I
    rw [List.length_map, List.take_length] at hys
    refine ⟨_, rfl, _, rfl, tb, _, dx, _, _, rfl, s _ _ ht, T.cl_Table, T.n_Table_length, rfl, _, rfl, o, ys, rfl, SqL.of hy, fun e he => ?_⟩
    generalize hG : upd H' e _ = H2
    obtain ⟨s2, g2⟩ := gen_new he hG
    rw [cut_take] at g2
    refine ⟨e, _, rfl, .inl ⟨SqL.of g2, fun e2 he2 => q _ _ (s.trans (s2.trans (same_new he2))) (tl_at ?_ he2)⟩⟩
    unfold tabRows
    rw [List.map_take]
    exact (hys.take len).up s2.tups
abbrev N_Table_own_last : List Str := ["self", "used", "last", "block", "row"]
theorem sc_Table_own_last : FnScope N_Table_own_last ["self", "used"] (defScope s_Table_own_last) := ⟨rfl, rfl, rfl, by decide +kernel, rfl, by decide +kernel, by decide +kernel⟩
theorem ok_Table_own_last (T : Txt K mg) : MFn P w K mg base 5 (He.ga K "Table") "own_last" ["self", "used"] (Sp2 (p_Table_own_last K)) := by
  refine mfn T.d_Table_own_last T.m_Table_own_last sc_Table_own_last (fun _ _ _ _ _ _ us hl => match us, hl with | [_, _], _ => rfl) len2 fun cdv A outer s H vs Q E hr h => ?_
  obtain ⟨a0, a1, rfl, tb, p, ca, ka, S, bs, l, len, u, rfl, rfl, st, ta, hl, hu, q⟩ := h
  refine ⟨_, pss_cons (ps_set (i := 2) sc_Table_own_last.nd rfl (Or.inl rfl) (pe_ix ix_tup (pe_fld (pv 0) rfl) (pe_un un_neg (pe_int)) (fun _ _ => rfl)))
      (pss_cons (ps_if (pt_cmpR op_gt (pe_m (ok_Store_holders T) T.cl_Store (hr.mono (by decide)) (pe_fld (pv 0) rfl) (pa_cons (pv 2) pa_nil)) (pe_int) (nomark _)) (pss_never) (pss_nil))
      (pss_one (ps_expr (pe_m (ok_Store_shorten T) T.cl_Store (hr.mono (by decide)) (pe_fld (pv 0) rfl) (pa_cons (pe_ix ix_tup (pe_fld (pv 0) rfl) (pe_un un_neg (pe_int)) (fun _ _ => rfl)) (pa_cons (pv 1) pa_nil)))))), ?_⟩
  obtain ⟨dx, vb, ht, hvb⟩ := id ta.ex
  obtain ⟨sdx, ks, hp, _⟩ := id st.ex
  obtain ⟨c, rfl, hc⟩ := hvb.nsI
  have hlast : atI ((bs ++ [l]).map vN) (-1) = some (vN l) := by rw [List.map_append]; exact atI_last _ _
  refine ⟨_, rfl, tb, _, dx, _, _, rfl, ht, T.cl_Table, T.n_Table_blocks, rfl, _, rfl, c, _, _, _, rfl, rfl, SqT.of hc, hlast, ?_⟩
  refine ⟨_, rfl, tb, _, dx, _, _, rfl, ht, T.cl_Table, T.n_Table_store, rfl, p, sdx, _, rfl, hp, rfl, _, rfl, _, _, rfl, p, ca, ka, S, l, 1, rfl, rfl, st, hl, trivial, ?_⟩
  refine ⟨_, _, rfl, rfl, _, rfl, ?_⟩
  refine ⟨_, rfl, tb, _, dx, _, _, rfl, ht, T.cl_Table, T.n_Table_store, rfl, p, sdx, _, rfl, hp, rfl, ?_⟩
  refine ⟨_, rfl, tb, _, dx, _, _, rfl, ht, T.cl_Table, T.n_Table_blocks, rfl, _, rfl, c, _, _, _, rfl, rfl, SqT.of hc, hlast, _, rfl, ?_⟩
  exact ⟨_, _, _, rfl, p, ca, ka, S, l, u, rfl, rfl, rfl, st, hl, hu, fun H' f st' => q _ f st'⟩
abbrev N_Table_take_over : List Str := ["self", "block"]
theorem sc_Table_take_over : FnScope N_Table_take_over ["self", "block"] (defScope s_Table_take_over) := ⟨rfl, rfl, rfl, by decide +kernel, rfl, by decide +kernel, by decide +kernel⟩
theorem ok_Table_take_over (T : Txt K mg) : MFn P w K mg base 4 (He.ga K "Table") "take_over" ["self", "block"] (Sp2 (p_Table_take_over K)) := by
  refine mfn T.d_Table_take_over T.m_Table_take_over sc_Table_take_over (fun _ _ _ _ _ _ us hl => match us, hl with | [_, _], _ => rfl) len2 fun cdv A outer s H vs Q E hr h => ?_
  obtain ⟨a0, a1, rfl, tb, p, ca, ka, S, bs, len, b, n, rfl, rfl, st, ta, hb, h0, hbl, q⟩ := h
  refine ⟨_, pss_cons (ps_expr (pe_m (ok_Store_hold T) T.cl_Store (hr.mono (by decide)) (pe_fld (pv 0) rfl) (pa_cons (pv 1) pa_nil)))
      (pss_cons (ps_fld (pv 0) (pe_op op_catA (pe_fld (pv 0) rfl) (pe_tup (pa_cons (pv 1) pa_nil))) rfl)
      (pss_one (ps_fldaug (pv 0) (pe_fld (pe_fld (pv 0) rfl) rfl) in_add))), ?_⟩
  obtain ⟨dx, vb, ht, hvb⟩ := id ta.ex
  obtain ⟨sdx, ks, hp, _⟩ := id st.ex
  refine ⟨_, rfl, tb, _, dx, _, _, rfl, ht, T.cl_Table, T.n_Table_store, rfl, p, sdx, _, rfl, hp, rfl, _, rfl, _, _, rfl, p, ca, ka, S, b, n, rfl, rfl, st, hb, h0, fun H1 f1 st1 => ?_⟩
  have ta1 := ta.keep f1 (tab_ne ta st)
  obtain ⟨dx1, vb1, ht1, hvb1⟩ := id ta1.ex
  obtain ⟨c, rfl, hc⟩ := hvb1.nsI
  refine ⟨_, rfl, tb, _, dx1, _, _, rfl, ht1, T.cl_Table, T.n_Table_blocks, rfl, _, rfl, ll1, fun e he => ?_⟩
  obtain ⟨s2, e2⟩ := gen_new (o := .tup [V.int b]) he rfl
  refine catA_at (K := K) (s2 _ _ hc) e2 (by rw [List.length_map]; show _ + 1 ≤ 1000; omega) fun H3 c3 s3 hc3 => ?_
  have s4 := s2.trans s3
  refine ⟨_, rfl, tb, _, dx1, _, rfl, s4 _ _ ht1, T.cl_Table, T.n_Table_blocks, by show 3 < 1000; omega, ?_⟩
  generalize hG : upd H3 tb _ = H4
  obtain ⟨f4, e4⟩ := gen_ins [tb] (s4 _ _ ht1) hG (.head _)
  have st3 := st1.up s4
  have ta3 := ta1.up s4
  have st4 := st3.keep f4 (tab_ne' ta3 st3).1 (tab_ne' ta3 st3).2
  obtain ⟨sdx4, ks4, hp4, _⟩ := id st4.ex
  refine ⟨_, rfl, tb, _, dx1, _, _, rfl, e4, T.cl_Table, T.n_Table_length, rfl, _, rfl, tb, _, dx1, _, _, rfl, e4, T.cl_Table, T.n_Table_store, rfl, p, _, sdx4, _, _, rfl, hp4, T.cl_Store, T.n_Store_size, rfl, _, _, rfl, rfl, dx1, _, e4, by show 3 < 1000; omega, ?_⟩
  generalize hG : upd H4 tb _ = H5
  obtain ⟨f5, e5⟩ := gen_ins [tb] e4 hG (.head _)
  have ta4 : TableAt K H4 tb p (bs ++ [b]) len := ⟨dx1, _, e4, At.up (at_ns (by rw [List.map_append]; exact hc3)) f4.t⟩
  refine q _ ((f1.sub (by simp)).trans ((Fr.same s4).trans ((f4.sub (by simp)).trans (f5.sub (by simp))))) (st4.keep f5 (tab_ne' ta4 st4).1 (tab_ne' ta4 st4).2) ⟨dx1, _, e5, At.up (at_ns (by rw [List.map_append]; exact hc3)) (f4.trans f5).t⟩
abbrev N_Table_exchange_last : List Str := ["self", "block"]
theorem sc_Table_exchange_last : FnScope N_Table_exchange_last ["self", "block"] (defScope s_Table_exchange_last) := ⟨rfl, rfl, rfl, by decide +kernel, rfl, by decide +kernel, by decide +kernel⟩
theorem ok_Table_exchange_last (T : Txt K mg) : MFn P w K mg base 4 (He.ga K "Table") "exchange_last" ["self", "block"] (Sp2 (p_Table_exchange_last K)) := by
  refine mfn T.d_Table_exchange_last T.m_Table_exchange_last sc_Table_exchange_last (fun _ _ _ _ _ _ us hl => match us, hl with | [_, _], _ => rfl) len2 fun cdv A outer s H vs Q E hr h => ?_
  obtain ⟨a0, a1, rfl, tb, p, ca, ka, S, bs, l, len, b, n, m, rfl, rfl, st, ta, hb, h0, hl, hm0, hbl, q⟩ := h
  refine ⟨_, pss_cons (ps_expr (pe_m (ok_Store_hold T) T.cl_Store (hr.mono (by decide)) (pe_fld (pv 0) rfl) (pa_cons (pv 1) pa_nil)))
      (pss_cons (ps_expr (pe_m (ok_Store_release T) T.cl_Store (hr.mono (by decide)) (pe_fld (pv 0) rfl) (pa_cons (pe_ix ix_tup (pe_fld (pv 0) rfl) (pe_un un_neg (pe_int)) (fun _ _ => rfl)) pa_nil)))
      (pss_one (ps_fld (pv 0) (pe_op op_catA (pe_slice sl_tupA (pe_fld (pv 0) rfl) po_none (po_some (pe_un un_neg (pe_int)))) (pe_tup (pa_cons (pv 1) pa_nil))) rfl))), ?_⟩
  obtain ⟨dx, vb, ht, hvb⟩ := id ta.ex
  obtain ⟨sdx, ks, hp, _⟩ := id st.ex
  refine ⟨_, rfl, tb, _, dx, _, _, rfl, ht, T.cl_Table, T.n_Table_store, rfl, p, sdx, _, rfl, hp, rfl, _, rfl, _, _, rfl, p, ca, ka, S, b, n, rfl, rfl, st, hb, h0, fun H1 f1 st1 => ?_⟩
  have ta1 := ta.keep f1 (tab_ne ta st)
  obtain ⟨dx1, vb1, ht1, hvb1⟩ := id ta1.ex
  obtain ⟨sdx1, ks1, hp1, _⟩ := id st1.ex
  obtain ⟨c1, rfl, hc1⟩ := hvb1.nsI
  have hlast : atI ((bs ++ [l]).map vN) (-1) = some (vN l) := by rw [List.map_append]; exact atI_last _ _
  refine ⟨_, rfl, tb, _, dx1, _, _, rfl, ht1, T.cl_Table, T.n_Table_store, rfl, p, sdx1, _, rfl, hp1, rfl, _, rfl, tb, _, dx1, _, _, rfl, ht1, T.cl_Table, T.n_Table_blocks, rfl, _, rfl, c1, _, _, _, rfl, rfl, SqT.of hc1, hlast, _, _, rfl, p, ca, ka, _, l, m, rfl, rfl, st1, hl, hm0, fun H2 f2 st2 => ?_⟩
  have ta2 := ta1.keep f2 (tab_ne ta1 st1)
  obtain ⟨dx2, vb2, ht2, hvb2⟩ := id ta2.ex
  obtain ⟨c2, rfl, hc2⟩ := hvb2.nsI
  refine ⟨_, rfl, tb, _, dx2, _, _, rfl, ht2, T.cl_Table, T.n_Table_blocks, rfl, _, rfl, _, rfl, ?_⟩
  dsimp only
  refine slA_at (K := K) hc2 fun H3 c3 s3 hc3 => ?_
  rw [List.map_append] at hc3
  rw [show [l].map vN = [vN l] from rfl, cut_neg1] at hc3
  refine ⟨_, rfl, ll1, fun e he => ?_⟩
  obtain ⟨s4, e4⟩ := gen_new (o := .tup [V.int b]) he rfl
  refine catA_at (K := K) (s4 _ _ hc3) e4 (by rw [List.length_map]; show _ + 1 ≤ 1000; omega) fun H5 c5 s5 hc5 => ?_
  have s6 := s3.trans (s4.trans s5)
  refine ⟨_, rfl, tb, _, dx2, _, rfl, s6 _ _ ht2, T.cl_Table, T.n_Table_blocks, by show 3 < 1000; omega, ?_⟩
  generalize hG : upd H5 tb _ = H6
  obtain ⟨f6, e6⟩ := gen_ins [tb] (s6 _ _ ht2) hG (.head _)
  have st5 := st2.up s6
  have ta5 := ta2.up s6
  exact q _ ((f1.sub (by simp)).trans ((f2.sub (by simp)).trans ((Fr.same s6).trans (f6.sub (by simp))))) (st5.keep f6 (tab_ne' ta5 st5).1 (tab_ne' ta5 st5).2) ⟨dx2, _, e6, At.up (at_ns (by rw [List.map_append]; exact hc5)) f6.t⟩
abbrev N_Table_cut : List Str := ["self", "many"]
theorem sc_Table_cut : FnScope N_Table_cut ["self", "many"] (defScope s_Table_cut) := ⟨rfl, rfl, rfl, by decide +kernel, rfl, by decide +kernel, by decide +kernel⟩
theorem ok_Table_cut (T : Txt K mg) : MFn P w K mg base 4 (He.ga K "Table") "cut" ["self", "many"] (Sp2 (p_Table_cut K)) := by
  refine mfn T.d_Table_cut T.m_Table_cut sc_Table_cut (fun _ _ _ _ _ _ us hl => match us, hl with | [_, _], _ => rfl) len2 fun cdv A outer s H vs Q E hr h => ?_
  obtain ⟨a0, a1, rfl, tb, p, ca, ka, S, bs, len, rfl, rfl, st, ta, hc, q⟩ := h
  refine ⟨_, pss_cons (ps_if (pt_not (pt_val (pe_g (ok_is_between T) (hr.mono (by decide)) (pa_cons (pv 1) (pa_cons (pe_int) (pa_cons (pe_fld (pv 0) rfl) pa_nil)))))) (pss_one (ps_never)) (pss_nil))
      (pss_cons (ps_while PassesOwn.never (PW.pt (pw_and (pt_cmpR op_ge (pe_op op_mul (pe_op op_sub (pe_callB call_len_seq (by rfl) T.b_len PySem.boot_len (pa_cons (pe_fld (pv 0) rfl) pa_nil)) (pe_int)) (pe_fld (pe_fld (pv 0) rfl) rfl)) (pv 1) (nomark _)) (pw_and1 (pt_cmpR op_gt (pe_callB call_len_seq (by rfl) T.b_len PySem.boot_len (pa_cons (pe_fld (pv 0) rfl) pa_nil)) (pe_int) (nomark _))))) (pss_cons (ps_expr (pe_m (ok_Store_release T) T.cl_Store (hr.mono (by decide)) (pe_fld (pv 0) rfl) (pa_cons (pe_ix ix_tup (pe_fld (pv 0) rfl) (pe_un un_neg (pe_int)) (fun _ _ => rfl)) pa_nil)))
      (pss_one (ps_fld (pv 0) (pe_slice sl_tupA (pe_fld (pv 0) rfl) po_none (po_some (pe_un un_neg (pe_int)))) rfl))))
      (pss_one (ps_fld (pv 0) (pv 1) rfl))), ?_⟩
  obtain ⟨dx, vb, ht, hvb⟩ := id ta.ex
  obtain ⟨sdx, ks, hp, _⟩ := id st.ex
  have hd1 : decide ((0 : Int) ≤ 0 ∧ (0 : Int) ≤ (len : Int)) = true := by simp
  refine ⟨_, rfl, _, rfl, tb, _, dx, _, _, rfl, ht, T.cl_Table, T.n_Table_length, rfl, _, _, _, rfl, _, _, _, rfl, rfl, rfl, ?_⟩
  rw [hd1]
  refine ⟨true, rfl, ?_⟩
  refine ⟨fun m σ H' => ∃ bs' S', σ = [some (.ref tb), some (.int 0)] ∧ m = bs'.length ∧ Fr [ca, ka, tb] H H' ∧ StoreAt K H' p ca ka S' ∧ TableAt K H' tb p bs' len ∧ S'.canRel bs'.reverse ∧ S'.relAll bs'.reverse = S.relAll bs.reverse,
    ⟨_, bs, S, rfl, rfl, Fr.refl _ _, st, ta, hc, rfl⟩, ?_⟩
  rintro m σ H' ⟨bs', S', rfl, rfl, f, st', ta', hc', e⟩
  obtain ⟨dx', vb', ht', hvb'⟩ := id ta'.ex
  obtain ⟨sdx', ks', hp', _⟩ := id st'.ex
  obtain ⟨c, rfl, hcc⟩ := hvb'.nsI
  have hs0 := st'.s0
  have hs1 := st'.s1
  refine ⟨_, rfl, tb, _, dx', _, _, rfl, ht', T.cl_Table, T.n_Table_blocks, rfl, c, _, rfl, .inr (SqT.of hcc), _, _, rfl, rfl, _, rfl, tb, _, dx', _, _, rfl, ht', T.cl_Table, T.n_Table_store, rfl, p, _, sdx', _, _, rfl, hp', T.cl_Store, T.n_Store_size, rfl, _, _, rfl, rfl, .inr (by constructor <;> omega), _, rfl, _, _, rfl, rfl, _, rfl, ?_⟩
  rw [List.length_map]
  rcases List.eq_nil_or_concat bs' with rfl | ⟨xs, l, rfl⟩
  · have hneg : ¬ ((((([] : List Nat).length : Nat) : Int) - 1) * (S'.size : Int) ≥ 0) := by
      show ¬ ((((0 : Nat) : Int) - 1) * (S'.size : Int) ≥ 0)
      omega
    rw [decide_eq_false hneg]
    refine ⟨_, rfl, _, rfl, tb, _, dx', _, rfl, ht', T.cl_Table, T.n_Table_length, by show 3 < 1000; omega, ?_⟩
    generalize hG : upd H' tb _ = H6
    obtain ⟨f6, e6⟩ := gen_ins [tb] ht' hG (.head _)
    exact q _ (f.trans (f6.sub (by simp))) (by rw [← e]; exact st'.keep f6 (tab_ne' ta' st').1 (tab_ne' ta' st').2) ⟨dx', _, e6, hvb'.up f6.t⟩
  · rw [List.concat_eq_append] at *
    have hpos : ((((xs ++ [l]).length : Nat) : Int) - 1) * (S'.size : Int) ≥ 0 := Int.mul_nonneg (by rw [List.length_append]; simp) (by omega)
    have hpos2 : (((xs ++ [l]).length : Nat) : Int) > 0 := by rw [List.length_append]; simp
    rw [decide_eq_true hpos]
    refine ⟨_, rfl, tb, _, dx', _, _, rfl, ht', T.cl_Table, T.n_Table_blocks, rfl, c, _, rfl, .inr (SqT.of hcc), _, _, rfl, rfl, _, rfl, ?_⟩
    rw [List.length_map, decide_eq_true hpos2]
    rw [List.reverse_append] at hc' e
    obtain ⟨⟨n, hn, h0⟩, hcr⟩ : (∃ n, S'.cts[l]? = some n ∧ 0 < n) ∧ (S'.rel l (S'.cts.getD l 0)).canRel xs.reverse := hc'
    have en : S'.cts.getD l 0 = n := by rw [List.getD_eq_getElem?_getD, hn]; rfl
    replace e : (S'.rel l (S'.cts.getD l 0)).relAll xs.reverse = S.relAll bs.reverse := e
    rw [en] at hcr e
    refine ⟨_, fun σ' H' h => ⟨xs.length, by rw [List.length_append]; exact Nat.lt_succ_self _, h⟩, ?_⟩
    have hlast : atI ((xs ++ [l]).map vN) (-1) = some (vN l) := by rw [List.map_append]; exact atI_last _ _
    refine ⟨_, rfl, tb, _, dx', _, _, rfl, ht', T.cl_Table, T.n_Table_store, rfl, p, sdx', _, rfl, hp', rfl, _, rfl, tb, _, dx', _, _, rfl, ht', T.cl_Table, T.n_Table_blocks, rfl, _, rfl, c, _, _, _, rfl, rfl, SqT.of hcc, hlast, _, _, rfl, p, ca, ka, _, l, n, rfl, rfl, st', hn, h0, fun H2 f2 st2 => ?_⟩
    have ta2 := ta'.keep f2 (tab_ne ta' st')
    obtain ⟨dx2, vb2, ht2, hvb2⟩ := id ta2.ex
    obtain ⟨c2, rfl, hc2⟩ := hvb2.nsI
    refine ⟨_, rfl, tb, _, dx2, _, _, rfl, ht2, T.cl_Table, T.n_Table_blocks, rfl, _, rfl, _, rfl, ?_⟩
    dsimp only
    refine slA_at (K := K) hc2 fun H3 c3 s3 hc3 => ?_
    rw [List.map_append] at hc3
    rw [show [l].map vN = [vN l] from rfl, cut_neg1] at hc3
    refine ⟨_, rfl, tb, _, dx2, _, rfl, s3 _ _ ht2, T.cl_Table, T.n_Table_blocks, by show 3 < 1000; omega, ?_⟩
    generalize hG : upd H3 tb _ = H6
    obtain ⟨f6, e6⟩ := gen_ins [tb] (s3 _ _ ht2) hG (.head _)
    have st3 := st2.up s3
    have ta3 := ta2.up s3
    exact ⟨xs, _, rfl, rfl, f.trans ((f2.sub (by simp)).trans ((Fr.same s3).trans (f6.sub (by simp)))), st3.keep f6 (tab_ne' ta3 st3).1 (tab_ne' ta3 st3).2, ⟨dx2, _, e6, At.up (at_ns hc3) f6.t⟩, hcr, e⟩
end
end Sv
end
section
set_option Elab.async false
set_option linter.all false
set_option maxRecDepth 100000
set_option maxHeartbeats 4000000
/-! The walk: Tree.__init__, beginnings, use, known. -/
namespace Sv
open PySem PySem.Spec PyProof.Rows L2
/-! ### tables by paths -/
abbrev Path := List Int
section
variable {β : Type}
def aget (l : List (Path × β)) (p : Path) : Option β := (l.find? fun q => decide (q.1 = p)).map (·.2)
def aput (l : List (Path × β)) (p : Path) (v : β) : List (Path × β) := if (l.any fun q => decide (q.1 = p)) = true then l.map (fun q => if q.1 = p then (q.1, v) else q) else l ++ [(p, v)]
def adrop (l : List (Path × β)) (p : Path) : List (Path × β) := l.filter fun q => decide (q.1 ≠ p)
end
def keyP (p : Path) : List L2.Key := p.map Sum.inl
theorem keyP_inj {p q : Path} (h : keyP p = keyP q) : p = q := by
  induction p generalizing q with
  | nil => cases q with
    | nil => rfl
    | cons y q => cases h
  | cons x p ih =>
    cases q with
    | nil => cases h
    | cons y q =>
      have h1 := List.cons.inj h
      rw [Sum.inl.inj h1.1, ih h1.2]
theorem keyP_v (p : Path) : (keyP p).map kV = p.map V.int := by unfold keyP; rw [List.map_map]; rfl
section
variable {β : Type} (g : β → V)
def mapD (l : List (Path × β)) : List (List L2.Key × V) := l.map fun q => (keyP q.1, g q.2)
theorem valV_mapD (p : Path) : ∀ l : List (Path × β), valV (mapD g l) (keyP p) = (aget l p).map g
  | [] => rfl
  | q :: r => by
    unfold aget
    show valV ((keyP q.1, g q.2) :: mapD g r) _ = _
    by_cases h : q.1 = p
    · rw [valV_pos (by rw [h]), List.find?_cons_of_pos (by simpa using h)]
      rfl
    · rw [valV_neg (fun e => h (keyP_inj e)), List.find?_cons_of_neg (by simpa using h), valV_mapD p r]
      rfl
theorem dec_keyP (q p : Path) : decide (keyP q = keyP p) = decide (q = p) := by
  by_cases h : q = p
  · rw [h]
    simp
  · rw [decide_eq_false h, decide_eq_false fun e => h (keyP_inj e)]
theorem putK_mapD (p : Path) (v : β) (l : List (Path × β)) : putK (mapD g l) (keyP p) (g v) = mapD g (aput l p v) := by
  unfold putK aput mapD
  have e : ((l.map fun q => (keyP q.1, g q.2)).any fun kv => decide (kv.1 = keyP p)) = l.any fun q => decide (q.1 = p) := by
    rw [List.any_map]
    congr 1
    funext q
    exact dec_keyP _ _
  rw [e]
  split
  · rw [List.map_map, List.map_map]
    refine List.map_congr_left fun q _ => ?_
    show (if keyP q.1 = keyP p then (keyP q.1, g v) else (keyP q.1, g q.2)) = (keyP (if q.1 = p then (q.1, v) else q).1, g (if q.1 = p then (q.1, v) else q).2)
    by_cases h : q.1 = p
    · rw [if_pos (by rw [h]), if_pos h]
    · rw [if_neg fun e => h (keyP_inj e), if_neg h]
  · rw [List.map_append]
    rfl
theorem dropK_mapD (p : Path) (l : List (Path × β)) : dropK (mapD g l) (keyP p) = mapD g (adrop l p) := by
  unfold dropK adrop mapD
  rw [List.filter_map]
  congr 1
  refine List.filter_congr fun q _ => ?_
  show decide (keyP q.1 ≠ keyP p) = _
  by_cases h : q.1 = p
  · rw [h]; simp
  · rw [decide_eq_true h]
    exact decide_eq_true fun e => h (keyP_inj e)
end
/-! ### the tree -/
structure TreeM where
  paths : List Path
  under : List (Path × Nat)
  used : List (Path × Int)
  clock : Int
structure TreeAt (K : PySem.W.Frag) (H : Hp) (tr ud us pl p : Addr) (T : TreeM) : Prop where
  ex : ∃ dx vs, H tr = some (.ins (He.ga K "Tree") dx [("store", .ref p), ("paths", .ref pl), ("under", .ref ud), ("used", .ref us), ("clock", .int T.clock)]) ∧ H pl = some (.lst vs) ∧ AtAll H vs (T.paths.map dVec) ∧
    H ud = some (.dT (mapD vN T.under)) ∧ H us = some (.dT (mapD V.int T.used))
  ne : ud ≠ us
theorem TreeAt.keep {K : PySem.W.Frag} {H H' : Hp} {tr ud us pl p : Addr} {T : TreeM} {F : List Addr} (h : TreeAt K H tr ud us pl p T) (f : Fr F H H') (n1 : tr ∉ F) (n2 : ud ∉ F) (n3 : us ∉ F) (n4 : pl ∉ F) : TreeAt K H' tr ud us pl p T := by
  obtain ⟨dx, vs, h1, h2, h3, h4, h5⟩ := h.ex
  exact ⟨⟨dx, vs, f.k _ _ n1 h1, f.k _ _ n4 h2, h3.up f.t, f.k _ _ n2 h4, f.k _ _ n3 h5⟩, h.ne⟩
theorem TreeAt.up {K : PySem.W.Frag} {H H' : Hp} {tr ud us pl p : Addr} {T : TreeM} (h : TreeAt K H tr ud us pl p T) (s : Same H H') : TreeAt K H' tr ud us pl p T := h.keep (F := []) (Fr.same s) (by simp) (by simp) (by simp) (by simp)
theorem ne_kind {H : Hp} {a b : Addr} {o u : HO} (h1 : H a = some o) (h2 : H b = some u) (h : o ≠ u) : a ≠ b := fun e => h (by rw [e, h2] at h1; exact (Option.some.inj h1).symm)
theorem tree_ne {K : PySem.W.Frag} {H : Hp} {tr ud us pl p : Addr} {T : TreeM} (h : TreeAt K H tr ud us pl p T) : tr ≠ ud ∧ tr ≠ us ∧ tr ≠ pl ∧ pl ≠ ud ∧ pl ≠ us := by
  obtain ⟨dx, vs, h1, h2, h3, h4, h5⟩ := h.ex
  exact ⟨ne_kind h1 h4 nofun, ne_kind h1 h5 nofun, ne_kind h1 h2 nofun, ne_kind h2 h4 nofun, ne_kind h2 h5 nofun⟩
theorem tree_store {K : PySem.W.Frag} {H : Hp} {tr ud us pl p p2 ca ka : Addr} {T : TreeM} {S : StoreM} (h : TreeAt K H tr ud us pl p T) (s : StoreAt K H p2 ca ka S) : tr ≠ ca ∧ tr ≠ ka ∧ ud ≠ ca ∧ ud ≠ ka ∧ us ≠ ca ∧ us ≠ ka := by
  obtain ⟨dx, vs, h1, h2, h3, h4, h5⟩ := h.ex
  obtain ⟨_, _, _, g1, g2, _⟩ := s.ex
  exact ⟨ne_kind h1 g1 nofun, ne_kind h1 g2 nofun, ne_kind h4 g1 nofun, ne_kind h4 g2 nofun, ne_kind h5 g1 nofun, ne_kind h5 g2 nofun⟩
theorem dget_u {H : Hp} {a b : Addr} {β : Type} {g : β → V} {l : List (Path × β)} {p : Path} (h : H a = some (.dT (mapD g l))) (hb : H b = some (.tup (p.map V.int))) : DGet H a (.ref b) ((aget l p).map g) := by
  rw [← valV_mapD]
  exact DGet.t h (by rw [keyP_v]; exact hb)
theorem dput_u {H : Hp} {a b : Addr} {β : Type} {g : β → V} {l : List (Path × β)} {p : Path} {v : β} (h : H a = some (.dT (mapD g l))) (hb : H b = some (.tup (p.map V.int))) (hl : l.length ≤ 1000) : DPut H a (.ref b) (g v) (L2.upd H a (.dT (mapD g (aput l p v)))) := by
  rw [← putK_mapD]
  exact DPut.t h (by rw [keyP_v]; exact hb) (small1000 (by unfold mapD; rw [List.length_map]; exact hl))
/-! ### what the functions tell -/
def begM (U : Path → Bool) (size : Nat) (ls : Path) : Nat → Nat → List Path
  | 0, _ => []
  | f + 1, n => if n ≤ ls.length ∧ U (ls.take n) = true then ls.take n :: begM U size ls f (n + size) else []
def TreeM.has (T : TreeM) (p : Path) : Bool := (aget T.under p).isSome
def TreeM.begs (T : TreeM) (size : Nat) (ls : Path) : List Path := begM T.has size ls (ls.length + 1) size
def TreeM.use (T : TreeM) (ps : List Path) : TreeM := { T with clock := T.clock + 1, used := ps.foldl (fun u p => aput u p (T.clock + 1)) T.used }
def p_Tree_init (K : PySem.W.Frag) : P2 := fun a b H Q => ∃ (tr dx p : Addr), a = .ref tr ∧ b = .ref p ∧ H tr = some (.ins (He.ga K "Tree") dx []) ∧
  ∀ H' ud us pl, Fr [tr] H H' → H ud = none → H us = none → H pl = none → TreeAt K H' tr ud us pl p ⟨[], [], [], 0⟩ → Q .non H'
def p_Tree_beginnings (K : PySem.W.Frag) : P2 := fun a b H Q => ∃ (tr ud us pl p ca ka q : Addr) (T : TreeM) (S : StoreM) (ls : Path), a = .ref tr ∧ b = .ref q ∧ TreeAt K H tr ud us pl p T ∧ StoreAt K H p ca ka S ∧ H q = some (.tup (ls.map V.int)) ∧ ls.length ≤ 500 ∧
  ∀ H' o ys, Same H H' → H o = none → H' o = some (.lst ys) → AtAll H' ys ((T.begs S.size ls).map dVec) → Q (.ref o) H'
def p_Tree_use (K : PySem.W.Frag) : P2 := fun a b H Q => ∃ (tr ud us pl p o : Addr) (T : TreeM) (ys : List V) (ps : List Path), a = .ref tr ∧ b = .ref o ∧ TreeAt K H tr ud us pl p T ∧ H o = some (.lst ys) ∧ AtAll H ys (ps.map dVec) ∧ T.used.length + ps.length ≤ 1000 ∧
  ∀ H', Fr [tr, us] H H' → TreeAt K H' tr ud us pl p (T.use ps) → Q .non H'
def p_Tree_known (K : PySem.W.Frag) : P2 := fun a b H Q => ∃ (tr ud us pl p ca ka q : Addr) (T : TreeM) (S : StoreM) (ls : Path), a = .ref tr ∧ b = .ref q ∧ TreeAt K H tr ud us pl p T ∧ StoreAt K H p ca ka S ∧ H q = some (.tup (ls.map V.int)) ∧ ls.length ≤ 400 ∧
  T.used.length + (T.begs S.size ls).length ≤ 1000 ∧ (T.begs S.size ls).length ≤ 1000 ∧
  ∀ H' v, Fr [tr, us] H H' → TreeAt K H' tr ud us pl p (T.use (T.begs S.size ls)) → At H' v (dNs ((T.begs S.size ls).map fun p => (aget T.under p).getD 0)) → Q v H'
theorem begM_len (U : Path → Bool) (size : Nat) (ls : Path) : ∀ f n, (begM U size ls f n).length ≤ f
  | 0, _ => Nat.le_refl _
  | f + 1, n => by
    unfold begM
    split
    · rw [List.length_cons]; exact Nat.succ_le_succ (begM_len U size ls f _)
    · exact Nat.zero_le _
theorem begM_has (U : Path → Bool) (size : Nat) (ls : Path) : ∀ f n, ∀ p ∈ begM U size ls f n, U p = true
  | 0, _ => fun p h => by cases h
  | f + 1, n => by
    unfold begM
    split
    · rename_i h
      intro p hp
      rcases List.mem_cons.mp hp with e | hp
      · rw [e]; exact h.2
      · exact begM_has U size ls f _ p hp
    · intro p h; cases h
section
variable {P : Program} {w : World} {K : PySem.W.Frag} {mg : Str → Option Value} {base : Heap}
abbrev N_Tree_init : List Str := ["self", "store"]
theorem sc_Tree_init : FnScope N_Tree_init ["self", "store"] (defScope s_Tree_init) := ⟨rfl, rfl, rfl, by decide +kernel, rfl, by decide +kernel, by decide +kernel⟩
theorem ok_Tree_init (T : Txt K mg) : CFn P w K mg base 1 "Tree" (He.ga K "Tree") ["self", "store"] (Sp2 (p_Tree_init K)) := by
  refine cfn T.d_Tree_init T.mk_Tree T.g_Tree sc_Tree_init (fun _ _ _ _ _ _ us hl => match us, hl with | [_, _], _ => rfl) len2 fun cdv A outer s H vs Q E hr h => ?_
  obtain ⟨a0, a1, rfl, tr, dx, p, rfl, rfl, hp, q⟩ := h
  refine ⟨_, pss_cons (ps_fld (pv 0) (pv 1) rfl)
      (pss_cons (ps_fld (pv 0) (pe_lst pa_nil) rfl)
      (pss_cons (ps_fld (pv 0) (pe_dnewT) rfl)
      (pss_cons (ps_fld (pv 0) (pe_dnewT) rfl)
      (pss_one (ps_fld (pv 0) (pe_int) rfl))))), ?_⟩
  refine ⟨_, rfl, _, rfl, tr, _, dx, _, rfl, hp, T.cl_Tree, T.n_Tree_store, by show 0 < 1000; omega, ?_⟩
  generalize hG : upd H tr _ = H1
  obtain ⟨f1, e1⟩ := gen_ins [tr] hp hG (.head _)
  refine ⟨ll0, fun pl hpl => ⟨_, rfl, tr, _, dx, _, rfl, same_new hpl _ _ e1, T.cl_Tree, T.n_Tree_paths, by show 1 < 1000; omega, ?_⟩⟩
  obtain ⟨s2, e2⟩ := gen_new (o := .lst []) hpl rfl
  generalize hG : upd (upd H1 pl (.lst [])) tr _ = H3
  obtain ⟨f3, e3⟩ := gen_ins [tr] (s2 _ _ e1) hG (.head _)
  have npl : pl ≠ tr := fun z => by rw [z, e1] at hpl; cases hpl
  have a3 := f1.trans ((Fr.same s2).trans f3)
  have p3 := f3.k _ _ (by simp; exact npl) e2
  refine fun ud hud => ⟨_, rfl, tr, _, dx, _, rfl, same_new hud _ _ e3, T.cl_Tree, T.n_Tree_under, by show 2 < 1000; omega, ?_⟩
  obtain ⟨s4, e4⟩ := gen_new (o := .dT []) hud rfl
  generalize hG : upd (upd H3 ud (.dT [])) tr _ = H5
  obtain ⟨f5, e5⟩ := gen_ins [tr] (s4 _ _ e3) hG (.head _)
  have nud : ud ≠ tr := fun z => by rw [z, e3] at hud; cases hud
  have a5 := a3.trans ((Fr.same s4).trans f5)
  have p5 := f5.k _ _ (by simp; exact npl) (s4 _ _ p3)
  have u5 := f5.k _ _ (by simp; exact nud) e4
  refine fun us hus => ⟨_, rfl, tr, _, dx, _, rfl, same_new hus _ _ e5, T.cl_Tree, T.n_Tree_used, by show 3 < 1000; omega, ?_⟩
  obtain ⟨s6, e6⟩ := gen_new (o := .dT []) hus rfl
  generalize hG : upd (upd H5 us (.dT [])) tr _ = H7
  obtain ⟨f7, e7⟩ := gen_ins [tr] (s6 _ _ e5) hG (.head _)
  have nus : us ≠ tr := fun z => by rw [z, e5] at hus; cases hus
  have a7 := a5.trans ((Fr.same s6).trans f7)
  have p7 := f7.k _ _ (by simp; exact npl) (s6 _ _ p5)
  have u7 := f7.k _ _ (by simp; exact nud) (s6 _ _ u5)
  have v7 := f7.k _ _ (by simp; exact nus) e6
  refine ⟨_, rfl, tr, _, dx, _, rfl, e7, T.cl_Tree, T.n_Tree_clock, by show 4 < 1000; omega, ?_⟩
  generalize hG : upd H7 tr _ = H8
  obtain ⟨f8, e8⟩ := gen_ins [tr] e7 hG (.head _)
  have fr : ∀ {Hx : Hp} {o : HO} {x : Addr}, Fr [tr] H Hx → Hx tr = some o → Hx x = none → H x = none := fun f e hx => f.fresh hx (fun y hy => by rw [List.mem_singleton.mp hy, e]; simp)
  refine q _ ud us pl (a7.trans f8) (fr a3 e3 hud) (fr a5 e5 hus) (fr f1 e1 hpl) ⟨⟨dx, [], e8, f8.k _ _ (by simp; exact npl) p7, .nil, f8.k _ _ (by simp; exact nud) u7, f8.k _ _ (by simp; exact nus) v7⟩, fun z => ?_⟩
  rw [z, hus] at u5
  cases u5
abbrev N_Tree_beginnings : List Str := ["self", "letters", "found", "length"]
theorem sc_Tree_beginnings : FnScope N_Tree_beginnings ["self", "letters"] (defScope s_Tree_beginnings) := ⟨rfl, rfl, rfl, by decide +kernel, rfl, by decide +kernel, by decide +kernel⟩
theorem ok_Tree_beginnings (T : Txt K mg) : MFn P w K mg base 1 (He.ga K "Tree") "beginnings" ["self", "letters"] (Sp2 (p_Tree_beginnings K)) := by
  refine mfn T.d_Tree_beginnings T.m_Tree_beginnings sc_Tree_beginnings (fun _ _ _ _ _ _ us hl => match us, hl with | [_, _], _ => rfl) len2 fun cdv A outer s H vs Q E hr h => ?_
  obtain ⟨a0, a1, rfl, tr, ud, us, pl, p, ca, ka, b, M, S, ls, rfl, rfl, ta, st, hb, hll, q⟩ := h
  refine ⟨_, pss_cons (ps_set (i := 1) sc_Tree_beginnings.nd rfl (Or.inl rfl) (pe_callTy call_tuple_of (by rfl) T.b_tuple (by decide +kernel) (pa_cons (pv 1) pa_nil)))
      (pss_cons (ps_set (i := 2) sc_Tree_beginnings.nd rfl (Or.inl rfl) (pe_lst pa_nil))
      (pss_cons (ps_set (i := 3) sc_Tree_beginnings.nd rfl (Or.inl rfl) (pe_fld (pe_fld (pv 0) rfl) rfl))
      (pss_cons (ps_while PassesOwn.never (PW.pt (pw_and (pt_cmpR op_le (pv 3) (pe_callB call_len_seq (by rfl) T.b_len PySem.boot_len (pa_cons (pv 1) pa_nil)) (nomark _)) (pw_and1 (pt_cmp (pc_din (hu_of hr) (pe_slice sl_tupA (pv 1) po_none (po_some (pv 3))) (pe_fld (pv 0) rfl)))))) (pss_cons (ps_expr (pe_bm PySem.F.plainAttrs_list PySem.F.slot_list_append PySem.F.type_list_append mt_append (pv 2) (pa_cons (pe_slice sl_tupA (pv 1) po_none (po_some (pv 3))) pa_nil)))
      (pss_one (ps_aug (i := 3) sc_Tree_beginnings.nd rfl (Or.inl rfl) (pe_fld (pe_fld (pv 0) rfl) rfl) ip_add))))
      (pss_one (ps_ret (pv 2)))))), ?_⟩
  obtain ⟨dx, vs, h1, h2, h3, h4, h5⟩ := id ta.ex
  obtain ⟨sdx, ks, hp, _⟩ := id st.ex
  have hs0 := st.s0
  refine ⟨_, rfl, b, _, rfl, .inr ⟨SqT.of hb, ll0, fun o ho => ?_⟩⟩
  generalize hG : upd H o _ = H1
  obtain ⟨s1, e1⟩ := gen_new ho hG
  refine ⟨_, rfl, tr, _, dx, _, _, rfl, s1 _ _ h1, T.cl_Tree, T.n_Tree_store, rfl, p, _, sdx, _, _, rfl, s1 _ _ hp, T.cl_Store, T.n_Store_size, rfl, ?_⟩
  refine ⟨fun m σ H' => ∃ (n f : Nat) (acc : List Path) (ys : List V), σ = [some (.ref tr), some (.ref b), some (.ref o), some (.int n)] ∧ Same H H' ∧ H' o = some (.lst ys) ∧ AtAll H' ys (acc.map dVec) ∧ m = f ∧ ls.length + 1 ≤ f + n ∧ 0 < n ∧ acc.length + f ≤ ls.length + 1 ∧ acc ++ begM M.has S.size ls f n = M.begs S.size ls,
    ⟨_, S.size, ls.length + 1, [], [], rfl, s1, e1, .nil, rfl, by omega, by omega, by simp, rfl⟩, ?_⟩
  rintro m σ H' ⟨n, f, acc, ys, rfl, s, hy, hys, rfl, hf, hn, hal, e⟩
  refine ⟨_, rfl, _, rfl, b, _, rfl, .inr (SqT.of (s _ _ hb)), _, _, rfl, rfl, _, rfl, ?_⟩
  rw [List.length_map]
  by_cases hle : (n : Int) ≤ (ls.length : Nat)
  · rw [decide_eq_true hle]
    obtain ⟨f', rfl⟩ : ∃ f', m = f' + 1 := ⟨m - 1, by omega⟩
    unfold begM at e
    refine ⟨_, rfl, _, rfl, _, rfl, ?_⟩
    dsimp only
    refine slA_at (K := K) (s _ _ hb) fun H2 c2 s2 hc2 => ?_
    rw [cut_take, ← List.map_take] at hc2
    have s3 := s.trans s2
    refine ⟨_, rfl, tr, _, dx, _, _, rfl, s3 _ _ h1, T.cl_Tree, T.n_Tree_under, rfl, ud, _, rfl, dget_u (s3 _ _ h4) hc2, _, rfl, ?_⟩
    rw [Option.isSome_map]
    by_cases hh : (aget M.under (ls.take n)).isSome = true
    · rw [hh]
      rw [if_pos ⟨by omega, hh⟩] at e
      have hy3 := s2 _ _ hy
      refine ⟨_, fun σ' H' h => ⟨f', Nat.lt_succ_self _, h⟩, _, rfl, ty_l hy3, _, rfl, _, rfl, _, rfl, ?_⟩
      dsimp only
      refine slA_at (K := K) (s3 _ _ hb) fun H4 c4 s4 hc4 => ?_
      rw [cut_take, ← List.map_take] at hc4
      have s5 := s3.trans s4
      have hy5 := s4 _ _ hy3
      have l1 := hys.len
      rw [List.length_map] at l1
      refine ⟨o, ys, _, rfl, rfl, hy5, small1000 (by omega), ?_⟩
      have tu : Tups H4 (upd H4 o (.lst (ys ++ [V.ref c4]))) := tups_upd hy5 rfl
      have s6 : Same H (upd H4 o (.lst (ys ++ [V.ref c4]))) := fun z u hz => by
        rw [upd_ne (ne_of_none hz ho)]
        exact s5 _ _ hz
      refine ⟨_, rfl, _, rfl, tr, _, dx, _, _, rfl, s6 _ _ h1, T.cl_Tree, T.n_Tree_store, rfl, p, _, sdx, _, _, rfl, s6 _ _ hp, T.cl_Store, T.n_Store_size, rfl, _, _, rfl, rfl, ?_⟩
      refine ⟨n + S.size, f', acc ++ [ls.take n], _, rfl, s6, upd_same, ?_, rfl, by omega, by omega, by rw [List.length_append]; show _ + 1 + _ ≤ _; omega, by rw [List.append_assoc]; exact e⟩
      rw [List.map_append]
      exact ((hys.up (s2.trans s4).tups).snoc (at_vec hc4)).up tu
    · have hh' : (aget M.under (ls.take n)).isSome = false := by simpa using hh
      rw [hh']
      rw [if_neg fun h => hh h.2, List.append_nil] at e
      refine ⟨_, rfl, q _ o ys s3 ho (s2 _ _ hy) ?_⟩
      rw [← e]
      exact hys.up s2.tups
  · rw [decide_eq_false hle]
    have e' : begM M.has S.size ls m n = [] := by
      cases m with
      | zero => rfl
      | succ f => unfold begM; rw [if_neg fun h => hle (by omega)]
    rw [e', List.append_nil] at e
    refine ⟨_, rfl, q _ o ys s ho hy ?_⟩
    rw [← e]
    exact hys
abbrev N_Tree_use : List Str := ["self", "paths", "path"]
theorem sc_Tree_use : FnScope N_Tree_use ["self", "paths"] (defScope s_Tree_use) := ⟨rfl, rfl, rfl, by decide +kernel, rfl, by decide +kernel, by decide +kernel⟩
theorem ok_Tree_use (T : Txt K mg) : MFn P w K mg base 1 (He.ga K "Tree") "use" ["self", "paths"] (Sp2 (p_Tree_use K)) := by
  refine mfn T.d_Tree_use T.m_Tree_use sc_Tree_use (fun _ _ _ _ _ _ us hl => match us, hl with | [_, _], _ => rfl) len2 fun cdv A outer s H vs Q E hr h => ?_
  obtain ⟨a0, a1, rfl, tr, ud, us, pl, p, o, M, ys, ps, rfl, rfl, ta, ho, hys, hl, q⟩ := h
  refine ⟨_, pss_cons (ps_fldaug (pv 0) (pe_int) in_add)
      (pss_one (ps_for PassesOwn.never rfl (pi_list (pv 1)) (pg_name (i := 2) sc_Tree_use.nd rfl (Or.inl rfl))
      (pss_one (ps_dput (hu_of hr) (pe_fld (pv 0) rfl) (pv 2) (pe_fld (pv 0) rfl) rfl)))), ?_⟩
  obtain ⟨dx, vs, h1, h2, h3, h4, h5⟩ := id ta.ex
  obtain ⟨n1, n2, n3, n4, n5⟩ := tree_ne ta
  refine ⟨_, rfl, tr, _, dx, _, _, rfl, h1, T.cl_Tree, T.n_Tree_clock, rfl, _, _, rfl, rfl, dx, _, h1, by show 5 < 1000; omega, ?_⟩
  generalize hG : upd H tr _ = H1
  obtain ⟨f1, e1⟩ := gen_ins [tr] h1 hG (.head _)
  have no : o ≠ tr := ne_kind ho h1 nofun
  have nou : o ≠ us := ne_kind ho h5 nofun
  have ho1 := f1.k _ _ (by simp; exact no) ho
  have h51 := f1.k _ _ (by simp; exact n2.symm) h5
  have hlen : ∀ (v : Int) (l : List Path) (u : List (Path × Int)), (l.foldl (fun u p => aput u p v) u).length ≤ u.length + l.length := by
    intro v l
    induction l with
    | nil => intro u; exact Nat.le_refl _
    | cons p l ih =>
      intro u
      have := ih (aput u p v)
      have h2 : (aput u p v).length ≤ u.length + 1 := by
        unfold aput
        split
        · rw [List.length_map]; omega
        · rw [List.length_append]; exact Nat.le_refl _
      rw [List.foldl_cons, List.length_cons]
      omega
  refine ⟨_, rfl, o, rfl, ⟨_, SqL.of ho1⟩, for_list (K := K) (a := o) (xs := ys) (fun i σ H' => ∃ v2, σ = [some (.ref tr), some (.ref o), v2] ∧ Fr [tr, us] H H' ∧ (∃ dx', H' tr = some (.ins (He.ga K "Tree") dx' [("store", .ref p), ("paths", .ref pl), ("under", .ref ud), ("used", .ref us), ("clock", .int (M.clock + 1))])) ∧ H' us = some (.dT (mapD V.int ((ps.take i).foldl (fun u p => aput u p (M.clock + 1)) M.used))))
    ⟨none, rfl, f1.sub (by simp), ⟨dx, e1⟩, h51⟩ (fun i σ H' _ I => ?_) (fun i x σ H' hx I => ?_) fun σ H' I => ?_⟩
  · obtain ⟨_, _, f, _, _⟩ := I
    exact SqL.of (f.k _ _ (by simp; exact ⟨no, nou⟩) ho)
  · obtain ⟨v2, rfl, f, ⟨dx', e2⟩, hu⟩ := I
    obtain ⟨d, hd, hx'⟩ := hys.get hx
    obtain ⟨pa, ep, rfl⟩ := map_get hd
    obtain ⟨c, rfl, hc⟩ := (hx'.up f.t).vecI
    have hlt := (List.getElem?_eq_some_iff.mp ep).1
    have hl2 := hlen (M.clock + 1) (ps.take i) M.used
    rw [List.length_take] at hl2
    refine ⟨_, rfl, tr, _, dx', _, _, rfl, e2, T.cl_Tree, T.n_Tree_clock, rfl, _, rfl, tr, _, dx', _, _, rfl, e2, T.cl_Tree, T.n_Tree_used, rfl, _, rfl, us, _, rfl, dput_u (g := V.int) (v := M.clock + 1) hu hc (by omega), ?_⟩
    have tu := Fr.upd (S := [tr, us]) (o := .dT (mapD V.int (aput ((ps.take i).foldl (fun u p => aput u p (M.clock + 1)) M.used) pa (M.clock + 1)))) hu rfl (by simp)
    refine ⟨_, rfl, f.trans tu, ⟨dx', by rw [upd_ne n2]; exact e2⟩, ?_⟩
    rw [take_snoc ep, List.foldl_append]
    exact upd_same
  · obtain ⟨v2, rfl, f, ⟨dx', e2⟩, hu⟩ := I
    have : ys.length = ps.length := by rw [hys.len, List.length_map]
    rw [this, List.take_length] at hu
    exact q _ f ⟨⟨dx', vs, e2, f.k _ _ (by simp; exact ⟨n3.symm, n5⟩) h2, h3.up f.t, f.k _ _ (by simp; exact ⟨n1.symm, ta.ne⟩) h4, hu⟩, ta.ne⟩
abbrev N_Tree_known : List Str := ["self", "letters", "paths", "path"]
theorem sc_Tree_known : FnScope N_Tree_known ["self", "letters"] (defScope s_Tree_known) := ⟨rfl, rfl, rfl, by decide +kernel, rfl, by decide +kernel, by decide +kernel⟩
theorem ok_Tree_known (T : Txt K mg) : MFn P w K mg base 2 (He.ga K "Tree") "known" ["self", "letters"] (Sp2 (p_Tree_known K)) := by
  refine mfn T.d_Tree_known T.m_Tree_known sc_Tree_known (fun _ _ _ _ _ _ us hl => match us, hl with | [_, _], _ => rfl) len2 fun cdv A outer s H vs Q E hr h => ?_
  obtain ⟨a0, a1, rfl, tr, ud, us, pl, p, ca, ka, b, M, S, ls, rfl, rfl, ta, st, hb, hll, hl1, hl2, q⟩ := h
  refine ⟨_, pss_cons (ps_set (i := 2) sc_Tree_known.nd rfl (Or.inl rfl) (pe_m (ok_Tree_beginnings T) T.cl_Tree (hr.mono (by decide)) (pv 0) (pa_cons (pv 1) pa_nil)))
      (pss_cons (ps_expr (pe_m (ok_Tree_use T) T.cl_Tree (hr.mono (by decide)) (pv 0) (pa_cons (pv 2) pa_nil)))
      (pss_one (ps_ret (pe_callTy call_tuple_of (by rfl) T.b_tuple (by decide +kernel) (pa_cons (pe_lc (own := [("path", 3)]) rfl sc_Tree_known.nd (pi_list (pv 2)) (blkOk_by (N := N_Tree_known) (sc := defScope s_Tree_known) (by decide +kernel)) (fun _ _ _ _ _ => pg_name (i := 3) sc_Tree_known.nd rfl (Or.inl rfl) (hf := Or.inr rfl)) (fun _ _ _ _ _ => pts_nil) (fun _ _ _ _ _ => pe_dget (hu_of hr) (pe_fldK (K0 := K) (pv 0) rfl) (pv 3) (fun _ _ => rfl))) pa_nil))))), ?_⟩
  obtain ⟨dx, vs, h1, h2, h3, h4, h5⟩ := id ta.ex
  refine ⟨_, rfl, tr, dx, _, rfl, h1, rfl, _, rfl, _, _, rfl, tr, ud, us, pl, p, ca, ka, b, M, S, ls, rfl, rfl, ta, st, hb, by omega, fun H1 o ys s1 hon ho hys => ?_⟩
  refine ⟨_, rfl, tr, dx, _, rfl, s1 _ _ h1, rfl, _, rfl, _, _, rfl, tr, ud, us, pl, p, o, M, ys, _, rfl, rfl, ta.up s1, ho, hys, hl1, fun H2 f2 ta2 => ?_⟩
  have no : o ≠ tr := ne_kind ho (s1 _ _ h1) nofun
  have nou : o ≠ us := ne_kind ho (s1 _ _ h5) nofun
  have ho2 := f2.k _ _ (by simp; exact ⟨no, nou⟩) ho
  obtain ⟨dx2, vs2, g1, g2, g3, g4, g5⟩ := id ta2.ex
  refine ⟨_, rfl, o, rfl, ⟨_, SqL.of ho2⟩, fun D hD => lcd_list (ds1 := ((M.begs S.size ls).map fun p => (aget M.under p).getD 0).map (fun n : Nat => PyData.int n)) hD ho2 (hys.up f2.t) (by simp) (by simpa using hl2) (fun i x d H' hd hx s kp => ?_) fun H3 zs k1 k2 k3 => ?_⟩
  · obtain ⟨pa, ep, rfl⟩ := map_get hd
    obtain ⟨c, rfl, hc⟩ := hx.vecI
    have hh : M.has pa = true := begM_has M.has S.size ls _ _ pa (List.mem_of_getElem? ep)
    obtain ⟨n, en⟩ := Option.isSome_iff_exists.mp hh
    refine ⟨rfl, _, rfl, tr, _, dx2, _, _, rfl, s _ _ g1, T.cl_Tree, T.n_Tree_under, rfl, _, rfl, ud, _, rfl, ?_, kp (.int n) (vN n) _ ?_ (Same.refl _) (.int _)⟩
    · have := dget_u (s _ _ g4) hc
      rw [show aget (M.use (M.begs S.size ls)).under pa = some n from en] at this
      exact this
    · rw [List.getElem?_map, List.getElem?_map, ep]
      show some (PyData.int ((aget M.under pa).getD 0 : Nat)) = _
      rw [en]
      rfl
  · refine ⟨_, zs, rfl, .inl ⟨SqL.of k1, fun e he => q _ _ ((Fr.same s1).trans (f2.trans ((Fr.same k3).trans (Fr.same (same_new he))))) (ta2.up (k3.trans (same_new he))) ?_⟩⟩
    have := tl_at k2 he
    unfold dNs dVec
    rw [List.map_map]
    exact this
end
end Sv
end
section
set_option Elab.async false
set_option linter.all false
set_option maxRecDepth 100000
set_option maxHeartbeats 4000000
/-! Rules that the layer lacks: sorted of tuples of ints, of any lengths. -/
namespace Sv
open PySem PySem.Spec PyProof.Rows L2
def rSortVec (K : PySem.W.Frag) : List V → Hp → VK → Prop := fun vs H Q => ∃ (a : Addr) (bs : List (Addr × Path)), vs = [.ref a] ∧ SqL K H a (bs.map fun b => .ref b.1) ∧ (∀ b ∈ bs, H b.1 = some (.tup (b.2.map V.int)) ∧ b.2 ≠ []) ∧ bs.length ≤ 1000 ∧
  ∀ (bs' : List (Addr × Path)) p, bs'.Perm bs → H p = none → Q (.ref p) (upd H p (.lst (bs'.map fun b => .ref b.1)))
abbrev RSv (u : Value) (b : Addr × Path) : Prop := u = Value.ref b.1
theorem each_sv : ∀ {bs : List (Addr × Path)} {us : List Value}, Vals (bs.map fun b => V.ref b.1) us → PySem.W.EachIs RSv us bs
  | [], _, h => by cases h; exact .nil
  | b :: bs, _, h => by
    cases h with
    | cons h1 h2 => exact .cons h1 (each_sv h2)
theorem vals_sv : ∀ {us : List Value} {bs : List (Addr × Path)}, PySem.W.EachIs RSv us bs → Vals (bs.map fun b => V.ref b.1) us
  | _, _, .nil => .nil
  | _, _, .cons h1 h2 => .cons h1 (vals_sv h2)
theorem depth_vec (ns : Path) : (dVec ns).depth ≤ 1 := by
  unfold dVec
  simp [PyData.depth, depthAll_ints]
theorem each_rd {X : Cx} {pins : List (Addr × Obj)} {σ : L2.St} {H : Hp} {s : Shared} (I : Inv X pins σ H s) : ∀ {us : List Value} {bs : List (Addr × Path)}, PySem.W.EachIs RSv us bs → (∀ b ∈ bs, H b.1 = some (.tup (b.2.map V.int)) ∧ b.2 ≠ []) →
    PySem.W.EachIs (fun v (b : Addr × Path) => ∃ as, Reads s.heap v (dVec b.2) as) us bs
  | _, _, .nil, _ => .nil
  | _, _, .cons h1 h2, h => .cons (Dp.reads I _ _ _ (At.dp _ _ (at_vec (h _ List.mem_cons_self).1)) h1) (each_rd I h2 fun b hb => h b (List.mem_cons_of_mem _ hb))
theorem cr_sortedP {X : Cx} (hu : X.A.units + 64 < cLine) : CallR X (.builtin "sorted") (rSortVec X.K) := by
  intro pins s σ H vs us Q I r h
  obtain ⟨a, bs, rfl, hs, hb, hl, q⟩ := h
  obtain ⟨its, rv, pl, _⟩ := I.list hs
  rw [Vals.ref1 r]
  have e := each_sv rv
  refine PySem.W.sorted_data (enc := fun b : Addr × Path => dVec b.2) (R := RSv) pl.isList e (each_rd I e hb) (PySem.W.AllAlike.of fun b b' => ?_) (.inl fun d hd => ?_) (Nat.le_of_lt (small1000 hl)) (fun b _ => ?_) fun out ho eo => ?_
  · show PySem.W.alike (dVec b.2) (dVec b'.2) = true
    unfold dVec
    rw [PySem.W.alike]
    exact PySem.W.alike_ints _ _
  · obtain ⟨b, hm, rfl⟩ := List.mem_map.mp hd
    have h2 := (hb b hm).2
    show ∃ x r, dVec b.2 = .tuple (x :: r)
    cases e : b.2 with
    | nil => exact (h2 e).elim
    | cons x r => exact ⟨_, _, rfl⟩
  · have := depth_vec b.2
    omega
  · obtain ⟨ep, he'⟩ := PyProof.Rows.sortedAll_at s.heap its out.toArray
    have hp := List.mergeSort_perm bs (PySem.W.dataLe false fun b : Addr × Path => dVec b.2)
    refine ⟨.ref _, _, I.laid (a := s.heap.objs.size + 1) (o := .lst ((bs.mergeSort (PySem.W.dataLe false fun b : Addr × Path => dVec b.2)).map fun b => .ref b.1)) (t' := s.toks) (fun _ _ => PyProof.Rows.sortedAll_old) (Nat.le_succ _) ⟨?_, out, ep, vals_sv eo, he'⟩, rfl, q _ _ hp (I.hok.fresh (Nat.le_succ _))⟩
    rw [List.length_map, hp.length_eq]
    exact Nat.le_of_lt (small1000 hl)
/-! ### del d[tuple] -/
def sDDelT (td ty : TE) : TS := fun D σ H => td σ H fun x H1 => ty σ H1 fun y H2 => ∃ a kvs k b, x = .ref a ∧ H2 a = some (.dT kvs) ∧ y = .ref b ∧ H2 b = some (.tup (k.map kV)) ∧ (valV kvs k).isSome = true ∧ D.nx σ (upd H2 a (.dT (dropK kvs k)))
theorem d_delItemT {X : Cx} {pins : List (Addr × Obj)} {σ : L2.St} {H : Hp} {s : Shared} {a b : Addr} {kvs : List (List L2.Key × V)} {k : List L2.Key} {A : Around} {E : Value → Shared → Prop} {Q : Unit → Shared → Prop} (hu : A.units + 1 < cLine) (I : Inv X pins σ H s) (ha : H a = some (.dT kvs)) (hb : H b = some (.tup (k.map kV)))
    (l : (valV kvs k).isSome = true) (h : ∀ s', Inv X pins σ (upd H a (.dT (dropK kvs k))) s' → Q () s') : wpAny (model X.prog X.w) A (delItem (.ref a) (.ref b)) Q E s := by
  obtain ⟨z, hd, xs', rel, dd⟩ := dt_of I.hok ha
  have hz : xs'.length ≤ sizeLine := by rw [← Paired.length rel]; exact z
  have r := rel.val k
  cases hp : PySem.atKey xs' k with
  | none =>
    rw [hp] at r
    cases ev : valV kvs k with
    | none => rw [ev] at l; cases l
    | some v0 => rw [ev] at r; exact (show False from r).elim
  | some p =>
    refine PySem.wpAny_delItem_heap (knd := tupleKind (mixKind X.prog X.w)) (k := k) (hsz := hz) (tupleKind_room_in1 hu) (key_of I.hok hb) hd dd hp fun h' dd' hs => h _ ?_
    obtain ⟨o, es, ep, hq, h2, h3, h4, h6, h5⟩ := dd'
    exact d_write (t' := s.toks + _) I (by rw [ha]; exact True.intro) hs ⟨o, hq⟩ ⟨Nat.le_trans (dropK_le kvs k) z, hd, _, (DX.KT_drop k rel).keeps (fun c ys ec => (by rw [upd_ne (ne_of ec ha (fun z => nomatch z))]; exact ec)), o, es, ep, hq, h2, h3, h4, h5⟩
theorem ps_ddelT {X : Cx} {o i : Expr} {pos tpos : Pos} {td ty : TE} (hu : X.A.units + 1 < cLine) (ho : PE X o td) (hi : PE X i ty) : PS X (.Delete [.Subscript o i tpos] pos) (sDDelT td ty) := by
  refine ⟨fun pins s σ H D I h => ?_⟩
  refine wpAny_Delete (wpAny_deleteEach_cons (wpAny_delete_Subscript (thn (ho.run pins s σ H _ I h) fun u s1 ⟨x, H1, I1, rx, q1⟩ => thn (hi.run pins s1 σ H1 _ I1 q1) fun iv s2 ⟨y, H2, I2, ry, a, kvs, k, b, ex, e, ey, eb, l, q2⟩ => ?_)))
  subst ex ey
  obtain rfl : u = Value.ref a := rx
  obtain rfl : iv = Value.ref b := ry
  exact d_delItemT hu I2 e eb l fun s3 I3 => wpAny_deleteEach_nil ⟨σ, _, I3, q2⟩
end Sv
end
section
set_option Elab.async false
set_option linter.all false
set_option maxRecDepth 100000
set_option maxHeartbeats 4000000
/-! The walk: Tree.put. -/
namespace Sv
open PySem PySem.Spec PyProof.Rows L2
def TreeM.putIn (T : TreeM) (size : Nat) (ls : Path) : Bool := !T.has ls && ((ls.take (ls.length - size)).isEmpty || T.has (ls.take (ls.length - size)))
def TreeM.ins (T : TreeM) (ls : Path) (b : Nat) (ps : List Path) : TreeM := { T with under := aput T.under ls b, paths := ps }
def p_Tree_put (K : PySem.W.Frag) : P3 := fun a b c H Q => ∃ (tr ud us pl p ca ka q : Addr) (T : TreeM) (S : StoreM) (ls : Path) (bk n : Nat), a = .ref tr ∧ b = .ref q ∧ c = .int bk ∧ TreeAt K H tr ud us pl p T ∧ StoreAt K H p ca ka S ∧ H q = some (.tup (ls.map V.int)) ∧ ls.length ≤ 400 ∧ S.size ≤ ls.length ∧
  S.cts[bk]? = some n ∧ 0 < n ∧ pl ∉ [ca, ka] ∧ T.used.length ≤ 500 ∧ T.paths.length ≤ 500 ∧ T.under.length ≤ 500 ∧ (∀ x ∈ T.paths, x ≠ []) ∧
  (T.putIn S.size ls = true → ∀ H' pl' ps', Fr [ca, ka, tr, ud, us] H H' → H pl' = none → ps'.Perm (T.paths ++ [ls]) → StoreAt K H' p ca ka (S.setC bk (n + 1)) → TreeAt K H' tr ud us pl' p ((T.ins ls bk ps').use ((T.ins ls bk ps').begs S.size ls)) →
    Q (.int (((aget (T.ins ls bk ps').under ls).getD bk : Nat) : Int)) H') ∧
  (T.putIn S.size ls = false → ∀ H', Fr [tr, us] H H' → StoreAt K H' p ca ka S → TreeAt K H' tr ud us pl p (T.use (T.begs S.size ls)) → Q (.int (((aget T.under ls).getD bk : Nat) : Int)) H')
theorem atAll_refs {H : Hp} : ∀ {vs : List V} {ps : List Path}, AtAll H vs (ps.map dVec) → ∃ bs : List (Addr × Path), vs = bs.map (fun b => V.ref b.1) ∧ bs.map (·.2) = ps ∧ ∀ b ∈ bs, H b.1 = some (.tup (b.2.map V.int))
  | _, [], h => by cases h; exact ⟨[], rfl, rfl, by simp⟩
  | _, p :: ps, h => by
    cases h with
    | cons h1 h2 =>
      obtain ⟨a, rfl, ha⟩ := h1.vecI
      obtain ⟨bs, e1, e2, e3⟩ := atAll_refs h2
      refine ⟨(a, p) :: bs, by rw [e1]; rfl, by rw [List.map_cons, e2], fun b hb => ?_⟩
      rcases List.mem_cons.mp hb with rfl | hb
      · exact ha
      · exact e3 b hb
theorem refs_atAll {H : Hp} : ∀ {bs : List (Addr × Path)}, (∀ b ∈ bs, H b.1 = some (.tup (b.2.map V.int))) → AtAll H (bs.map fun b => V.ref b.1) ((bs.map (·.2)).map dVec)
  | [], _ => .nil
  | b :: bs, h => .cons (at_vec (h b List.mem_cons_self)) (refs_atAll fun x hx => h x (List.mem_cons_of_mem _ hx))
section
variable {P : Program} {w : World} {K : PySem.W.Frag} {mg : Str → Option Value} {base : Heap}
/-- the end of put: use(beginnings), get -/
theorem getD_map {x : Option Nat} {b : Nat} : (x.map vN).getD (.int b) = .int ((x.getD b : Nat) : Int) := by cases x <;> rfl
abbrev N_Tree_put : List Str := ["self", "path", "block", "ahead"]
theorem sc_Tree_put : FnScope N_Tree_put ["self", "path", "block"] (defScope s_Tree_put) := ⟨rfl, rfl, rfl, by decide +kernel, rfl, by decide +kernel, by decide +kernel⟩
theorem ok_Tree_put (T : Txt K mg) : MFn P w K mg base 4 (He.ga K "Tree") "put" ["self", "path", "block"] (Sp3 (p_Tree_put K)) := by
  refine mfn T.d_Tree_put T.m_Tree_put sc_Tree_put (fun _ _ _ _ _ _ us hl => match us, hl with | [_, _, _], _ => rfl) len3 fun cdv A outer s H vs Q E hr h => ?_
  obtain ⟨a0, a1, a2, rfl, tr, ud, us, pl, p, ca, ka, q0, M, S, ls, bk, n, rfl, rfl, rfl, ta, st, hq, hll, hsl, hb, h0, hpl, hu5, hp5, hd5, hne, q1, q2⟩ := h
  refine ⟨_, pss_cons (ps_set (i := 1) sc_Tree_put.nd rfl (Or.inl rfl) (pe_callTy call_tuple_of (by rfl) T.b_tuple (by decide +kernel) (pa_cons (pv 1) pa_nil)))
      (pss_cons (ps_set (i := 3) sc_Tree_put.nd rfl (Or.inl rfl) (pe_slice sl_tupA (pv 1) po_none (po_some (pe_op op_sub (pe_callB call_len_seq (by rfl) T.b_len PySem.boot_len (pa_cons (pv 1) pa_nil)) (pe_fld (pe_fld (pv 0) rfl) rfl)))))
      (pss_cons (ps_if (PW.pt (pw_and (pt_cmp (pc_dnotin (hu_of hr) (pv 1) (pe_fld (pv 0) rfl))) (pw_and1 (PW.pt (pw_or (pt_cmpR op_eq (pe_callB call_len_seq (by rfl) T.b_len PySem.boot_len (pa_cons (pv 3) pa_nil)) (pe_int) (nomark _)) (pw_or1 (pt_cmp (pc_din (hu_of hr) (pv 3) (pe_fld (pv 0) rfl))))))))) (pss_cons (ps_expr (pe_m (ok_Store_hold T) T.cl_Store (hr.mono (by decide)) (pe_fld (pv 0) rfl) (pa_cons (pv 2) pa_nil)))
      (pss_cons (ps_dput (hu_of hr) (pe_fld (pv 0) rfl) (pv 1) (pv 2) rfl)
      (pss_one (ps_fld (pv 0) (pe_callB (cr_sortedP hr.units) (by rfl) T.b_sorted (by decide +kernel) (pa_cons (pe_op op_cat (pe_fld (pv 0) rfl) (pe_lst (pa_cons (pv 1) pa_nil))) pa_nil)) rfl)))) (pss_nil))
      (pss_cons (ps_expr (pe_m (ok_Tree_use T) T.cl_Tree (hr.mono (by decide)) (pv 0) (pa_cons (pe_m (ok_Tree_beginnings T) T.cl_Tree (hr.mono (by decide)) (pv 0) (pa_cons (pv 1) pa_nil)) pa_nil)))
      (pss_one (ps_ret (pe_dget2 (hu_of hr) (pe_fld (pv 0) rfl) (pv 1) (pv 2) ⟨rfl, rfl, rfl, rfl⟩)))))), ?_⟩
  obtain ⟨dx, vs, h1, h2, h3, h4, h5⟩ := id ta.ex
  obtain ⟨sdx, ks, hp, _⟩ := id st.ex
  obtain ⟨n1, n2, n3, n4, n5⟩ := tree_ne ta
  obtain ⟨m1, m2, m3, m4, m5, m6⟩ := tree_store ta st
  refine ⟨_, rfl, q0, _, rfl, .inr ⟨SqT.of hq, ?_⟩⟩
  have elo : (((ls.map V.int).length : Nat) : Int) - (S.size : Int) = ((ls.length - S.size : Nat) : Int) := by rw [List.length_map]; omega
  refine ⟨_, rfl, _, rfl, q0, _, rfl, .inr (SqT.of hq), _, rfl, tr, _, dx, _, _, rfl, h1, T.cl_Tree, T.n_Tree_store, rfl, p, _, sdx, _, _, rfl, hp, T.cl_Store, T.n_Store_size, rfl, _, _, rfl, rfl, _, congrArg V.int elo, ?_⟩
  dsimp only
  refine slA_at (K := K) hq fun H1 c1 s1 hc1 => ?_
  rw [cut_take, ← List.map_take] at hc1
  have ta1 := ta.up s1
  have st1 := st.up s1
  have hq1 := s1 _ _ hq
  refine ⟨_, rfl, _, rfl, tr, _, dx, _, _, rfl, s1 _ _ h1, T.cl_Tree, T.n_Tree_under, rfl, ud, _, rfl, dget_u (s1 _ _ h4) hq1, _, rfl, ?_⟩
  rw [Option.isSome_map]
  have hsz : (c1 = c1) := rfl
  by_cases hh : (aget M.under ls).isSome = true
  · rw [hh]
    have hpi : M.putIn S.size ls = false := by
      unfold TreeM.putIn TreeM.has
      rw [hh]
      rfl
    obtain ⟨dx2, vs2, g1, g2, g3, g4, g5⟩ := id ta1.ex
    have hbl := begM_len M.has S.size ls (ls.length + 1) S.size
    refine ⟨_, rfl, tr, dx2, _, rfl, g1, rfl, _, rfl, tr, dx2, _, rfl, g1, rfl, _, rfl, _, _, rfl, tr, ud, us, pl, p, ca, ka, q0, M, _, ls, rfl, rfl, ta1, st1, hq1, by omega, fun H8 o ys s8 hon ho hys => ?_⟩
    refine ⟨_, _, rfl, tr, ud, us, pl, p, o, M, ys, _, rfl, rfl, ta1.up s8, ho, hys, ?_, fun H9 f9 ta9 => ?_⟩
    · show M.used.length + (begM _ _ _ _ _).length ≤ 1000
      have : (begM M.has S.size ls (ls.length + 1) S.size).length ≤ ls.length + 1 := hbl
      exact Nat.le_trans (Nat.add_le_add hu5 this) (by omega)
    obtain ⟨dx9, vs9, k1, k2, k3, k4, k5⟩ := id ta9.ex
    refine ⟨_, rfl, tr, _, dx9, _, _, rfl, k1, T.cl_Tree, T.n_Tree_under, rfl, ud, rfl, .inr ⟨_, .inl k4⟩, _, rfl, _, rfl, _, dget_u k4 (f9.t _ _ rfl (s8 _ _ hq1)), ?_⟩
    rw [getD_map]
    have n6 : ca ∉ [tr, us] ∧ ka ∉ [tr, us] := by simp; exact ⟨⟨Ne.symm m1, Ne.symm m5⟩, ⟨Ne.symm m2, Ne.symm m6⟩⟩
    exact q2 hpi _ ((Fr.same (s1.trans s8)).trans f9) ((st1.up s8).keep f9 n6.1 n6.2) ta9
  · have hh' : (aget M.under ls).isSome = false := by simpa using hh
    rw [hh']
    refine ⟨_, rfl, c1, _, rfl, .inr (SqT.of hc1), rfl, _, rfl, ?_⟩
    by_cases he : ls.take (ls.length - S.size) = []
    · rw [dec_t (show V.int ((((ls.take (ls.length - S.size)).map V.int).length : Nat) : Int) = V.int 0 by rw [he]; rfl)]
      have hie : (ls.take (ls.length - S.size)).isEmpty = true := by rw [he]; rfl
      have hpi : M.putIn S.size ls = true := by
        unfold TreeM.putIn TreeM.has
        rw [hh', hie]
        rfl
      obtain ⟨sdx1, ks1, hp1, _⟩ := id st1.ex
      refine ⟨_, rfl, tr, _, dx, _, _, rfl, s1 _ _ h1, T.cl_Tree, T.n_Tree_store, rfl, p, sdx1, _, rfl, hp1, rfl, _, rfl, _, _, rfl, p, ca, ka, S, bk, n, rfl, rfl, st1, hb, h0, fun H2 f2 st2 => ?_⟩
      have n7 : tr ∉ [ca, ka] ∧ ud ∉ [ca, ka] ∧ us ∉ [ca, ka] := by simp; exact ⟨⟨m1, m2⟩, ⟨m3, m4⟩, ⟨m5, m6⟩⟩
      have ta2 := ta1.keep f2 n7.1 n7.2.1 n7.2.2 hpl
      have hq2 := f2.t _ _ rfl hq1
      obtain ⟨dx2, vs2, g1, g2, g3, g4, g5⟩ := id ta2.ex
      refine ⟨_, rfl, _, rfl, tr, _, dx2, _, _, rfl, g1, T.cl_Tree, T.n_Tree_under, rfl, _, rfl, ud, _, rfl, dput_u (g := vN) (v := bk) g4 hq2 (by omega), ?_⟩
      have f3 : Fr [ud] H2 _ := Fr.upd (o := .dT (mapD vN (aput M.under ls bk))) g4 rfl (.head _)
      have e3 : upd H2 ud (.dT (mapD vN (aput M.under ls bk))) ud = _ := upd_same
      generalize upd H2 ud (.dT (mapD vN (aput M.under ls bk))) = H3 at f3 e3 ⊢
      have g13 := f3.k _ _ (by simp; exact n1) g1
      have g23 := f3.k _ _ (by simp; exact n4) g2
      have g33 := g3.up f3.t
      have g53 := f3.k _ _ (by simp; exact ta.ne.symm) g5
      have hq3 := f3.t _ _ rfl hq2
      obtain ⟨bs0, e0, eb0, hbs0⟩ := atAll_refs g33
      refine ⟨_, rfl, tr, _, dx2, _, _, rfl, g13, T.cl_Tree, T.n_Tree_paths, rfl, _, rfl, ll1, fun o ho => ?_⟩
      obtain ⟨s4, e4⟩ := gen_new (o := .lst [V.ref q0]) ho rfl
      have lv : vs2.length ≤ 500 := by rw [g33.len, List.length_map]; exact hp5
      refine ⟨pl, o, vs2, _, rfl, rfl, s4 _ _ g23, e4, Nat.le_of_lt (small1000 (by show _ + 1 ≤ 1000; omega)), fun o2 ho2 => ?_⟩
      obtain ⟨s5, e5⟩ := gen_new (o := .lst (vs2 ++ [V.ref q0])) ho2 rfl
      have s45 := s4.trans s5
      have hbs : ∀ b ∈ bs0 ++ [(q0, ls)], (upd (upd H3 o (.lst [V.ref q0])) o2 (.lst (vs2 ++ [V.ref q0]))) b.1 = some (.tup (b.2.map V.int)) := fun b hb => by
        rcases List.mem_append.mp hb with hb | hb
        · exact s45 _ _ (hbs0 b hb)
        · rw [List.mem_singleton.mp hb]; exact s45 _ _ hq3
      refine ⟨o2, bs0 ++ [(q0, ls)], rfl, SqL.of (by rw [List.map_append, ← e0]; exact e5), fun b hb => ⟨hbs b hb, ?_⟩, ?_, fun bs' pl' hpm hpl' => ?_⟩
      · rcases List.mem_append.mp hb with hb | hb
        · exact hne _ (by rw [← eb0]; exact List.mem_map.mpr ⟨b, hb, rfl⟩)
        · rw [List.mem_singleton.mp hb]
          show ls ≠ []
          intro z
          have := st.s0
          rw [z] at hsl
          simp at hsl
          omega
      · rw [List.length_append]
        have : bs0.length = vs2.length := by rw [e0, List.length_map]
        show _ + 1 ≤ 1000
        omega
      obtain ⟨s6, e6⟩ := gen_new (o := .lst (bs'.map fun b => V.ref b.1)) hpl' rfl
      have s46 := s45.trans s6
      refine ⟨_, rfl, tr, _, dx2, _, rfl, s46 _ _ g13, T.cl_Tree, T.n_Tree_paths, by show 5 < 1000; omega, ?_⟩
      generalize hG : upd _ tr _ = H7
      obtain ⟨f7, e7⟩ := gen_ins [tr] (s46 _ _ g13) hG (.head _)
      have hperm : (bs'.map (·.2)).Perm (M.paths ++ [ls]) := by
        have := hpm.map (·.2)
        rw [List.map_append, eb0] at this
        exact this
      have a7 : Fr [ca, ka, tr, ud, us] H H7 := (Fr.same s1).trans ((f2.sub (by simp)).trans ((f3.sub (by simp)).trans ((Fr.same s46).trans (f7.sub (by simp)))))
      have hpn : H pl' = none := by
        have h3n : H3 pl' = none := by
          cases e : H3 pl' with
          | none => rfl
          | some z => rw [s45 _ _ e] at hpl'; cases hpl'
        have h2n : H2 pl' = none := f3.fresh h3n (fun x hx => by rw [List.mem_singleton.mp hx, e3]; simp)
        obtain ⟨_, _, _, k2, k3, _⟩ := st2.ex
        have h1n : H1 pl' = none := f2.fresh h2n (fun x hx => by
          rcases List.mem_cons.mp hx with e | hx
          · rw [e, k2]; simp
          · rw [List.mem_singleton.mp hx, k3]; simp)
        cases e : H pl' with
        | none => rfl
        | some z => rw [s1 _ _ e] at h1n; cases h1n
      have npl : pl' ≠ tr := fun z => by rw [z, s45 _ _ g13] at hpl'; cases hpl'
      have npu : pl' ≠ ud := fun z => by rw [z, s45 _ _ e3] at hpl'; cases hpl'
      have st7 : StoreAt K H7 p ca ka (S.setC bk (n + 1)) := ((st2.keep f3 (by simp; exact Ne.symm m3) (by simp; exact Ne.symm m4)).up s46).keep f7 (by simp; exact Ne.symm m1) (by simp; exact Ne.symm m2)
      have ta7 : TreeAt K H7 tr ud us pl' p (M.ins ls bk (bs'.map (·.2))) := ⟨⟨dx2, _, e7, f7.k _ _ (by simp; exact npl) e6, (refs_atAll (bs := bs') fun b hb => s6 _ _ (hbs b (hpm.mem_iff.mp hb))).up f7.t, f7.k _ _ (by simp; exact Ne.symm n1) (s46 _ _ e3), f7.k _ _ (by simp; exact Ne.symm n2) (s46 _ _ g53)⟩, ta.ne⟩
      have hq7 := f7.t _ _ rfl (s46 _ _ hq3)
      generalize hps : bs'.map (·.2) = ps' at hperm ta7
      obtain ⟨dx2, vs2, g1, g2, g3, g4, g5⟩ := id ta7.ex
      have hbl := begM_len (M.ins ls bk ps').has S.size ls (ls.length + 1) S.size
      refine ⟨_, rfl, tr, dx2, _, rfl, g1, rfl, _, rfl, tr, dx2, _, rfl, g1, rfl, _, rfl, _, _, rfl, tr, ud, us, pl', p, ca, ka, q0, (M.ins ls bk ps'), _, ls, rfl, rfl, ta7, st7, hq7, by omega, fun H8 o ys s8 hon ho hys => ?_⟩
      refine ⟨_, _, rfl, tr, ud, us, pl', p, o, (M.ins ls bk ps'), ys, _, rfl, rfl, ta7.up s8, ho, hys, ?_, fun H9 f9 ta9 => ?_⟩
      · show M.used.length + (begM _ _ _ _ _).length ≤ 1000
        have : (begM (M.ins ls bk ps').has S.size ls (ls.length + 1) S.size).length ≤ ls.length + 1 := hbl
        exact Nat.le_trans (Nat.add_le_add hu5 this) (by omega)
      obtain ⟨dx9, vs9, k1, k2, k3, k4, k5⟩ := id ta9.ex
      refine ⟨_, rfl, tr, _, dx9, _, _, rfl, k1, T.cl_Tree, T.n_Tree_under, rfl, ud, rfl, .inr ⟨_, .inl k4⟩, _, rfl, _, rfl, _, dget_u k4 (f9.t _ _ rfl (s8 _ _ hq7)), ?_⟩
      rw [getD_map]
      have n6 : ca ∉ [tr, us] ∧ ka ∉ [tr, us] := by simp; exact ⟨⟨Ne.symm m1, Ne.symm m5⟩, ⟨Ne.symm m2, Ne.symm m6⟩⟩
      exact q1 hpi _ pl' _ (a7.trans ((Fr.same s8).trans (f9.sub (by simp)))) hpn hperm ((st7.up s8).keep f9 n6.1 n6.2) ta9
    · rw [dec_f (show V.int ((((ls.take (ls.length - S.size)).map V.int).length : Nat) : Int) ≠ V.int 0 from fun z => he (by
        have := V.int.inj z
        rw [List.length_map] at this
        exact List.eq_nil_of_length_eq_zero (by omega)))]
      have hie : (ls.take (ls.length - S.size)).isEmpty = false := by
        cases e : ls.take (ls.length - S.size) with
        | nil => exact (he e).elim
        | cons x r => rfl
      refine ⟨_, rfl, _, rfl, tr, _, dx, _, _, rfl, s1 _ _ h1, T.cl_Tree, T.n_Tree_under, rfl, ud, _, rfl, dget_u (s1 _ _ h4) hc1, _, rfl, ?_⟩
      rw [Option.isSome_map]
      by_cases h2' : (aget M.under (ls.take (ls.length - S.size))).isSome = true
      · rw [h2']
        have hpi : M.putIn S.size ls = true := by
          unfold TreeM.putIn TreeM.has
          rw [hh', hie, h2']
          rfl
        obtain ⟨sdx1, ks1, hp1, _⟩ := id st1.ex
        refine ⟨_, rfl, tr, _, dx, _, _, rfl, s1 _ _ h1, T.cl_Tree, T.n_Tree_store, rfl, p, sdx1, _, rfl, hp1, rfl, _, rfl, _, _, rfl, p, ca, ka, S, bk, n, rfl, rfl, st1, hb, h0, fun H2 f2 st2 => ?_⟩
        have n7 : tr ∉ [ca, ka] ∧ ud ∉ [ca, ka] ∧ us ∉ [ca, ka] := by simp; exact ⟨⟨m1, m2⟩, ⟨m3, m4⟩, ⟨m5, m6⟩⟩
        have ta2 := ta1.keep f2 n7.1 n7.2.1 n7.2.2 hpl
        have hq2 := f2.t _ _ rfl hq1
        obtain ⟨dx2, vs2, g1, g2, g3, g4, g5⟩ := id ta2.ex
        refine ⟨_, rfl, _, rfl, tr, _, dx2, _, _, rfl, g1, T.cl_Tree, T.n_Tree_under, rfl, _, rfl, ud, _, rfl, dput_u (g := vN) (v := bk) g4 hq2 (by omega), ?_⟩
        have f3 : Fr [ud] H2 _ := Fr.upd (o := .dT (mapD vN (aput M.under ls bk))) g4 rfl (.head _)
        have e3 : upd H2 ud (.dT (mapD vN (aput M.under ls bk))) ud = _ := upd_same
        generalize upd H2 ud (.dT (mapD vN (aput M.under ls bk))) = H3 at f3 e3 ⊢
        have g13 := f3.k _ _ (by simp; exact n1) g1
        have g23 := f3.k _ _ (by simp; exact n4) g2
        have g33 := g3.up f3.t
        have g53 := f3.k _ _ (by simp; exact ta.ne.symm) g5
        have hq3 := f3.t _ _ rfl hq2
        obtain ⟨bs0, e0, eb0, hbs0⟩ := atAll_refs g33
        refine ⟨_, rfl, tr, _, dx2, _, _, rfl, g13, T.cl_Tree, T.n_Tree_paths, rfl, _, rfl, ll1, fun o ho => ?_⟩
        obtain ⟨s4, e4⟩ := gen_new (o := .lst [V.ref q0]) ho rfl
        have lv : vs2.length ≤ 500 := by rw [g33.len, List.length_map]; exact hp5
        refine ⟨pl, o, vs2, _, rfl, rfl, s4 _ _ g23, e4, Nat.le_of_lt (small1000 (by show _ + 1 ≤ 1000; omega)), fun o2 ho2 => ?_⟩
        obtain ⟨s5, e5⟩ := gen_new (o := .lst (vs2 ++ [V.ref q0])) ho2 rfl
        have s45 := s4.trans s5
        have hbs : ∀ b ∈ bs0 ++ [(q0, ls)], (upd (upd H3 o (.lst [V.ref q0])) o2 (.lst (vs2 ++ [V.ref q0]))) b.1 = some (.tup (b.2.map V.int)) := fun b hb => by
          rcases List.mem_append.mp hb with hb | hb
          · exact s45 _ _ (hbs0 b hb)
          · rw [List.mem_singleton.mp hb]; exact s45 _ _ hq3
        refine ⟨o2, bs0 ++ [(q0, ls)], rfl, SqL.of (by rw [List.map_append, ← e0]; exact e5), fun b hb => ⟨hbs b hb, ?_⟩, ?_, fun bs' pl' hpm hpl' => ?_⟩
        · rcases List.mem_append.mp hb with hb | hb
          · exact hne _ (by rw [← eb0]; exact List.mem_map.mpr ⟨b, hb, rfl⟩)
          · rw [List.mem_singleton.mp hb]
            show ls ≠ []
            intro z
            have := st.s0
            rw [z] at hsl
            simp at hsl
            omega
        · rw [List.length_append]
          have : bs0.length = vs2.length := by rw [e0, List.length_map]
          show _ + 1 ≤ 1000
          omega
        obtain ⟨s6, e6⟩ := gen_new (o := .lst (bs'.map fun b => V.ref b.1)) hpl' rfl
        have s46 := s45.trans s6
        refine ⟨_, rfl, tr, _, dx2, _, rfl, s46 _ _ g13, T.cl_Tree, T.n_Tree_paths, by show 5 < 1000; omega, ?_⟩
        generalize hG : upd _ tr _ = H7
        obtain ⟨f7, e7⟩ := gen_ins [tr] (s46 _ _ g13) hG (.head _)
        have hperm : (bs'.map (·.2)).Perm (M.paths ++ [ls]) := by
          have := hpm.map (·.2)
          rw [List.map_append, eb0] at this
          exact this
        have a7 : Fr [ca, ka, tr, ud, us] H H7 := (Fr.same s1).trans ((f2.sub (by simp)).trans ((f3.sub (by simp)).trans ((Fr.same s46).trans (f7.sub (by simp)))))
        have hpn : H pl' = none := by
          have h3n : H3 pl' = none := by
            cases e : H3 pl' with
            | none => rfl
            | some z => rw [s45 _ _ e] at hpl'; cases hpl'
          have h2n : H2 pl' = none := f3.fresh h3n (fun x hx => by rw [List.mem_singleton.mp hx, e3]; simp)
          obtain ⟨_, _, _, k2, k3, _⟩ := st2.ex
          have h1n : H1 pl' = none := f2.fresh h2n (fun x hx => by
            rcases List.mem_cons.mp hx with e | hx
            · rw [e, k2]; simp
            · rw [List.mem_singleton.mp hx, k3]; simp)
          cases e : H pl' with
          | none => rfl
          | some z => rw [s1 _ _ e] at h1n; cases h1n
        have npl : pl' ≠ tr := fun z => by rw [z, s45 _ _ g13] at hpl'; cases hpl'
        have npu : pl' ≠ ud := fun z => by rw [z, s45 _ _ e3] at hpl'; cases hpl'
        have st7 : StoreAt K H7 p ca ka (S.setC bk (n + 1)) := ((st2.keep f3 (by simp; exact Ne.symm m3) (by simp; exact Ne.symm m4)).up s46).keep f7 (by simp; exact Ne.symm m1) (by simp; exact Ne.symm m2)
        have ta7 : TreeAt K H7 tr ud us pl' p (M.ins ls bk (bs'.map (·.2))) := ⟨⟨dx2, _, e7, f7.k _ _ (by simp; exact npl) e6, (refs_atAll (bs := bs') fun b hb => s6 _ _ (hbs b (hpm.mem_iff.mp hb))).up f7.t, f7.k _ _ (by simp; exact Ne.symm n1) (s46 _ _ e3), f7.k _ _ (by simp; exact Ne.symm n2) (s46 _ _ g53)⟩, ta.ne⟩
        have hq7 := f7.t _ _ rfl (s46 _ _ hq3)
        generalize hps : bs'.map (·.2) = ps' at hperm ta7
        obtain ⟨dx2, vs2, g1, g2, g3, g4, g5⟩ := id ta7.ex
        have hbl := begM_len (M.ins ls bk ps').has S.size ls (ls.length + 1) S.size
        refine ⟨_, rfl, tr, dx2, _, rfl, g1, rfl, _, rfl, tr, dx2, _, rfl, g1, rfl, _, rfl, _, _, rfl, tr, ud, us, pl', p, ca, ka, q0, (M.ins ls bk ps'), _, ls, rfl, rfl, ta7, st7, hq7, by omega, fun H8 o ys s8 hon ho hys => ?_⟩
        refine ⟨_, _, rfl, tr, ud, us, pl', p, o, (M.ins ls bk ps'), ys, _, rfl, rfl, ta7.up s8, ho, hys, ?_, fun H9 f9 ta9 => ?_⟩
        · show M.used.length + (begM _ _ _ _ _).length ≤ 1000
          have : (begM (M.ins ls bk ps').has S.size ls (ls.length + 1) S.size).length ≤ ls.length + 1 := hbl
          exact Nat.le_trans (Nat.add_le_add hu5 this) (by omega)
        obtain ⟨dx9, vs9, k1, k2, k3, k4, k5⟩ := id ta9.ex
        refine ⟨_, rfl, tr, _, dx9, _, _, rfl, k1, T.cl_Tree, T.n_Tree_under, rfl, ud, rfl, .inr ⟨_, .inl k4⟩, _, rfl, _, rfl, _, dget_u k4 (f9.t _ _ rfl (s8 _ _ hq7)), ?_⟩
        rw [getD_map]
        have n6 : ca ∉ [tr, us] ∧ ka ∉ [tr, us] := by simp; exact ⟨⟨Ne.symm m1, Ne.symm m5⟩, ⟨Ne.symm m2, Ne.symm m6⟩⟩
        exact q1 hpi _ pl' _ (a7.trans ((Fr.same s8).trans (f9.sub (by simp)))) hpn hperm ((st7.up s8).keep f9 n6.1 n6.2) ta9
      · have h2f : (aget M.under (ls.take (ls.length - S.size))).isSome = false := by simpa using h2'
        rw [h2f]
        have hpi : M.putIn S.size ls = false := by
          unfold TreeM.putIn TreeM.has
          rw [hh', hie, h2f]
          rfl
        obtain ⟨dx2, vs2, g1, g2, g3, g4, g5⟩ := id ta1.ex
        have hbl := begM_len M.has S.size ls (ls.length + 1) S.size
        refine ⟨_, rfl, tr, dx2, _, rfl, g1, rfl, _, rfl, tr, dx2, _, rfl, g1, rfl, _, rfl, _, _, rfl, tr, ud, us, pl, p, ca, ka, q0, M, _, ls, rfl, rfl, ta1, st1, hq1, by omega, fun H8 o ys s8 hon ho hys => ?_⟩
        refine ⟨_, _, rfl, tr, ud, us, pl, p, o, M, ys, _, rfl, rfl, ta1.up s8, ho, hys, ?_, fun H9 f9 ta9 => ?_⟩
        · show M.used.length + (begM _ _ _ _ _).length ≤ 1000
          have : (begM M.has S.size ls (ls.length + 1) S.size).length ≤ ls.length + 1 := hbl
          exact Nat.le_trans (Nat.add_le_add hu5 this) (by omega)
        obtain ⟨dx9, vs9, k1, k2, k3, k4, k5⟩ := id ta9.ex
        refine ⟨_, rfl, tr, _, dx9, _, _, rfl, k1, T.cl_Tree, T.n_Tree_under, rfl, ud, rfl, .inr ⟨_, .inl k4⟩, _, rfl, _, rfl, _, dget_u k4 (f9.t _ _ rfl (s8 _ _ hq1)), ?_⟩
        rw [getD_map]
        have n6 : ca ∉ [tr, us] ∧ ka ∉ [tr, us] := by simp; exact ⟨⟨Ne.symm m1, Ne.symm m5⟩, ⟨Ne.symm m2, Ne.symm m6⟩⟩
        exact q2 hpi _ ((Fr.same (s1.trans s8)).trans f9) ((st1.up s8).keep f9 n6.1 n6.2) ta9
end
end Sv
end
section
set_option Elab.async false
set_option linter.all false
set_option maxRecDepth 100000
set_option maxHeartbeats 4000000
/-! The walk: Request.*. -/
namespace Sv
open PySem PySem.Spec PyProof.Rows L2
structure ReqAt (K : PySem.W.Frag) (H : Hp) (rp ap tb : Addr) (t : List Int) (wd : Option Wd) : Prop where
  ex : ∃ dx vt bg gv, H rp = some (.ins (He.ga K "Request") dx [("ask", .ref ap), ("text", vt), ("begun", bg), ("table", .ref tb), ("word", vWd wd), ("aside", .non), ("given", gv)]) ∧ At H vt (dVec t)
theorem ReqAt.keep {K : PySem.W.Frag} {H H' : Hp} {rp ap tb : Addr} {t : List Int} {wd : Option Wd} {F : List Addr} (h : ReqAt K H rp ap tb t wd) (f : Fr F H H') (n : rp ∉ F) : ReqAt K H' rp ap tb t wd := by
  obtain ⟨dx, vt, bg, gv, h1, h2⟩ := h.ex
  exact ⟨dx, vt, bg, gv, f.k _ _ n h1, h2.up f.t⟩
theorem ReqAt.up {K : PySem.W.Frag} {H H' : Hp} {rp ap tb : Addr} {t : List Int} {wd : Option Wd} (h : ReqAt K H rp ap tb t wd) (s : Same H H') : ReqAt K H' rp ap tb t wd := h.keep (F := []) (Fr.same s) (by simp)
def p_Request_init (K : PySem.W.Frag) : P4 := fun a b c d H Q => ∃ (rp dx ap q tb : Addr) (t : List Int), a = .ref rp ∧ b = .ref ap ∧ c = .ref q ∧ d = .ref tb ∧ H rp = some (.ins (He.ga K "Request") dx []) ∧ H q = some (.tup (t.map V.int)) ∧ ∀ H', Fr [rp] H H' → ReqAt K H' rp ap tb t none → Q .non H'
def p_Request_is_in (K : PySem.W.Frag) : P1 := fun a H Q => ∃ (rp ap tb : Addr) (t : List Int) (wd : Option Wd), a = .ref rp ∧ ReqAt K H rp ap tb t wd ∧ Q (.bl wd.isNone) H
def p_Request_whole (K : PySem.W.Frag) : P1 := fun a H Q => ∃ (rp ap tb : Addr) (k : AskM) (t : List Int) (wd : Option Wd), a = .ref rp ∧ ReqAt K H rp ap tb t wd ∧ AskAt K H ap k ∧ k.prompt.length + t.length ≤ 1000 ∧ ∀ H' c, Same H H' → H' c = some (.tup ((k.prompt ++ t).map V.int)) → Q (.ref c) H'
def p_Request_finish (K : PySem.W.Frag) : P2 := fun a b H Q => ∃ (rp ap tb p ca ka : Addr) (t : List Int) (x : Wd) (wd : Option Wd) (S : StoreM) (bs : List Nat) (len : Nat), a = .ref rp ∧ b = .str (wdS x) ∧ ReqAt K H rp ap tb t wd ∧ StoreAt K H p ca ka S ∧ TableAt K H tb p bs len ∧ S.canRel bs.reverse ∧
  ∀ H', Fr [ca, ka, tb, rp] H H' → ReqAt K H' rp ap tb t (some x) → StoreAt K H' p ca ka (S.relAll bs.reverse) → TableAt K H' tb p [] 0 → Q .non H'
def p_Request_write (K : PySem.W.Frag) : P3 := fun a b c H Q => ∃ (rp ap tb p ca ka np c2 : Addr) (M : NetM) (k : AskM) (L : Nat) (t ws : List Int) (S : StoreM) (bs : List Nat) (len : Nat), a = .ref rp ∧ b = .ref np ∧ c = .ref c2 ∧ ReqAt K H rp ap tb t none ∧ NetAt K H np M ∧ AskAt K H ap k ∧ AskOk k L ∧
  StoreAt K H p ca ka S ∧ TableAt K H tb p bs len ∧ S.canRel bs.reverse ∧ ws.length = L ∧ L ≤ 1000 ∧ H c2 = some (.tup (ws.map V.int)) ∧ (∀ x ∈ ws, 1 ≤ x ∧ x ≤ 97) ∧ (∀ x ∈ t, 0 ≤ x ∧ x < L) ∧ t.length ≤ 400 ∧
  ((nextM M.fin k t ws).2 = none → ∀ H', Fr [rp] H H' → ReqAt K H' rp ap tb (nextM M.fin k t ws).1 none → Q .non H') ∧
  (∀ x, (nextM M.fin k t ws).2 = some x → ∀ H', Fr [ca, ka, tb, rp] H H' → ReqAt K H' rp ap tb (nextM M.fin k t ws).1 (some x) → StoreAt K H' p ca ka (S.relAll bs.reverse) → TableAt K H' tb p [] 0 → Q .non H')
theorem req_ne {K : PySem.W.Frag} {H : Hp} {rp ap tb p p2 ca ka tb2 : Addr} {t : List Int} {wd : Option Wd} {S : StoreM} {bs : List Nat} {len : Nat} (r : ReqAt K H rp ap tb t wd) (s : StoreAt K H p ca ka S) (b : TableAt K H tb2 p2 bs len) : rp ≠ ca ∧ rp ≠ ka ∧ rp ≠ tb2 := by
  obtain ⟨_, _, _, _, h1, _⟩ := r.ex
  obtain ⟨_, _, _, h3, h4, _⟩ := s.ex
  obtain ⟨_, _, h5, _⟩ := b.ex
  refine ⟨ne_kind h1 h3 nofun, ne_kind h1 h4 nofun, ne_kind h1 h5 fun e => ?_⟩
  have := (HO.ins.inj e).2.2
  have := congrArg List.length this
  simp at this
section
variable {P : Program} {w : World} {K : PySem.W.Frag} {mg : Str → Option Value} {base : Heap}
abbrev N_Request_init : List Str := ["self", "ask", "text", "table"]
theorem sc_Request_init : FnScope N_Request_init ["self", "ask", "text", "table"] (defScope s_Request_init) := ⟨rfl, rfl, rfl, by decide +kernel, rfl, by decide +kernel, by decide +kernel⟩
theorem ok_Request_init (T : Txt K mg) : CFn P w K mg base 1 "Request" (He.ga K "Request") ["self", "ask", "text", "table"] (Sp4 (p_Request_init K)) := by
  refine cfn T.d_Request_init T.mk_Request T.g_Request sc_Request_init (fun _ _ _ _ _ _ us hl => match us, hl with | [_, _, _, _], _ => rfl) len4 fun cdv A outer s H vs Q E hr h => ?_
  obtain ⟨a0, a1, a2, a3, rfl, rp, dx, ap, c, tb, t, rfl, rfl, rfl, rfl, hp, hc, q⟩ := h
  refine ⟨_, pss_cons (ps_fld (pv 0) (pv 1) rfl)
      (pss_cons (ps_fld (pv 0) (pe_callTy call_tuple_of (by rfl) T.b_tuple (by decide +kernel) (pa_cons (pv 2) pa_nil)) rfl)
      (pss_cons (ps_fld (pv 0) (pe_callB call_len_seq (by rfl) T.b_len PySem.boot_len (pa_cons (pe_fld (pv 0) rfl) pa_nil)) rfl)
      (pss_cons (ps_fld (pv 0) (pv 3) rfl)
      (pss_cons (ps_fld (pv 0) (pe_non) rfl)
      (pss_cons (ps_fld (pv 0) (pe_non) rfl)
      (pss_one (ps_fld (pv 0) (pe_int) rfl))))))), ?_⟩
  refine ⟨_, rfl, _, rfl, rp, _, dx, _, rfl, hp, T.cl_Request, T.n_Request_ask, by show 0 < 1000; omega, ?_⟩
  generalize hG : upd H rp _ = H1
  obtain ⟨f1, e1⟩ := gen_ins [rp] hp hG (.head _)
  have hc1 := f1.t _ _ rfl hc
  refine ⟨_, rfl, c, _, rfl, .inr ⟨SqT.of hc1, _, rfl, rp, _, dx, _, rfl, e1, T.cl_Request, T.n_Request_text, by show 1 < 1000; omega, ?_⟩⟩
  generalize hG : upd H1 rp _ = H2
  obtain ⟨f2, e2⟩ := gen_ins [rp] e1 hG (.head _)
  have hc2 := f2.t _ _ rfl hc1
  refine ⟨_, rfl, rp, _, dx, _, _, rfl, e2, T.cl_Request, T.n_Request_text, rfl, c, _, rfl, .inr (SqT.of hc2), _, rfl, rp, _, dx, _, rfl, e2, T.cl_Request, T.n_Request_begun, by show 2 < 1000; omega, ?_⟩
  generalize hG : upd H2 rp _ = H3
  obtain ⟨f3, e3⟩ := gen_ins [rp] e2 hG (.head _)
  refine ⟨_, rfl, _, rfl, rp, _, dx, _, rfl, e3, T.cl_Request, T.n_Request_table, by show 3 < 1000; omega, ?_⟩
  generalize hG : upd H3 rp _ = H4
  obtain ⟨f4, e4⟩ := gen_ins [rp] e3 hG (.head _)
  refine ⟨_, rfl, rp, _, dx, _, rfl, e4, T.cl_Request, T.n_Request_word, by show 4 < 1000; omega, ?_⟩
  generalize hG : upd H4 rp _ = H5
  obtain ⟨f5, e5⟩ := gen_ins [rp] e4 hG (.head _)
  refine ⟨_, rfl, rp, _, dx, _, rfl, e5, T.cl_Request, T.n_Request_aside, by show 5 < 1000; omega, ?_⟩
  generalize hG : upd H5 rp _ = H6
  obtain ⟨f6, e6⟩ := gen_ins [rp] e5 hG (.head _)
  refine ⟨_, rfl, rp, _, dx, _, rfl, e6, T.cl_Request, T.n_Request_given, by show 6 < 1000; omega, ?_⟩
  generalize hG : upd H6 rp _ = H7
  obtain ⟨f7, e7⟩ := gen_ins [rp] e6 hG (.head _)
  have a3 := f3.trans (f4.trans (f5.trans (f6.trans f7)))
  exact q _ (f1.trans (f2.trans a3)) ⟨dx, _, _, _, e7, (at_vec hc2).up a3.t⟩
abbrev N_Request_is_in : List Str := ["self"]
theorem sc_Request_is_in : FnScope N_Request_is_in ["self"] (defScope s_Request_is_in) := ⟨rfl, rfl, rfl, by decide +kernel, rfl, by decide +kernel, by decide +kernel⟩
theorem ok_Request_is_in (T : Txt K mg) : MFn P w K mg base 1 (He.ga K "Request") "is_in" ["self"] (Sp1 (p_Request_is_in K)) := by
  refine mfn T.d_Request_is_in T.m_Request_is_in sc_Request_is_in (fun _ _ _ _ _ _ us hl => match us, hl with | [_], _ => rfl) len1 fun cdv A outer s H vs Q E hr h => ?_
  obtain ⟨a0, rfl, rp, ap, tb, t, wd, rfl, ra, q⟩ := h
  refine ⟨_, pss_one (ps_ret (pe_and (pe_cmp (pc_isN (pe_fld (pv 0) rfl))) (pe_one (pe_cmp (pc_isN (pe_fld (pv 0) rfl)))))), ?_⟩
  obtain ⟨dx, vt, bg, gv, h1, h2⟩ := id ra.ex
  refine ⟨_, rfl, rp, _, dx, _, _, rfl, h1, T.cl_Request, T.n_Request_word, rfl, ?_⟩
  cases wd with
  | none => exact ⟨_, rfl, _, rfl, rp, _, dx, _, _, rfl, h1, T.cl_Request, T.n_Request_aside, rfl, q⟩
  | some x => exact ⟨_, rfl, q⟩
abbrev N_Request_whole : List Str := ["self"]
theorem sc_Request_whole : FnScope N_Request_whole ["self"] (defScope s_Request_whole) := ⟨rfl, rfl, rfl, by decide +kernel, rfl, by decide +kernel, by decide +kernel⟩
theorem ok_Request_whole (T : Txt K mg) : MFn P w K mg base 1 (He.ga K "Request") "whole" ["self"] (Sp1 (p_Request_whole K)) := by
  refine mfn T.d_Request_whole T.m_Request_whole sc_Request_whole (fun _ _ _ _ _ _ us hl => match us, hl with | [_], _ => rfl) len1 fun cdv A outer s H vs Q E hr h => ?_
  obtain ⟨a0, rfl, rp, ap, tb, k, t, wd, rfl, ra, ka, hl, q⟩ := h
  refine ⟨_, pss_one (ps_ret (pe_op op_catA (pe_fld (pe_fld (pv 0) rfl) rfl) (pe_fld (pv 0) rfl))), ?_⟩
  obtain ⟨dx, vt, bg, gv, h1, h2⟩ := id ra.ex
  obtain ⟨adx, v1, v2, v3, v4, k1, k2, _⟩ := id ka.ex
  obtain ⟨c1, rfl, hc1⟩ := k2.vecI
  obtain ⟨c2, rfl, hc2⟩ := h2.vecI
  refine ⟨_, rfl, rp, _, dx, _, _, rfl, h1, T.cl_Request, T.n_Request_ask, rfl, ap, _, adx, _, _, rfl, k1, T.cl_Ask, T.n_Ask_prompt, rfl, _, rfl, rp, _, dx, _, _, rfl, h1, T.cl_Request, T.n_Request_text, rfl, ?_⟩
  exact catA_at (K := K) hc1 hc2 (by rw [List.length_map, List.length_map]; exact hl) fun H' c s hc => q H' c s (by rw [hc, List.map_append])
abbrev N_Request_finish : List Str := ["self", "word"]
theorem sc_Request_finish : FnScope N_Request_finish ["self", "word"] (defScope s_Request_finish) := ⟨rfl, rfl, rfl, by decide +kernel, rfl, by decide +kernel, by decide +kernel⟩
theorem ok_Request_finish (T : Txt K mg) : MFn P w K mg base 5 (He.ga K "Request") "finish" ["self", "word"] (Sp2 (p_Request_finish K)) := by
  refine mfn T.d_Request_finish T.m_Request_finish sc_Request_finish (fun _ _ _ _ _ _ us hl => match us, hl with | [_, _], _ => rfl) len2 fun cdv A outer s H vs Q E hr h => ?_
  obtain ⟨a0, a1, rfl, rp, ap, tb, p, ca, ka, t, x, wd, S, bs, len, rfl, rfl, ra, st, ta, hcr, q⟩ := h
  refine ⟨_, pss_cons (ps_fld (pv 0) (pv 1) rfl)
      (pss_cons (ps_fld (pv 0) (pe_non) rfl)
      (pss_one (ps_expr (pe_m (ok_Table_cut T) T.cl_Table (hr.mono (by decide)) (pe_fld (pv 0) rfl) (pa_cons (pe_int) pa_nil))))), ?_⟩
  obtain ⟨dx, vt, bg, gv, h1, h2⟩ := id ra.ex
  obtain ⟨n1, n2, n3⟩ := req_ne ra st ta
  refine ⟨_, rfl, _, rfl, rp, _, dx, _, rfl, h1, T.cl_Request, T.n_Request_word, by show 7 < 1000; omega, ?_⟩
  generalize hG : upd H rp _ = H1
  obtain ⟨f1, e1⟩ := gen_ins [rp] h1 hG (.head _)
  refine ⟨_, rfl, rp, _, dx, _, rfl, e1, T.cl_Request, T.n_Request_aside, by show 7 < 1000; omega, ?_⟩
  generalize hG : upd H1 rp _ = H2
  obtain ⟨f2, e2⟩ := gen_ins [rp] e1 hG (.head _)
  have f3 := f1.trans f2
  have st2 := st.keep f3 (by simp; exact Ne.symm n1) (by simp; exact Ne.symm n2)
  have ta2 := ta.keep f3 (by simp; exact Ne.symm n3)
  have ra2 : ReqAt K H2 rp ap tb t (some x) := ⟨dx, vt, bg, gv, e2, h2.up f3.t⟩
  obtain ⟨tdx, vb, ht, _⟩ := id ta2.ex
  refine ⟨_, rfl, rp, _, dx, _, _, rfl, e2, T.cl_Request, T.n_Request_table, rfl, tb, tdx, _, rfl, ht, rfl, ?_⟩
  refine ⟨_, _, rfl, tb, p, ca, ka, S, bs, len, rfl, rfl, st2, ta2, hcr, fun H3 f4 st3 ta3 => q _ ((f3.sub (by simp)).trans (f4.sub (by simp))) (ra2.keep f4 (by simp; exact ⟨n1, n2, n3⟩)) st3 ta3⟩
abbrev N_Request_write : List Str := ["self", "net", "weights", "word"]
theorem sc_Request_write : FnScope N_Request_write ["self", "net", "weights"] (defScope s_Request_write) := ⟨rfl, rfl, rfl, by decide +kernel, rfl, by decide +kernel, by decide +kernel⟩
theorem ok_Request_write (T : Txt K mg) : MFn P w K mg base 6 (He.ga K "Request") "write" ["self", "net", "weights"] (Sp3 (p_Request_write K)) := by
  refine mfn T.d_Request_write T.m_Request_write sc_Request_write (fun _ _ _ _ _ _ us hl => match us, hl with | [_, _, _], _ => rfl) len3 fun cdv A outer s H vs Q E hr h => ?_
  obtain ⟨a0, a1, a2, rfl, rp, ap, tb, p, ca, ka, np, c2, M, k, L, t, ws, S, bs, len, rfl, rfl, rfl, ra, N, aa, ok, st, ta, hcr, hwl, hL, hc2, hws, ht, htl, q1, q2⟩ := h
  refine ⟨_, pss_cons (ps_asg (pe_g (ok_next_text T) (hr.mono (by decide)) (pa_cons (pv 1) (pa_cons (pe_fld (pv 0) rfl) (pa_cons (pe_fld (pv 0) rfl) (pa_cons (pv 2) pa_nil))))) (pg_tup rfl (pgs_cons (pg_fld (pv 0)) (pgs_cons (pg_name (i := 3) sc_Request_write.nd rfl (Or.inl rfl)) pgs_nil))))
      (pss_one (ps_if (pt_cmp (pc_notN (pv 3))) (pss_one (ps_expr (pe_m (ok_Request_finish T) T.cl_Request (hr.mono (by decide)) (pv 0) (pa_cons (pv 3) pa_nil)))) (pss_nil))), ?_⟩
  obtain ⟨dx, vt, bg, gv, h1, h2⟩ := id ra.ex
  obtain ⟨n1, n2, n3⟩ := req_ne ra st ta
  obtain ⟨c1, rfl, hc1⟩ := id h2.vecI
  refine ⟨_, rfl, _, rfl, rp, _, dx, _, _, rfl, h1, T.cl_Request, T.n_Request_ask, rfl, _, rfl, rp, _, dx, _, _, rfl, h1, T.cl_Request, T.n_Request_text, rfl, _, rfl, ?_⟩
  refine ⟨_, _, _, _, rfl, np, ap, c1, c2, M, k, L, t, ws, rfl, rfl, rfl, rfl, N, aa, ok, hwl, hL, hc2, hws, hc1, ht, htl, fun H1 c s1 hc => ?_⟩
  obtain ⟨_, xs, e0, hcx, hxs⟩ := hc.tupI
  cases e0
  cases hxs with
  | cons k1 hxs => ?_
  cases hxs with
  | cons k2 hxs => ?_
  cases hxs
  obtain ⟨c3, rfl, hc3⟩ := k1.vecI
  cases k2.wdI
  refine ⟨c, _, rfl, SqT.of hcx, rfl, _, _, rfl, _, rfl, rp, _, dx, _, rfl, s1 _ _ h1, T.cl_Request, T.n_Request_text, by show 7 < 1000; omega, ?_⟩
  generalize hG : upd H1 rp _ = H2
  obtain ⟨f2, e2⟩ := gen_ins [rp] (s1 _ _ h1) hG (.head _)
  have f3 := (Fr.same (S := [rp]) s1).trans f2
  refine ⟨_, _, rfl, rfl, _, rfl, _, rfl, ?_⟩
  have ra2 : ReqAt K H2 rp ap tb (nextM M.fin k t ws).1 none := ⟨dx, _, _, _, e2, (at_vec hc3).up f2.t⟩
  cases e : (nextM M.fin k t ws).2 with
  | none => exact q1 e _ f3 ra2
  | some x =>
    refine ⟨_, rfl, rp, dx, _, rfl, e2, rfl, _, rfl, ?_⟩
    exact ⟨_, _, rfl, rp, ap, tb, p, ca, ka, _, x, none, S, bs, len, rfl, rfl, ra2, st.keep f3 (by simp; exact Ne.symm n1) (by simp; exact Ne.symm n2), ta.keep f3 (by simp; exact Ne.symm n3), hcr, fun H' f4 r4 s4 t4 => q2 x e _ ((f3.sub (by simp)).trans f4) r4 s4 t4⟩
end
end Sv
end
section
set_option Elab.async false
set_option linter.all false
set_option maxRecDepth 100000
set_option maxHeartbeats 4000000
/-! The house as it stands; the walk: House.__init__, add, ask, request, tickets, going, word, text. -/
namespace Sv
open PySem PySem.Spec PyProof.Rows L2
structure ReqM where
  ask : AskM
  text : List Int
  wd : Option Wd
  bs : List Nat
  len : Nat
structure ReqA where
  rp : Addr
  ap : Addr
  tb : Addr
structure HouseM where
  S : StoreM
  T : TreeM
  rs : List ReqM
structure HouseA where
  hp : Addr
  np : Addr
  p : Addr
  ca : Addr
  ka : Addr
  tr : Addr
  ud : Addr
  us : Addr
  pl : Addr
  rq : Addr
  ra : List ReqA
def HInsAt (K : PySem.W.Frag) (H : Hp) (hp np p tr rq : Addr) : Prop := ∃ dx rm, H hp = some (.ins (He.ga K "House") dx [("net", .ref np), ("store", .ref p), ("tree", .ref tr), ("requests", .ref rq), ("rows_made", .int rm)])
structure RAt (K : PySem.W.Frag) (H : Hp) (p : Addr) (a : ReqA) (r : ReqM) : Prop where
  rq : ReqAt K H a.rp a.ap a.tb r.text r.wd
  ask : AskAt K H a.ap r.ask
  tab : TableAt K H a.tb p r.bs r.len
structure HouseAt (K : PySem.W.Frag) (H : Hp) (A : HouseA) (M : NetM) (D : HouseM) : Prop where
  ins : HInsAt K H A.hp A.np A.p A.tr A.rq
  net : NetAt K H A.np M
  st : StoreAt K H A.p A.ca A.ka D.S
  tr : TreeAt K H A.tr A.ud A.us A.pl A.p D.T
  rq : H A.rq = some (.lst (A.ra.map fun a => V.ref a.rp))
  len : A.ra.length = D.rs.length
  rs : ∀ (i : Nat) a r, A.ra[i]? = some a → D.rs[i]? = some r → RAt K H A.p a r
  npl : A.pl ∉ [A.ca, A.ka]
  nrq : A.rq ∉ [A.ca, A.ka, A.pl]
  nrp : (A.ra.map (·.rp)).Nodup
  ntb : (A.ra.map (·.tb)).Nodup
/-- every place of the house that may change -/
def HouseA.all (A : HouseA) : List Addr := [A.hp, A.ca, A.ka, A.tr, A.ud, A.us, A.pl, A.rq] ++ A.ra.map (·.rp) ++ A.ra.map (·.tb)
theorem HInsAt.keep {K : PySem.W.Frag} {H H' : Hp} {hp np p tr rq : Addr} {F : List Addr} (h : HInsAt K H hp np p tr rq) (f : Fr F H H') (n : hp ∉ F) : HInsAt K H' hp np p tr rq := by
  obtain ⟨dx, rm, e⟩ := h
  exact ⟨dx, rm, f.k _ _ n e⟩
theorem RAt.keep {K : PySem.W.Frag} {H H' : Hp} {p : Addr} {a : ReqA} {r : ReqM} {F : List Addr} (h : RAt K H p a r) (f : Fr F H H') (n1 : a.rp ∉ F) (n2 : a.tb ∉ F) : RAt K H' p a r := ⟨h.rq.keep f n1, h.ask.keep f.t, h.tab.keep f n2⟩
theorem HouseAt.keep {K : PySem.W.Frag} {H H' : Hp} {A : HouseA} {M : NetM} {D : HouseM} {F : List Addr} (h : HouseAt K H A M D) (f : Fr F H H') (n : ∀ a ∈ A.all, a ∉ F) : HouseAt K H' A M D := by
  have m : ∀ a, a ∈ [A.hp, A.ca, A.ka, A.tr, A.ud, A.us, A.pl, A.rq] → a ∉ F := fun a ha => n a (List.mem_append_left _ (List.mem_append_left _ ha))
  refine ⟨h.ins.keep f (m _ (by simp)), h.net.keep f.t, h.st.keep f (m _ (by simp)) (m _ (by simp)), h.tr.keep f (m _ (by simp)) (m _ (by simp)) (m _ (by simp)) (m _ (by simp)), f.k _ _ (m _ (by simp)) h.rq, h.len, fun i a r ha hr => (h.rs i a r ha hr).keep f (n _ ?_) (n _ ?_), h.npl, h.nrq, h.nrp, h.ntb⟩
  · exact List.mem_append_left _ (List.mem_append_right _ (List.mem_map.mpr ⟨a, List.mem_of_getElem? ha, rfl⟩))
  · exact List.mem_append_right _ (List.mem_map.mpr ⟨a, List.mem_of_getElem? ha, rfl⟩)
theorem HouseAt.up {K : PySem.W.Frag} {H H' : Hp} {A : HouseA} {M : NetM} {D : HouseM} (h : HouseAt K H A M D) (s : Same H H') : HouseAt K H' A M D := h.keep (F := []) (Fr.same s) (by simp)
/-- all of the house stands somewhere -/
theorem HouseAt.there {K : PySem.W.Frag} {H : Hp} {A : HouseA} {M : NetM} {D : HouseM} (h : HouseAt K H A M D) : ∀ a ∈ A.all, H a ≠ none := by
  obtain ⟨dx, rm, h1⟩ := h.ins
  obtain ⟨_, _, _, h2, h3, _⟩ := h.st.ex
  obtain ⟨_, _, h4, h5, _, h6, h7⟩ := h.tr.ex
  have h8 := h.rq
  intro a ha
  rcases List.mem_append.mp ha with ha | ha
  · rcases List.mem_append.mp ha with ha | ha
    · simp only [List.mem_cons, List.not_mem_nil, or_false] at ha
      rcases ha with rfl | rfl | rfl | rfl | rfl | rfl | rfl | rfl <;> simp [*]
    · obtain ⟨x, hx, rfl⟩ := List.mem_map.mp ha
      obtain ⟨i, hi⟩ := List.mem_iff_getElem?.mp hx
      have hl : i < D.rs.length := by rw [← h.len]; exact (List.getElem?_eq_some_iff.mp hi).1
      obtain ⟨_, _, _, _, e, _⟩ := (h.rs i x _ hi (List.getElem?_eq_getElem hl)).rq.ex
      rw [e]; simp
  · obtain ⟨x, hx, rfl⟩ := List.mem_map.mp ha
    obtain ⟨i, hi⟩ := List.mem_iff_getElem?.mp hx
    have hl : i < D.rs.length := by rw [← h.len]; exact (List.getElem?_eq_some_iff.mp hi).1
    obtain ⟨_, _, e, _⟩ := (h.rs i x _ hi (List.getElem?_eq_getElem hl)).tab.ex
    rw [e]; simp
theorem HouseAt.get {K : PySem.W.Frag} {H : Hp} {A : HouseA} {M : NetM} {D : HouseM} (h : HouseAt K H A M D) {i : Nat} {r : ReqM} (hr : D.rs[i]? = some r) : ∃ a, A.ra[i]? = some a ∧ RAt K H A.p a r := by
  have hl : i < A.ra.length := by rw [h.len]; exact (List.getElem?_eq_some_iff.mp hr).1
  exact ⟨_, List.getElem?_eq_getElem hl, h.rs i _ r (List.getElem?_eq_getElem hl) hr⟩
/-! ### promises -/
def p_House_init (K : PySem.W.Frag) : P4 := fun a b c d H Q => ∃ (hp dx np : Addr) (M : NetM) (m s : Nat), a = .ref hp ∧ b = .ref np ∧ c = .int m ∧ d = .int s ∧ H hp = some (.ins (He.ga K "House") dx []) ∧ NetAt K H np M ∧ 1 ≤ m ∧ m ≤ 60 ∧ 1 ≤ s ∧ s ≤ 8 ∧
  ∀ H' A, Fr [hp] H H' → A.hp = hp → A.ra = [] → (∀ x ∈ A.all, x = hp ∨ H x = none) → HouseAt K H' A M ⟨⟨m, s, List.replicate m 0, List.replicate m []⟩, ⟨[], [], [], 0⟩, []⟩ → Q .non H'
def p_House_add (K : PySem.W.Frag) : P4 := fun a b c d H Q => ∃ (A : HouseA) (M : NetM) (D : HouseM) (ap q tb : Addr) (k : AskM), a = .ref A.hp ∧ b = .ref ap ∧ c = .ref q ∧ d = .ref tb ∧ HouseAt K H A M D ∧ AskAt K H ap k ∧ H q = some (.tup []) ∧ TableAt K H tb A.p [] 0 ∧ tb ∉ A.all ∧ A.ra.length ≤ 100 ∧
  ∀ H' rp, Fr [A.rq] H H' → H rp = none → HouseAt K H' { A with ra := A.ra ++ [⟨rp, ap, tb⟩] } M { D with rs := D.rs ++ [⟨k, [], none, [], 0⟩] } → Q (.int A.ra.length) H'
def p_House_ask (K : PySem.W.Frag) : P2 := fun a b H Q => ∃ (A : HouseA) (M : NetM) (D : HouseM) (ap : Addr) (k : AskM) (L : Nat), a = .ref A.hp ∧ b = .ref ap ∧ HouseAt K H A M D ∧ AskAt K H ap k ∧ AskOk k L ∧ M.embed.length = L ∧ A.ra.length ≤ 100 ∧
  ∀ H' rp tb, Fr [A.rq] H H' → H rp = none → H tb = none → HouseAt K H' { A with ra := A.ra ++ [⟨rp, ap, tb⟩] } M { D with rs := D.rs ++ [⟨k, [], none, [], 0⟩] } → Q (.int A.ra.length) H'
def p_House_request (K : PySem.W.Frag) : P2 := fun a b H Q => ∃ (A : HouseA) (M : NetM) (D : HouseM) (i : Nat) (x : ReqA), a = .ref A.hp ∧ b = .int i ∧ HouseAt K H A M D ∧ A.ra[i]? = some x ∧ Q (.ref x.rp) H
def p_House_tickets (K : PySem.W.Frag) : P1 := fun a H Q => ∃ (A : HouseA) (M : NetM) (D : HouseM), a = .ref A.hp ∧ HouseAt K H A M D ∧ A.ra.length ≤ 100 ∧ ∀ H' c, Same H H' → H' c = some (.tup ((List.range A.ra.length).map vN)) → Q (.ref c) H'
def goM (D : HouseM) : List Nat := (List.range D.rs.length).filter fun i => match D.rs[i]? with | some r => r.wd.isNone | none => false
def p_House_going (K : PySem.W.Frag) : P1 := fun a H Q => ∃ (A : HouseA) (M : NetM) (D : HouseM), a = .ref A.hp ∧ HouseAt K H A M D ∧ A.ra.length ≤ 100 ∧ ∀ H' v, Same H H' → At H' v (dNs (goM D)) → Q v H'
def p_House_word (K : PySem.W.Frag) : P2 := fun a b H Q => ∃ (A : HouseA) (M : NetM) (D : HouseM) (i : Nat) (r : ReqM), a = .ref A.hp ∧ b = .int i ∧ HouseAt K H A M D ∧ D.rs[i]? = some r ∧ Q (vWd r.wd) H
def p_House_text (K : PySem.W.Frag) : P2 := fun a b H Q => ∃ (A : HouseA) (M : NetM) (D : HouseM) (i : Nat) (r : ReqM), a = .ref A.hp ∧ b = .int i ∧ HouseAt K H A M D ∧ D.rs[i]? = some r ∧ ∀ c, H c = some (.tup (r.text.map V.int)) → Q (.ref c) H
theorem rgV_nat (n : Nat) : rgV 0 (n : Int) = (List.range n).map vN := by
  unfold rgV
  rw [Int.sub_zero, Int.toNat_natCast]
  refine List.map_congr_left fun i _ => ?_
  show V.int (0 + (i : Nat)) = V.int (i : Nat)
  rw [Int.zero_add]
theorem make_same {H H' : Hp} {x dx : Addr} {o u : HO} (h : L2.upd (L2.upd H dx u) x o = H') (hx : H x = none) (hd : H dx = none) (hne : dx ≠ x) : Same H H' ∧ H' x = some o := by
  subst h
  refine ⟨(same_new hd).trans (same_new ?_), upd_same⟩
  rw [upd_ne (Ne.symm hne)]
  exact hx
theorem mem_all {A : HouseA} {a : Addr} (h : a ∈ [A.hp, A.ca, A.ka, A.tr, A.ud, A.us, A.pl, A.rq]) : a ∈ A.all := List.mem_append_left _ (List.mem_append_left _ h)
theorem house_push {K : PySem.W.Frag} {H H' : Hp} {A : HouseA} {M : NetM} {D : HouseM} {rp ap tb : Addr} {k : AskM} (h : HouseAt K H A M D) (r : RAt K H A.p ⟨rp, ap, tb⟩ ⟨k, [], none, [], 0⟩) (n1 : rp ∉ A.all) (n2 : tb ∉ A.all)
    (e : L2.upd H A.rq (.lst ((A.ra ++ [(⟨rp, ap, tb⟩ : ReqA)]).map fun a : ReqA => V.ref a.rp)) = H') : Fr [A.rq] H H' ∧ HouseAt K H' { A with ra := A.ra ++ [⟨rp, ap, tb⟩] } M { D with rs := D.rs ++ [⟨k, [], none, [], 0⟩] } := by
  obtain ⟨f, g⟩ := gen_lst [A.rq] h.rq e (.head _)
  have q1 : A.rq ∈ A.all := mem_all (by simp)
  have nq := h.nrq
  simp only [List.mem_cons, List.not_mem_nil, or_false, not_or] at nq
  obtain ⟨dx, rm, h1⟩ := id h.ins
  obtain ⟨_, _, t1, _, _, t2, t3⟩ := h.tr.ex
  have nn : ∀ {a : ReqA} {r : ReqM}, RAt K H A.p a r → a.rp ∉ [A.rq] ∧ a.tb ∉ [A.rq] := fun ra => by
    obtain ⟨_, _, _, _, e1, _⟩ := ra.rq.ex
    obtain ⟨_, _, e2, _⟩ := ra.tab.ex
    simp only [List.mem_cons, List.not_mem_nil, or_false]
    exact ⟨ne_kind e1 h.rq nofun, ne_kind e2 h.rq nofun⟩
  refine ⟨f, h.ins.keep f (by simp; exact ne_kind h1 h.rq nofun), h.net.keep f.t, h.st.keep f (by simp; exact Ne.symm nq.1) (by simp; exact Ne.symm nq.2.1), h.tr.keep f (by simp; exact ne_kind t1 h.rq nofun) (by simp; exact ne_kind t2 h.rq nofun) (by simp; exact ne_kind t3 h.rq nofun) (by simp; exact Ne.symm nq.2.2), g, by simp [h.len], fun i a x ha hx => ?_, h.npl, h.nrq, ?_, ?_⟩
  · by_cases hi : i < A.ra.length
    · rw [List.getElem?_append_left hi] at ha
      rw [List.getElem?_append_left (by rw [← h.len]; exact hi)] at hx
      have := h.rs i a x ha hx
      exact this.keep f (nn this).1 (nn this).2
    · have e1 := (List.getElem?_eq_some_iff.mp ha).1
      rw [List.length_append] at e1
      have ei : i = A.ra.length := by
        have : i < A.ra.length + 1 := e1
        omega
      subst ei
      rw [List.getElem?_append_right (Nat.le_refl _), Nat.sub_self] at ha
      rw [h.len, List.getElem?_append_right (Nat.le_refl _), Nat.sub_self] at hx
      cases ha
      cases hx
      exact r.keep f (nn r).1 (nn r).2
  · show ((A.ra ++ [_]).map _).Nodup
    rw [List.map_append]
    refine List.nodup_append.mpr ⟨h.nrp, by simp, fun a ha b hb e => ?_⟩
    rw [List.mem_singleton.mp hb] at e
    exact n1 (List.mem_append_left _ (List.mem_append_right _ (by rw [← (show a = rp from e)]; exact ha)))
  · show ((A.ra ++ [_]).map _).Nodup
    rw [List.map_append]
    refine List.nodup_append.mpr ⟨h.ntb, by simp, fun a ha b hb e => ?_⟩
    rw [List.mem_singleton.mp hb] at e
    exact n2 (List.mem_append_right _ (by rw [← (show a = tb from e)]; exact ha))
section
variable {P : Program} {w : World} {K : PySem.W.Frag} {mg : Str → Option Value} {base : Heap}
abbrev N_House_request : List Str := ["self", "ticket"]
theorem sc_House_request : FnScope N_House_request ["self", "ticket"] (defScope s_House_request) := ⟨rfl, rfl, rfl, by decide +kernel, rfl, by decide +kernel, by decide +kernel⟩
theorem ok_House_request (T : Txt K mg) : MFn P w K mg base 2 (He.ga K "House") "request" ["self", "ticket"] (Sp2 (p_House_request K)) := by
  refine mfn T.d_House_request T.m_House_request sc_House_request (fun _ _ _ _ _ _ us hl => match us, hl with | [_, _], _ => rfl) len2 fun cdv A outer s H vs Q E hr h => ?_
  obtain ⟨a0, a1, rfl, B, M, D, i, x, rfl, rfl, ho, hx, q⟩ := h
  refine ⟨_, pss_cons (ps_if (pt_not (pt_val (pe_g (ok_is_between T) (hr.mono (by decide)) (pa_cons (pv 1) (pa_cons (pe_int) (pa_cons (pe_op op_sub (pe_callB call_len_seq (by rfl) T.b_len PySem.boot_len (pa_cons (pe_fld (pv 0) rfl) pa_nil)) (pe_int)) pa_nil)))))) (pss_one (ps_never)) (pss_nil))
      (pss_one (ps_ret (pe_ix ix_list (pe_fld (pv 0) rfl) (pv 1) (fun _ _ => rfl)))), ?_⟩
  obtain ⟨dx, rm, h1⟩ := id ho.ins
  have hi := (List.getElem?_eq_some_iff.mp hx).1
  have hdec : decide ((0 : Int) ≤ (i : Int) ∧ (i : Int) ≤ (((B.ra.map fun a => V.ref a.rp).length : Nat) : Int) - 1) = true := by rw [List.length_map]; simp; omega
  refine ⟨_, rfl, _, rfl, B.hp, _, dx, _, _, rfl, h1, T.cl_House, T.n_House_requests, rfl, B.rq, _, rfl, .inl (SqL.of ho.rq), _, _, rfl, rfl, _, _, _, rfl, _, _, _, rfl, rfl, rfl, ?_⟩
  rw [hdec]
  exact ⟨true, rfl, _, rfl, B.hp, _, dx, _, _, rfl, h1, T.cl_House, T.n_House_requests, rfl, _, rfl, B.rq, _, _, _, rfl, rfl, SqL.of ho.rq, atI_nat (getMap hx), q⟩
abbrev N_House_word : List Str := ["self", "ticket"]
theorem sc_House_word : FnScope N_House_word ["self", "ticket"] (defScope s_House_word) := ⟨rfl, rfl, rfl, by decide +kernel, rfl, by decide +kernel, by decide +kernel⟩
theorem ok_House_word (T : Txt K mg) : MFn P w K mg base 3 (He.ga K "House") "word" ["self", "ticket"] (Sp2 (p_House_word K)) := by
  refine mfn T.d_House_word T.m_House_word sc_House_word (fun _ _ _ _ _ _ us hl => match us, hl with | [_, _], _ => rfl) len2 fun cdv A outer s H vs Q E hr h => ?_
  obtain ⟨a0, a1, rfl, B, M, D, i, r, rfl, rfl, ho, hr0, q⟩ := h
  refine ⟨_, pss_one (ps_ret (pe_fld (pe_m (ok_House_request T) T.cl_House (hr.mono (by decide)) (pv 0) (pa_cons (pv 1) pa_nil)) rfl)), ?_⟩
  obtain ⟨dx, rm, h1⟩ := id ho.ins
  obtain ⟨a, ha, ra⟩ := ho.get hr0
  obtain ⟨rdx, vt, bg, gv, g1, g2⟩ := ra.rq.ex
  exact ⟨_, rfl, B.hp, dx, _, rfl, h1, rfl, _, rfl, _, _, rfl, B, M, D, i, a, rfl, rfl, ho, ha, a.rp, _, rdx, _, _, rfl, g1, T.cl_Request, T.n_Request_word, rfl, q⟩
abbrev N_House_text : List Str := ["self", "ticket"]
theorem sc_House_text : FnScope N_House_text ["self", "ticket"] (defScope s_House_text) := ⟨rfl, rfl, rfl, by decide +kernel, rfl, by decide +kernel, by decide +kernel⟩
theorem ok_House_text (T : Txt K mg) : MFn P w K mg base 3 (He.ga K "House") "text" ["self", "ticket"] (Sp2 (p_House_text K)) := by
  refine mfn T.d_House_text T.m_House_text sc_House_text (fun _ _ _ _ _ _ us hl => match us, hl with | [_, _], _ => rfl) len2 fun cdv A outer s H vs Q E hr h => ?_
  obtain ⟨a0, a1, rfl, B, M, D, i, r, rfl, rfl, ho, hr0, q⟩ := h
  refine ⟨_, pss_one (ps_ret (pe_fld (pe_m (ok_House_request T) T.cl_House (hr.mono (by decide)) (pv 0) (pa_cons (pv 1) pa_nil)) rfl)), ?_⟩
  obtain ⟨dx, rm, h1⟩ := id ho.ins
  obtain ⟨a, ha, ra⟩ := ho.get hr0
  obtain ⟨rdx, vt, bg, gv, g1, g2⟩ := ra.rq.ex
  obtain ⟨c, rfl, hc⟩ := g2.vecI
  exact ⟨_, rfl, B.hp, dx, _, rfl, h1, rfl, _, rfl, _, _, rfl, B, M, D, i, a, rfl, rfl, ho, ha, a.rp, _, rdx, _, _, rfl, g1, T.cl_Request, T.n_Request_text, rfl, q c hc⟩
abbrev N_House_tickets : List Str := ["self"]
theorem sc_House_tickets : FnScope N_House_tickets ["self"] (defScope s_House_tickets) := ⟨rfl, rfl, rfl, by decide +kernel, rfl, by decide +kernel, by decide +kernel⟩
theorem ok_House_tickets (T : Txt K mg) : MFn P w K mg base 1 (He.ga K "House") "tickets" ["self"] (Sp1 (p_House_tickets K)) := by
  refine mfn T.d_House_tickets T.m_House_tickets sc_House_tickets (fun _ _ _ _ _ _ us hl => match us, hl with | [_], _ => rfl) len1 fun cdv A outer s H vs Q E hr h => ?_
  obtain ⟨a0, rfl, B, M, D, rfl, ho, hl, q⟩ := h
  refine ⟨_, pss_one (ps_ret (pe_tupRg rfl (by rfl) T.b_tuple (prg_1 (by rfl) T.b_range (pe_callB call_len_seq (by rfl) T.b_len PySem.boot_len (pa_cons (pe_fld (pv 0) rfl) pa_nil))))), ?_⟩
  obtain ⟨dx, rm, h1⟩ := id ho.ins
  refine ⟨_, rfl, B.hp, _, dx, _, _, rfl, h1, T.cl_House, T.n_House_requests, rfl, B.rq, _, rfl, .inl (SqL.of ho.rq), ?_⟩
  rw [List.length_map]
  refine ⟨_, rfl, RgOk.of_le (by omega) (by omega) (by omega) (by omega), fun c hc => q _ c (same_new hc) ?_⟩
  rw [rgV_nat]
  exact upd_same
abbrev N_House_going : List Str := ["self", "ticket"]
theorem sc_House_going : FnScope N_House_going ["self"] (defScope s_House_going) := ⟨rfl, rfl, rfl, by decide +kernel, rfl, by decide +kernel, by decide +kernel⟩
theorem ok_House_going (T : Txt K mg) : MFn P w K mg base 2 (He.ga K "House") "going" ["self"] (Sp1 (p_House_going K)) := by
  refine mfn T.d_House_going T.m_House_going sc_House_going (fun _ _ _ _ _ _ us hl => match us, hl with | [_], _ => rfl) len1 fun cdv A outer s H vs Q E hr h => ?_
  obtain ⟨a0, rfl, B, M, D, rfl, ho, hl, q⟩ := h
  refine ⟨_, pss_one (ps_ret (pe_callTy call_tuple_of (by rfl) T.b_tuple (by decide +kernel) (pa_cons (pe_lc (own := [("ticket", 1)]) rfl sc_House_going.nd (pi_tup (pe_m0 (ok_House_tickets T) T.cl_House (hr.mono (by decide)) (pv 0))) (blkOk_by (N := N_House_going) (sc := defScope s_House_going) (by decide +kernel)) (fun _ _ _ _ _ => pg_name (i := 1) sc_House_going.nd rfl (Or.inl rfl) (hf := Or.inr rfl)) (fun _ _ _ _ _ => pts_one (pt_cmp (pc_isN (pe_fldK (K0 := K) (pe_ix (ix_listK (K0 := K)) (pe_fldK (K0 := K) (pv 0) rfl) (pv 1) (fun _ _ => rfl)) rfl)))) (fun _ _ _ _ _ => pv 1)) pa_nil))), ?_⟩
  obtain ⟨dx, rm, h1⟩ := id ho.ins
  refine ⟨_, rfl, B.hp, dx, _, rfl, h1, rfl, _, rfl, B, M, D, rfl, ho, hl, fun H1 c s1 hc => ?_⟩
  have gm : ∀ i, (((List.range i).filter fun i => match D.rs[i]? with | some r => r.wd.isNone | none => false).length ≤ i) := fun i => by
    have := List.length_filter_le (fun i => match D.rs[i]? with | some r => r.wd.isNone | none => false) (List.range i)
    rw [List.length_range] at this
    exact this
  refine ⟨c, rfl, ⟨_, SqT.of hc⟩, fun E0 hE => lc_tup (K := K) (a := c) (xs := (List.range B.ra.length).map vN) (fun i H' => Same H1 H' ∧ H' E0 = some (.lst (((List.range i).filter fun i => match D.rs[i]? with | some r => r.wd.isNone | none => false).map vN)))
    ⟨same_new hE, upd_same⟩ (fun i H' _ I => SqT.of (I.1 _ _ hc)) (fun i x H' hx I => ?_) fun H' I => ?_⟩
  · obtain ⟨s2, hD⟩ := I
    obtain ⟨j, ej, rfl⟩ := map_get hx
    have hi := (List.getElem?_eq_some_iff.mp ej).1
    have ej' : j = i := by
      rw [List.getElem?_eq_getElem hi, List.getElem_range] at ej
      exact (Option.some.inj ej).symm
    subst ej'
    rw [List.length_range] at hi
    have hir : j < D.rs.length := by rw [← ho.len]; exact hi
    obtain ⟨a, ha, ra⟩ := ho.get (List.getElem?_eq_getElem hir)
    have s3 := s1.trans s2
    obtain ⟨rdx, vt, bg, gv, g1, g2⟩ := ra.rq.ex
    refine ⟨rfl, _, rfl, B.hp, _, dx, _, _, rfl, s3 _ _ h1, T.cl_House, T.n_House_requests, rfl, _, rfl, B.rq, _, _, _, rfl, rfl, SqL.of (s3 _ _ ho.rq), atI_nat (getMap ha), a.rp, _, rdx, _, _, rfl, s3 _ _ g1, T.cl_Request, T.n_Request_word, rfl, ?_⟩
    have er : (List.range (j + 1)).filter (fun i => match D.rs[i]? with | some r => r.wd.isNone | none => false) = (List.range j).filter (fun i => match D.rs[i]? with | some r => r.wd.isNone | none => false) ++ (if (D.rs[j]).wd.isNone = true then [j] else []) := by
      rw [List.range_succ, List.filter_append]
      congr 1
      rw [List.filter_cons, List.getElem?_eq_getElem hir]
      rfl
    have hlt := gm j
    refine ⟨_, rfl, ?_⟩
    cases ew : (D.rs[j]).wd with
    | none =>
      rw [ew] at er
      refine ⟨_, rfl, _, hD, small1000 (by rw [List.length_map]; omega), fun z u hz => ?_, ?_⟩
      · rw [upd_ne (ne_of_none hz hE)]
        exact s2 _ _ hz
      · rw [upd_same, er, List.map_append]
        rfl
    | some x =>
      rw [ew] at er
      refine ⟨s2, ?_⟩
      rw [hD, er]
      show _ = some (HO.lst ((_ ++ []).map vN))
      rw [List.append_nil]
  · obtain ⟨s2, hD⟩ := I
    refine ⟨_, _, rfl, .inl ⟨SqL.of hD, fun e he => q _ _ ((s1.trans s2).trans (same_new he)) (at_ns ?_)⟩⟩
    rw [upd_same, List.length_map, List.length_range, ho.len]
    rfl
abbrev N_House_add : List Str := ["self", "ask", "text", "table"]
theorem sc_House_add : FnScope N_House_add ["self", "ask", "text", "table"] (defScope s_House_add) := ⟨rfl, rfl, rfl, by decide +kernel, rfl, by decide +kernel, by decide +kernel⟩
theorem ok_House_add (T : Txt K mg) : MFn P w K mg base 3 (He.ga K "House") "add" ["self", "ask", "text", "table"] (Sp4 (p_House_add K)) := by
  refine mfn T.d_House_add T.m_House_add sc_House_add (fun _ _ _ _ _ _ us hl => match us, hl with | [_, _, _, _], _ => rfl) len4 fun cdv A outer s H vs Q E hr h => ?_
  obtain ⟨a0, a1, a2, a3, rfl, B, M, D, ap, c, tb, k, rfl, rfl, rfl, rfl, ho, ka, hc, ta, hnt, hl, q⟩ := h
  refine ⟨_, pss_cons (ps_expr (pe_bm PySem.F.plainAttrs_list PySem.F.slot_list_append PySem.F.type_list_append mt_append (pe_fld (pv 0) rfl) (pa_cons (pe_c (ok_Request_init T) (hr.mono (by decide)) (pa_cons (pv 1) (pa_cons (pv 2) (pa_cons (pv 3) pa_nil)))) pa_nil)))
      (pss_one (ps_ret (pe_op op_sub (pe_callB call_len_seq (by rfl) T.b_len PySem.boot_len (pa_cons (pe_fld (pv 0) rfl) pa_nil)) (pe_int)))), ?_⟩
  obtain ⟨dx, rm, h1⟩ := id ho.ins
  refine ⟨_, rfl, B.hp, _, dx, _, _, rfl, h1, T.cl_House, T.n_House_requests, rfl, ty_l ho.rq, _, rfl, _, rfl, _, rfl, fun rp rd hrp hrd hne => ?_⟩
  generalize hG : upd (upd H rd _) rp _ = H1
  obtain ⟨s1, e1⟩ := make_same hG hrp hrd hne
  refine ⟨_, _, _, _, rfl, rp, rd, ap, c, tb, [], rfl, rfl, rfl, rfl, e1, s1 _ _ hc, fun H2 f2 ra => ⟨rfl, ?_⟩⟩
  have nrp : rp ∉ B.all := fun hm => ho.there rp hm hrp
  have ho2 := (ho.up s1).keep f2 (fun a ha => by simp; intro e; rw [e] at ha; exact nrp ha)
  obtain ⟨tdx, tv, ht, _⟩ := id ta.ex
  have ntr : tb ≠ rp := fun z => by rw [z, hrp] at ht; cases ht
  have ra2 : RAt K H2 B.p ⟨rp, ap, tb⟩ ⟨k, [], none, [], 0⟩ := ⟨ra, (ka.keep s1.tups).keep f2.t, (ta.up s1).keep f2 (by simp; exact ntr)⟩
  refine ⟨B.rq, _, _, rfl, rfl, ho2.rq, small1000 (by rw [List.length_map]; omega), ?_⟩
  have em : B.ra.map (fun a => V.ref a.rp) ++ [V.ref rp] = (B.ra ++ [(⟨rp, ap, tb⟩ : ReqA)]).map fun a : ReqA => V.ref a.rp := by rw [List.map_append]; rfl
  rw [em]
  generalize hG : upd H2 B.rq _ = H3
  obtain ⟨f3, ho3⟩ := house_push ho2 ra2 nrp hnt hG
  obtain ⟨dx3, rm3, h3⟩ := id ho3.ins
  refine ⟨_, rfl, B.hp, _, dx3, _, _, rfl, h3, T.cl_House, T.n_House_requests, rfl, B.rq, _, rfl, .inl (SqL.of ho3.rq), _, _, rfl, rfl, ?_⟩
  have en : ((((B.ra ++ [(⟨rp, ap, tb⟩ : ReqA)]).map fun a : ReqA => V.ref a.rp).length : Nat) : Int) - 1 = (B.ra.length : Int) := by
    rw [List.length_map, List.length_append]
    show ((B.ra.length + 1 : Nat) : Int) - 1 = _
    omega
  dsimp only
  rw [en]
  have f13 : Fr [B.rq] H H3 := by
    refine ⟨s1.tups.trans (f2.t.trans f3.t), fun a o n e => f3.k _ _ n (f2.k _ _ ?_ (s1 _ _ e))⟩
    simp
    intro z
    rw [z, hrp] at e
    cases e
  exact q H3 rp f13 hrp ho3
abbrev N_House_ask : List Str := ["self", "ask"]
theorem sc_House_ask : FnScope N_House_ask ["self", "ask"] (defScope s_House_ask) := ⟨rfl, rfl, rfl, by decide +kernel, rfl, by decide +kernel, by decide +kernel⟩
theorem ok_House_ask (T : Txt K mg) : MFn P w K mg base 4 (He.ga K "House") "ask" ["self", "ask"] (Sp2 (p_House_ask K)) := by
  refine mfn T.d_House_ask T.m_House_ask sc_House_ask (fun _ _ _ _ _ _ us hl => match us, hl with | [_, _], _ => rfl) len2 fun cdv A outer s H vs Q E hr h => ?_
  obtain ⟨a0, a1, rfl, B, M, D, ap, k, L, rfl, rfl, ho, ka, ok, hML, hl, q⟩ := h
  refine ⟨_, pss_cons (ps_expr (pe_g (ok_check_letters T) (hr.mono (by decide)) (pa_cons (pe_fld (pv 0) rfl) (pa_cons (pv 1) (pa_cons (pe_tup pa_nil) pa_nil)))))
      (pss_one (ps_ret (pe_m (ok_House_add T) T.cl_House (hr.mono (by decide)) (pv 0) (pa_cons (pv 1) (pa_cons (pe_tup pa_nil) (pa_cons (pe_c (ok_Table_init T) (hr.mono (by decide)) (pa_cons (pe_fld (pv 0) rfl) pa_nil)) pa_nil)))))), ?_⟩
  obtain ⟨dx, rm, h1⟩ := id ho.ins
  refine ⟨_, rfl, B.hp, _, dx, _, _, rfl, h1, T.cl_House, T.n_House_net, rfl, _, rfl, ll0, fun e he => ?_⟩
  obtain ⟨s1, e1⟩ := gen_new (o := .tup []) he rfl
  refine ⟨_, _, _, rfl, B.np, ap, e, M, k, L, rfl, rfl, rfl, ho.net.up s1, hML, ka.keep s1.tups, ok.pl, ok.sl, by have := ok.sn; omega, e1, fun H2 s2 => ?_⟩
  have s12 := s1.trans s2
  refine ⟨_, rfl, B.hp, dx, _, rfl, s12 _ _ h1, rfl, _, rfl, ll0, fun e3 he3 => ?_⟩
  obtain ⟨s3, e3'⟩ := gen_new (o := .tup []) he3 rfl
  have s13 := s12.trans s3
  refine ⟨_, rfl, B.hp, _, dx, _, _, rfl, s13 _ _ h1, T.cl_House, T.n_House_store, rfl, fun tb td htb htd hne => ?_⟩
  generalize hG : upd (upd _ td _) tb _ = H4
  obtain ⟨s4, e4⟩ := make_same hG htb htd hne
  have s14 := s13.trans s4
  refine ⟨_, _, rfl, tb, td, B.p, rfl, rfl, e4, fun H5 f5 ta => ⟨rfl, ?_⟩⟩
  have htbn : H tb = none := by
    cases z : H tb with
    | none => rfl
    | some u => rw [s13 _ _ z] at htb; cases htb
  have ntb : tb ∉ B.all := fun hm => ho.there tb hm htbn
  have ho5 := (ho.up s14).keep f5 (fun a ha => by simp; intro z; rw [z] at ha; exact ntb ha)
  refine ⟨_, _, _, _, rfl, B, M, D, ap, e3, tb, k, rfl, rfl, rfl, rfl, ho5, (ka.keep s14.tups).keep f5.t, f5.t _ _ rfl (s4 _ _ e3'), ta, ntb, hl, fun H6 rp f6 hrp ho6 => ?_⟩
  have hrpn : H rp = none := by
    cases z : H rp with
    | none => rfl
    | some u =>
      have nz : rp ≠ tb := fun w => by rw [w, htbn] at z; cases z
      rw [f5.k _ _ (by simp; exact nz) (s14 _ _ z)] at hrp
      cases hrp
  refine q H6 rp tb ⟨s14.tups.trans (f5.t.trans f6.t), fun a o n z => f6.k _ _ n (f5.k _ _ ?_ (s14 _ _ z))⟩ hrpn htbn ho6
  simp
  intro w
  rw [w, htbn] at z
  cases z
abbrev N_House_init : List Str := ["self", "net", "many", "size"]
theorem sc_House_init : FnScope N_House_init ["self", "net", "many", "size"] (defScope s_House_init) := ⟨rfl, rfl, rfl, by decide +kernel, rfl, by decide +kernel, by decide +kernel⟩
theorem ok_House_init (T : Txt K mg) : CFn P w K mg base 4 "House" (He.ga K "House") ["self", "net", "many", "size"] (Sp4 (p_House_init K)) := by
  refine cfn T.d_House_init T.mk_House T.g_House sc_House_init (fun _ _ _ _ _ _ us hl => match us, hl with | [_, _, _, _], _ => rfl) len4 fun cdv A outer s H vs Q E hr h => ?_
  obtain ⟨a0, a1, a2, a3, rfl, hp, dx, np, M, m, s0, rfl, rfl, rfl, rfl, h0, N, m0, m1, z0, z1, q⟩ := h
  refine ⟨_, pss_cons (ps_fld (pv 0) (pv 1) rfl)
      (pss_cons (ps_fld (pv 0) (pe_c (ok_Store_init T) (hr.mono (by decide)) (pa_cons (pv 2) (pa_cons (pv 3) pa_nil))) rfl)
      (pss_cons (ps_fld (pv 0) (pe_c (ok_Tree_init T) (hr.mono (by decide)) (pa_cons (pe_fld (pv 0) rfl) pa_nil)) rfl)
      (pss_cons (ps_fld (pv 0) (pe_lst pa_nil) rfl)
      (pss_one (ps_fld (pv 0) (pe_int) rfl))))), ?_⟩
  refine ⟨_, rfl, _, rfl, hp, _, dx, _, rfl, h0, T.cl_House, T.n_House_net, by show 0 < 1000; omega, ?_⟩
  generalize hG : upd H hp _ = H1
  obtain ⟨f1, e1⟩ := gen_ins [hp] h0 hG (.head _)
  have nh : ∀ {x : Addr} {H' : Hp}, H' x = none → H' hp ≠ none → x ≠ hp := fun hx hh z => hh (by rw [← z]; exact hx)
  have bk : ∀ {x : Addr} {H' : Hp}, Fr [hp] H H' → H' x = none → H' hp ≠ none → H x = none := fun f hx hh => f.fresh hx (fun y hy => by rw [List.mem_singleton.mp hy]; exact hh)
  refine ⟨_, rfl, _, rfl, fun p pd hpn hpd hne => ?_⟩
  generalize hG : upd (upd H1 pd _) p _ = H2
  obtain ⟨s2, e2⟩ := make_same hG hpn hpd hne
  have n1 : hp ≠ p := fun z => by rw [← z, e1] at hpn; cases hpn
  have b1 : H p = none := bk f1 hpn (by rw [e1]; simp)
  refine ⟨_, _, _, rfl, p, pd, m, s0, rfl, e2, rfl, rfl, m0, m1, z0, z1, fun H3 ca ka f3 hca hka st => ⟨rfl, ?_⟩⟩
  have e23 := f3.k _ _ (by simp; exact n1) (s2 _ _ e1)
  have a2 : Fr [hp] H H2 := f1.trans (Fr.same s2)
  have a3 : Fr [hp] H H3 := ⟨a2.t.trans f3.t, fun x o n z => f3.k _ _ (by simp; intro w; rw [w, b1] at z; cases z) (a2.k _ _ n z)⟩
  have b2 : H ca = none := bk a2 hca (by rw [s2 _ _ e1]; simp)
  have b3 : H ka = none := bk a2 hka (by rw [s2 _ _ e1]; simp)
  refine ⟨_, rfl, hp, _, dx, _, rfl, e23, T.cl_House, T.n_House_store, by show 1 < 1000; omega, ?_⟩
  generalize hG : upd H3 hp _ = H4
  obtain ⟨f4, e4⟩ := gen_ins [hp] e23 hG (.head _)
  have nca : ca ≠ hp := nh hca (by rw [s2 _ _ e1]; simp)
  have nka : ka ≠ hp := nh hka (by rw [s2 _ _ e1]; simp)
  have st4 := st.keep f4 (by simp; exact nca) (by simp; exact nka)
  have a4 := a3.trans f4
  refine ⟨_, rfl, hp, _, dx, _, _, rfl, e4, T.cl_House, T.n_House_store, rfl, fun tr td htr htd hne2 => ?_⟩
  generalize hG : upd (upd H4 td _) tr _ = H5
  obtain ⟨s5, e5⟩ := make_same hG htr htd hne2
  have n2 : hp ≠ tr := fun z => by rw [← z, e4] at htr; cases htr
  have b4 : H tr = none := bk a4 htr (by rw [e4]; simp)
  refine ⟨_, _, rfl, tr, td, p, rfl, rfl, e5, fun H6 ud us pl f6 hud hus hpl ta => ⟨rfl, ?_⟩⟩
  have e46 := f6.k _ _ (by simp; exact n2) (s5 _ _ e4)
  have a5 := a4.trans (Fr.same s5)
  have a6 : Fr [hp] H H6 := ⟨a5.t.trans f6.t, fun x o n z => f6.k _ _ (by simp; intro w; rw [w, b4] at z; cases z) (a5.k _ _ n z)⟩
  have b5 : H ud = none := bk a5 hud (by rw [s5 _ _ e4]; simp)
  have b6 : H us = none := bk a5 hus (by rw [s5 _ _ e4]; simp)
  have b7 : H pl = none := bk a5 hpl (by rw [s5 _ _ e4]; simp)
  have nud : ud ≠ hp := nh hud (by rw [s5 _ _ e4]; simp)
  have nus : us ≠ hp := nh hus (by rw [s5 _ _ e4]; simp)
  have npl : pl ≠ hp := nh hpl (by rw [s5 _ _ e4]; simp)
  have ntr : tr ≠ hp := Ne.symm n2
  have st5 := st4.up s5
  obtain ⟨_, _, _, q1, q2, _⟩ := st5.ex
  have st6 := st5.keep f6 (by simp; exact ne_kind q1 e5 nofun) (by simp; exact ne_kind q2 e5 nofun)
  have npc : pl ∉ [ca, ka] := by
    simp
    constructor
    · intro z; rw [z, q1] at hpl; cases hpl
    · intro z; rw [z, q2] at hpl; cases hpl
  refine ⟨_, rfl, hp, _, dx, _, rfl, e46, T.cl_House, T.n_House_tree, by show 2 < 1000; omega, ?_⟩
  generalize hG : upd H6 hp _ = H7
  obtain ⟨f7, e7⟩ := gen_ins [hp] e46 hG (.head _)
  have st7 := st6.keep f7 (by simp; exact nca) (by simp; exact nka)
  have ta7 := ta.keep f7 (by simp; exact ntr) (by simp; exact nud) (by simp; exact nus) (by simp; exact npl)
  have a7 := a6.trans f7
  refine ⟨ll0, fun rq hrq => ⟨_, rfl, hp, _, dx, _, rfl, same_new hrq _ _ e7, T.cl_House, T.n_House_requests, by show 3 < 1000; omega, ?_⟩⟩
  obtain ⟨s8, e8⟩ := gen_new (o := .lst []) hrq rfl
  have b8 : H rq = none := bk a7 hrq (by rw [e7]; simp)
  have nrq : rq ≠ hp := nh hrq (by rw [e7]; simp)
  generalize hG : upd (upd H7 rq _) hp _ = H9
  obtain ⟨f9, e9⟩ := gen_ins [hp] (s8 _ _ e7) hG (.head _)
  refine ⟨_, rfl, hp, _, dx, _, rfl, e9, T.cl_House, T.n_House_rows_made, by show 4 < 1000; omega, ?_⟩
  generalize hG : upd H9 hp _ = H10
  obtain ⟨f10, e10⟩ := gen_ins [hp] e9 hG (.head _)
  have f11 := f9.trans f10
  obtain ⟨_, _, _, q3, q4, _⟩ := st7.ex
  obtain ⟨_, _, _, q5, _⟩ := ta7.ex
  refine q _ ⟨hp, np, p, ca, ka, tr, ud, us, pl, rq, []⟩ (a7.trans ((Fr.same s8).trans f11)) rfl rfl (fun x hx => ?_) ⟨⟨dx, 0, e10⟩, N.keep (a7.trans ((Fr.same s8).trans f11)).t, (st7.up s8).keep f11 (by simp; exact nca) (by simp; exact nka), (ta7.up s8).keep f11 (by simp; exact ntr) (by simp; exact nud) (by simp; exact nus) (by simp; exact npl), f11.k _ _ (by simp; exact nrq) e8, rfl, fun i a r ha => by simp at ha, npc, ?_, .nil, .nil⟩
  · simp [HouseA.all] at hx
    rcases hx with rfl | rfl | rfl | rfl | rfl | rfl | rfl | rfl
    · exact .inl rfl
    · exact .inr b2
    · exact .inr b3
    · exact .inr b4
    · exact .inr b5
    · exact .inr b6
    · exact .inr b7
    · exact .inr b8
  · simp
    refine ⟨?_, ?_, ?_⟩
    · intro z; rw [z, q3] at hrq; cases hrq
    · intro z; rw [z, q4] at hrq; cases hrq
    · intro z; rw [z, q5] at hrq; cases hrq
end
end Sv
end
section
set_option Elab.async false
set_option linter.all false
set_option maxRecDepth 100000
set_option maxHeartbeats 4000000
/-! The walk: House.take_known. -/
namespace Sv
open PySem PySem.Spec PyProof.Rows L2
def TreeM.blk (T : TreeM) (q : Path) : Nat := (aget T.under q).getD 0
def p_House_take_known (K : PySem.W.Frag) : P3 := fun a b c H Q => ∃ (hp np p tr rq ca ka ud us pl rp ap tb : Addr) (T : TreeM) (S : StoreM) (k : AskM) (t : List Int) (wd : Option Wd) (bs : List Nat) (len most : Nat), a = .ref hp ∧ b = .ref rp ∧ c = .int most ∧ HInsAt K H hp np p tr rq ∧ StoreAt K H p ca ka S ∧ TreeAt K H tr ud us pl p T ∧
  ReqAt K H rp ap tb t wd ∧ AskAt K H ap k ∧ TableAt K H tb p bs len ∧ pl ∉ [ca, ka] ∧ k.prompt.length + t.length ≤ 350 ∧ T.used.length ≤ 500 ∧ bs.length ≤ 100 ∧ (∀ q, T.has q = true → ∃ n, S.cts[T.blk q]? = some n ∧ 0 < n) ∧
  (len % S.size ≠ 0 ∨ most < len + S.size → Q (.bl false) H) ∧
  (len % S.size = 0 → len + S.size ≤ most → (T.begs S.size ((k.prompt ++ t).take (len + S.size))).length * S.size < len + S.size → ∀ H', Fr [tr, us] H H' → TreeAt K H' tr ud us pl p (T.use (T.begs S.size ((k.prompt ++ t).take (len + S.size)))) → Q (.bl false) H') ∧
  (len % S.size = 0 → len + S.size ≤ most → len + S.size ≤ (T.begs S.size ((k.prompt ++ t).take (len + S.size))).length * S.size → ∀ xs q n, T.begs S.size ((k.prompt ++ t).take (len + S.size)) = xs ++ [q] → S.cts[T.blk q]? = some n → ∀ H', Fr [ca, ka, tb, tr, us] H H' →
    StoreAt K H' p ca ka (S.setC (T.blk q) (n + 1)) → TableAt K H' tb p (bs ++ [T.blk q]) (len + S.size) → TreeAt K H' tr ud us pl p (T.use (T.begs S.size ((k.prompt ++ t).take (len + S.size)))) → Q (.bl true) H')
theorem tab_tree {K : PySem.W.Frag} {H : Hp} {tb p tr ud us pl p2 : Addr} {bs : List Nat} {len : Nat} {T : TreeM} (t : TableAt K H tb p bs len) (r : TreeAt K H tr ud us pl p2 T) : tb ≠ tr ∧ tb ≠ ud ∧ tb ≠ us ∧ tb ≠ pl := by
  obtain ⟨_, _, h1, _⟩ := t.ex
  obtain ⟨_, _, g1, g2, _, g4, g5⟩ := r.ex
  refine ⟨ne_kind h1 g1 fun e => ?_, ne_kind h1 g4 nofun, ne_kind h1 g5 nofun, ne_kind h1 g2 nofun⟩
  have := congrArg List.length (HO.ins.inj e).2.2
  simp at this
section
variable {P : Program} {w : World} {K : PySem.W.Frag} {mg : Str → Option Value} {base : Heap}
abbrev N_House_take_known : List Str := ["self", "request", "most", "table", "size", "end", "known"]
theorem sc_House_take_known : FnScope N_House_take_known ["self", "request", "most"] (defScope s_House_take_known) := ⟨rfl, rfl, rfl, by decide +kernel, rfl, by decide +kernel, by decide +kernel⟩
theorem ok_House_take_known (T : Txt K mg) : MFn P w K mg base 5 (He.ga K "House") "take_known" ["self", "request", "most"] (Sp3 (p_House_take_known K)) := by
  refine mfn T.d_House_take_known T.m_House_take_known sc_House_take_known (fun _ _ _ _ _ _ us hl => match us, hl with | [_, _, _], _ => rfl) len3 fun cdv A outer s H vs Q E hr h => ?_
  obtain ⟨a0, a1, a2, rfl, hp, np, p, tr, rq, ca, ka, ud, us, pl, rp, ap, tb, M, S, k, t, wd, bs, len, most, rfl, rfl, rfl, ho, st, ta, ra, aa, tt, npl, hwl, hul, hbl, hcn, q1, q2, q3⟩ := h
  refine ⟨_, pss_cons (ps_set (i := 3) sc_House_take_known.nd rfl (Or.inl rfl) (pe_fld (pv 1) rfl))
      (pss_cons (ps_set (i := 4) sc_House_take_known.nd rfl (Or.inl rfl) (pe_fld (pe_fld (pv 0) rfl) rfl))
      (pss_cons (ps_set (i := 5) sc_House_take_known.nd rfl (Or.inl rfl) (pe_op op_add (pe_fld (pv 3) rfl) (pv 4)))
      (pss_cons (ps_if (PW.pt (pw_or (pt_cmpR op_ne (pe_op op_mod (pe_fld (pv 3) rfl) (pv 4)) (pe_int) (nomark _)) (pw_or1 (pt_cmpR op_gt (pv 5) (pv 2) (nomark _))))) (pss_one (ps_ret (pe_bl))) (pss_nil))
      (pss_cons (ps_set (i := 6) sc_House_take_known.nd rfl (Or.inl rfl) (pe_m (ok_Tree_known T) T.cl_Tree (hr.mono (by decide)) (pe_fld (pv 0) rfl) (pa_cons (pe_slice sl_tupA (pe_m0 (ok_Request_whole T) T.cl_Request (hr.mono (by decide)) (pv 1)) po_none (po_some (pv 5))) pa_nil)))
      (pss_cons (ps_if (pt_cmpR op_lt (pe_op op_mul (pe_callB call_len_seq (by rfl) T.b_len PySem.boot_len (pa_cons (pv 6) pa_nil)) (pv 4)) (pv 5) (nomark _)) (pss_one (ps_ret (pe_bl))) (pss_nil))
      (pss_cons (ps_expr (pe_m (ok_Table_take_over T) T.cl_Table (hr.mono (by decide)) (pv 3) (pa_cons (pe_ix ix_tup (pv 6) (pe_un un_neg (pe_int)) (fun _ _ => rfl)) pa_nil)))
      (pss_one (ps_ret (pe_bl))))))))), ?_⟩
  obtain ⟨dx, rm, h1⟩ := id ho
  obtain ⟨rdx, vt, bg, gv, r1, r2⟩ := id ra.ex
  obtain ⟨tdx, vb, t1, t2⟩ := id tt.ex
  obtain ⟨sdx, ks, s1, _⟩ := id st.ex
  obtain ⟨ydx, vs, y1, _⟩ := id ta.ex
  have hs0 := st.s0
  have hs8 := st.s1
  refine ⟨_, rfl, rp, _, rdx, _, _, rfl, r1, T.cl_Request, T.n_Request_table, rfl, ?_⟩
  refine ⟨_, rfl, hp, _, dx, _, _, rfl, h1, T.cl_House, T.n_House_store, rfl, p, _, sdx, _, _, rfl, s1, T.cl_Store, T.n_Store_size, rfl, ?_⟩
  refine ⟨_, rfl, tb, _, tdx, _, _, rfl, t1, T.cl_Table, T.n_Table_length, rfl, _, rfl, _, _, rfl, rfl, ?_⟩
  refine ⟨_, rfl, tb, _, tdx, _, _, rfl, t1, T.cl_Table, T.n_Table_length, rfl, _, rfl, _, _, rfl, rfl, ?_⟩
  refine ⟨by show (0 : Int) < (S.size : Int); omega, rfl, _, rfl, ?_⟩
  have e0 : ((len : Nat) : Int) % ((S.size : Nat) : Int) = ((len % S.size : Nat) : Int) := rfl
  by_cases c1 : len % S.size = 0
  · rw [dec_t (show V.int (((len : Nat) : Int) % ((S.size : Nat) : Int)) = V.int 0 by rw [e0, c1]; rfl)]
    refine ⟨_, rfl, _, rfl, _, _, rfl, rfl, _, rfl, ?_⟩
    by_cases c2 : ((len : Nat) : Int) + ((S.size : Nat) : Int) > (most : Int)
    · rw [decide_eq_true c2]
      exact q1 (.inr (by omega))
    · rw [decide_eq_false c2]
      have c3 : len + S.size ≤ most := by omega
      refine ⟨_, rfl, hp, _, dx, _, _, rfl, h1, T.cl_House, T.n_House_tree, rfl, tr, ydx, _, rfl, y1, rfl, _, rfl, rp, rdx, _, rfl, r1, rfl, _, rfl, rp, ap, tb, k, t, wd, rfl, ra, aa, by omega, fun H1 c w1 hc => ?_⟩
      refine ⟨_, rfl, ((len + S.size : Nat) : Int), rfl, ?_⟩
      dsimp only
      refine slA_at (K := K) hc fun H2 c2 w2 hc2 => ?_
      rw [cut_take, ← List.map_take] at hc2
      have w12 := w1.trans w2
      have hlt : ((k.prompt ++ t).take (len + S.size)).length ≤ 350 := by rw [List.length_take, List.length_append]; omega
      have hb1 := begM_len M.has S.size ((k.prompt ++ t).take (len + S.size)) (((k.prompt ++ t).take (len + S.size)).length + 1) S.size
      have hb2 : (M.begs S.size ((k.prompt ++ t).take (len + S.size))).length ≤ 351 := Nat.le_trans hb1 (by omega)
      have hbh := begM_has M.has S.size ((k.prompt ++ t).take (len + S.size)) (((k.prompt ++ t).take (len + S.size)).length + 1) S.size
      refine ⟨_, _, rfl, tr, ud, us, pl, p, ca, ka, c2, M, S, _, rfl, rfl, ta.up w12, st.up w12, hc2, by omega, by omega, by omega, fun H3 v f3 ta3 hv => ?_⟩
      have a3 := (Fr.same (S := [tr, us]) w12).trans f3
      generalize hbg : M.begs S.size ((k.prompt ++ t).take (len + S.size)) = bg at *
      obtain ⟨c4, rfl, hc4⟩ := hv.nsI
      refine ⟨_, rfl, c4, _, rfl, .inr (SqT.of hc4), _, rfl, _, _, rfl, rfl, .inr (by constructor <;> omega), _, rfl, _, _, rfl, rfl, _, rfl, ?_⟩
      rw [List.length_map, List.length_map]
      by_cases c5 : ((bg.length : Nat) : Int) * ((S.size : Nat) : Int) < ((len : Nat) : Int) + ((S.size : Nat) : Int)
      · rw [decide_eq_true c5]
        refine q2 c1 c3 ?_ _ a3 ta3
        have c5' : ((bg.length * S.size : Nat) : Int) < ((len : Nat) : Int) + ((S.size : Nat) : Int) := by rw [Int.natCast_mul]; exact c5
        omega
      · rw [decide_eq_false c5]
        have c6 : len + S.size ≤ bg.length * S.size := by
          have c5' : ¬ ((bg.length * S.size : Nat) : Int) < ((len : Nat) : Int) + ((S.size : Nat) : Int) := by rw [Int.natCast_mul]; exact c5
          omega
        have q3' := q3 c1 c3 c6
        rcases List.eq_nil_or_concat bg with rfl | ⟨xs, q, rfl⟩
        · simp at c6
          omega
        rw [List.concat_eq_append] at *
        have hq : M.has q = true := hbh q (by show q ∈ M.begs S.size _; rw [hbg]; simp)
        obtain ⟨n, hn, hn0⟩ := hcn q hq
        obtain ⟨m1, m2, m3, m4, m5, m6⟩ := tree_store ta st
        obtain ⟨z1, z2, z3, z4⟩ := tab_tree tt ta
        have st3 := (st.up w12).keep f3 (by simp; exact ⟨Ne.symm m1, Ne.symm m5⟩) (by simp; exact ⟨Ne.symm m2, Ne.symm m6⟩)
        have tt3 := (tt.up w12).keep f3 (by simp; exact ⟨z1, z3⟩)
        obtain ⟨tdx3, vb3, t13, t23⟩ := id tt3.ex
        have hlast : atI (((xs ++ [q]).map fun p => (aget M.under p).getD 0).map vN) (-1) = some (vN (M.blk q)) := by rw [List.map_append, List.map_append]; exact atI_last _ _
        refine ⟨_, rfl, tb, tdx3, _, rfl, t13, rfl, _, rfl, _, rfl, c4, _, _, _, rfl, rfl, SqT.of hc4, hlast, ?_⟩
        refine ⟨_, _, rfl, tb, p, ca, ka, S, bs, len, M.blk q, n, rfl, rfl, st3, tt3, hn, hn0, hbl, fun H4 f4 st4 tt4 => ?_⟩
        have ta4 := ta3.keep f4 (by simp; exact ⟨m1, m2, Ne.symm z1⟩) (by simp; exact ⟨m3, m4, Ne.symm z2⟩) (by simp; exact ⟨m5, m6, Ne.symm z3⟩) (by
          simp at npl ⊢
          exact ⟨npl.1, npl.2, Ne.symm z4⟩)
        exact q3' xs q n rfl hn _ ((a3.sub (by simp)).trans (f4.sub (by simp))) st4 tt4 ta4
  · rw [dec_f (show V.int (((len : Nat) : Int) % ((S.size : Nat) : Int)) ≠ V.int 0 from fun z => c1 (by have := V.int.inj z; rw [e0] at this; omega))]
    exact q1 (.inl c1)
end
end Sv
end
section
set_option Elab.async false
set_option linter.all false
set_option maxRecDepth 100000
set_option maxHeartbeats 4000000
/-! While an exception is handled: walks over lists, methods without arguments; an own exception made in the calm, its context told. -/
namespace Sv
open PySem PySem.Spec PyProof.Rows L2 HotX L2H
/-- the end of a list's iterator, an exception being handled -/
theorem list_end_hot {prog : Program} {w : World} {A : Around} {E : Value → Shared → Prop} {s : Shared} {it l x1 : Addr} {i : Nat} {items : Array Value} {Q : Option Value → Shared → Prop} (hot : HotAt A x1 s.heap) (nx : x1 ≠ it) (hit : s.heap.IsListIter it l i) (hl : s.heap.IsList l items)
    (hx : items[i]? = none) (hQ : ∀ h', (∀ b o, b ≠ it → s.heap.get? b = some o → h'.get? b = some o) → Q none { s with heap := h' }) : wpAny (model prog w) A (pyNext (.ref it)) Q E s := by
  obtain ⟨hh, o1, vs1, g1, d1, c1⟩ := hot
  obtain ⟨o, ho, hc, hd⟩ := id hit
  obtain ⟨ol, hol, _, nl, hdl⟩ := hl
  unfold pyNext
  refine wpAny_bind (wpAny_attempt (wpAny_callSpecial?_slot (name := Str.ofString "__next__") hit.typeIs slot_listiter_next (wpAny_call_entry slot_listiter_next hit.typeIs entry_listiter_next ?_ (args_listiter_next _))))
  show wpAny _ _ (field (.ref it) 0 >>= _) _ _ s
  refine wpAny_bind (wpAny_field ho hd (x := .ref l) rfl ?_)
  show wpAny _ _ (if (Value.ref l == Value.none) = true then _ else _) _ _ s
  rw [if_neg (show ¬ ((Value.ref l == Value.none) = true) from Bool.false_ne_true)]
  show wpAny _ _ (field (.ref it) 1 >>= _) _ _ s
  refine wpAny_bind (wpAny_field ho hd (x := .int i 0) rfl ?_)
  show wpAny _ _ (seqItems? (.ref l) >>= _) _ _ s
  refine wpAny_bind (wpAny_seqItems hol hdl ?_)
  simp only [Int.toNat_natCast, hx]
  refine wpAny_bind (wpAny_rule (wpAny_bind (wpAny_setField ho hd (by simp) ?_)))
  show wpAny _ _ (newExc (.type "StopIteration") [] >>= _) _ _ _
  refine wpAny_bind ?_
  simp only [newExc, newTuple]
  refine wpAny_bind (wpAny_newObj_type ?_ (by size_fits))
  refine wpAny_bind (m := firstArgMember _ _) (wpAny_of_eq (a := Value.none) (by first | rfl | (simp only [firstArgMember]; rfl)) ?_)
  refine wpAny_newObj_type ?_ (by size_fits)
  have kp : ∀ b u, b ≠ it → s.heap.get? b = some u → ((s.heap.update it (Obj.mapFields (·.setIfInBounds 0 .none))).get? b = some u) := fun b u hb e => by
    rw [Heap.get?_update_other _ _ (Ne.symm hb)]
    exact e
  refine raiseNew_hot ⟨hh, o1, vs1, Heap.get?_push_of_some _ (Heap.get?_push_of_some _ (kp _ _ nx g1)), d1, c1⟩ (Nat.ne_of_lt (Heap.lt_size (Heap.get?_push_of_some _ (kp _ _ nx g1)))) (Heap.get?_push_size _ rfl) rfl (by first | (simp; done) | (simp; omega)) ?_
  refine wpAny_bind (wpAny_isInstance (T := "StopIteration") (b := true) ⟨_, Heap.get?_update_self _ (Heap.get?_push_size _ rfl) rfl, rfl⟩ isSubtype_stop ?_)
  refine wpAny_pure (hQ _ fun b u hb e => ?_)
  have e2 := kp _ _ hb e
  rw [Heap.get?_update_other _ _ (Nat.ne_of_gt (Heap.lt_size (Heap.get?_push_of_some _ e2)))]
  exact Heap.get?_push_of_some _ (Heap.get?_push_of_some _ e2)
theorem turn_listH {P : Program} {w : World} {K : PySem.W.Frag} {tg : Expr} (a it : Addr) : TurnH P w K tg (Itl K a) [it] it (fun i h => h.IsListIter it a i) where
  mem := by simp
  obj := fun i h st b hb => by
    obtain rfl : b = it := by simpa using hb
    obtain ⟨o, e, c, d⟩ := st
    exact ⟨o, e, fun v z => by rw [d] at z; cases z⟩
  keep := fun i h h' st k => st.at fun o e => k it (by simp) o e
  item := by
    intro X hP hw hK hc i pins s σ H E I hf st hg
    subst hP hw hK
    obtain ⟨xs, x, hq, hx⟩ := hg
    obtain ⟨its, rv, p, hz⟩ := I.list hq
    obtain ⟨u, hu, ru⟩ := rv.get hx
    obtain ⟨f0, f1, f2, f3, f4, f5⟩ := hf it (by simp)
    refine wpAny_pyNext_list_item st p.isList (x := u) (by simpa using hu) fun h' st' sb => ?_
    obtain ⟨o, e, c, d⟩ := id st'
    exact ⟨u, rfl, go_of (s := { s with heap := h' }) e c d (by decide) ⟨x, H, I.turned (t' := s.toks) (fun b o hb e => (sb.2 b hb).trans e) f0 f1 f3 f4 f5, ru, ⟨rfl, fun ys hy => by rw [I.list_inj hy hq]; exact hx⟩, st', fun b hb => (hf b hb).1⟩⟩
  done := by
    intro X hP hw hK hc i pins s σ H E I hf st hg
    subst hP hw hK
    obtain ⟨xs, hq, hx⟩ := hg
    obtain ⟨its, rv, p, hz⟩ := I.list hq
    obtain ⟨f0, f1, f2, f3, f4, f5⟩ := hf it (by simp)
    have hl := rv.length
    obtain ⟨q, ⟨hh, v1, e1, c1⟩, hq'⟩ := hc
    have P1 := I.pin q (List.mem_append_left _ hq')
    exact list_end_hot ⟨hh, q.2, v1, P1.1, e1, c1⟩ (f5 q (List.mem_append_left _ hq')) st p.isList (by simp; omega) fun h' eb => ⟨rfl, I.turned (t' := s.toks) (fun b o hb e => eb b o hb e) f0 f1 f3 f4 f5⟩
  self := fun _ _ _ _ _ st h => wpAny_pyIter_listiter st h
theorem pi_listH {X : Cx} {tg l : Expr} {tl : TE} (hl : PE X l tl) : PIH X tg l (iList X.K tl) := by
  refine ⟨fun pins s σ H R I h => thn (hl.run pins s σ H _ I h) fun v s1 ⟨x, H1, I1, r1, q1⟩ => ?_⟩
  obtain ⟨a, rfl, ⟨xs, hq⟩, q⟩ := q1
  cases r1
  obtain ⟨its, rv, p, hz⟩ := I1.list hq
  refine wpAny_pyIter_list p.isList ⟨_, [s1.heap.objs.size], _, _, H1, rfl, I1.kept (t' := s1.toks) fun b o e => Heap.get?_push_of_some _ e, turn_listH a _, ⟨_, Heap.get?_push_size _ rfl, rfl, rfl⟩, fun b hb => ?_, q⟩
  obtain rfl : b = s1.heap.objs.size := by simpa using hb
  exact I1.fpOk (Nat.le_refl _) (I1.hok.fresh (Nat.le_refl _))
/-- o.m() there -/
theorem pe_methH0 {X : Cx} {CX : CXT} {k : Nat} {f C : Addr} {fd : FuncData} {ps : List Str} {sp : Sp} {E : L2.St → XK} {m : Str} {pos apos : Pos} {o : Expr} {ta : TE} {pl : Sem Bool} (he : PE X o ta) (c : Cls X.K C) (hm : Meth X.K C m f) (F : FnH X.prog X.w X.K X.mg X.base CX k f fd ps sp) (hr : RoomH k X.A) (hc : HotC X) (hb : Binds X.K fd ps [])
    (hx : ∀ σ, PassesAt CX X σ (E σ))
    (ht : eval (.Call (.Attribute o m apos) [] [] pos) X.env = (do
      let ov ← eval o X.env
      standAt apos.atName
      let (f, first) ← holding [ov] (getMethod ov m pl)
      callWith pos f first (backTo pos (starEach [] X.env)) (backToKw pos (keywordEach [] X.env))) := by rfl) :
    PE X (.Call (.Attribute o m apos) [] [] pos) (tMethH C m sp E ta tNil) := by
  refine ⟨fun pins s σ H Q I h => ?_⟩
  refine PySem.W.methodCall_KW (pl := pl) (thn (he.run pins s σ H _ I h) fun u s1 ⟨x, H1, I1, rx, a, dx, fs, ex, ea, l, q⟩ => ?_) ht
  subst ex
  obtain rfl : u = Value.ref a := rx
  refine getmeth_ok I1 ea c hm l ?_
  exact PySem.W.callWith_K0 (first := [.ref a]) I1.kIn hm.kp (run_fnH (us := [.ref a]) (vs := [.ref a]) F hr hc hb (hx σ) I1 (.cons rfl .nil) q)
/-- C(e, ..), C an own exception class with its own __init__: its context is None -/
theorem pmk_oexN {X : Cx} {CX : CXT} {x : Str} {e : Expr} {es : List Expr} {ta : TA} {p pos : Pos} {C fI : Addr} {k : Nat} {fd : FuncData} {ps : List Str} {sp : Sp} (T : OexC X.K C) (iC : PySem.W.findIn X.K (.ref C) "__init__" = some (some (.ref fI))) (tI : PySem.W.typeIn X.K (.ref fI) = some (.type "function"))
    (F1 : FnOk X.prog X.w X.K X.mg X.base CX k fI fd ps sp) (hr : Room (k + 1) X.A) (hb : Binds X.K fd ps []) (hx : Passes CX X (fun _ _ _ => False)) (hg : Gl X x) (hm : X.mg x = some (.ref C)) (ha : PA X (e :: es) ta)
    (hdb : (x == ("__debug__" : Str)) = false := by decide) (he : starEach (e :: es) X.env = (false, eval e X.env) :: starEach es X.env := by rfl) (hpl : (backTo pos (starEach es X.env)).any (·.1) = false := by rfl) :
    L2N.PMk X (.Call (.Name x p) (e :: es) [] pos) (tMkO C sp [] ta) := by
  intro pins s σ H Q I h
  obtain ⟨nm, q, N, bs, bm, sn, sub, ab, col, dd, k0, k1, k2, k3, k5, hC, hbm⟩ := T.cls
  refine wpAny_Call_Name_kw (ld_glob I hg hm (PySem.W.callWith_K (h₀ := X.base) I.ok.mod.kin T.kC (thn (ha.run pos pins s σ H _ I h) fun us s1 ⟨vs, H1, I1, r1, hz, q1⟩ => ⟨I1.kIn, ?_⟩) he hpl) hdb)
  show wpAny _ _ (call (.ref C) us) _ _ _
  obtain ⟨hp, g, dr, tk, os⟩ := s1
  generalize hA : hp.objs.size + 1 = a
  have hsz : hp.objs.size ≤ a := by omega
  have hq := q1 a (I1.hok.fresh hsz)
  have kk : ∀ b o, hp.get? b = some o → ((hp.push (PySem.W.kdv_tup us)).push (PySem.HandSPX.excO C hp.objs.size)).get? b = some o := fun b o e => Heap.get?_push_of_some _ (Heap.get?_push_of_some _ e)
  have hget : ((hp.push (PySem.W.kdv_tup us)).push (PySem.HandSPX.excO C hp.objs.size)).get? a = some (PySem.HandSPX.excO C hp.objs.size) := by rw [← hA]; heap_get
  have I2 : Inv X pins σ (upd H1 a (exo a C none)) ⟨(hp.push (PySem.W.kdv_tup us)).push (PySem.HandSPX.excO C hp.objs.size), g, dr, tk, os⟩ := I1.laid (t' := tk) kk hsz (exo_ok hget)
  have r2 : Vals (V.ref a :: (vs ++ [])) (Value.ref a :: us) := .cons rfl (by rw [List.append_nil]; exact r1)
  have hl : (Value.ref a :: us ++ []).length = ps.length := by
    have e := r2.length
    rw [F1.len _ _ _ _ hq] at e
    rw [List.append_nil]
    exact e.symm
  have b2 := hb _ (Value.ref a :: us) I2.kIn hl
  rw [List.append_nil] at b2
  have hus : us.length ≤ sizeLine := by rw [← Paired.length r1, sizeLine_eq]; omega
  refine wpAny_call (PySem.HandSPX.call_own F.excBase_ValueError (fun Y => PySem.HandSPX.refsVE_contains Y bm hbm) (I1.kIn _ _ hC) (PySem.W.looks_findIn I1.kIn iC) (fun self => PySem.W.bind_fn I1.kIn self tI) hus ?_)
  rw [hA]
  refine codeAny_mono (F1.run _ X.stack _ _ ⟨Value.ref a :: us, []⟩ (Value.ref a :: us) _ _ (fun _ _ _ => False) (hr.make C us []) (I2.env0.make C us []) b2 r2 hq) fun r s' hq' => ?_
  match r, hq' with
  | .error er, hq' => exact hx pins σ _ _ er s' I2 hq'
  | .ok (.ret u), hq' =>
    obtain ⟨v, H2, os2, bare2, un2, hok2, rv, ev, d, fs, ea, ed, hd1, q2⟩ := hq'
    subst ev
    obtain ⟨h2, g2, d2, t2, os'⟩ := s'
    obtain ⟨t0, G, J, kG, ge, hoe, na⟩ := mk_end0 (d2 := d2) (t2 := t2) I1 hsz kk un2 hok2 os2 bare2 ea ed hd1
    exact ⟨rv, a, _, _, ⟨G, g2, d2, t2, os'⟩, _, .ref C, some d, rfl, J, kG, ge, hoe, ⟨rfl, rfl, fun vs hv => by cases hv; rfl⟩, rfl, rfl, na, rfl, bare2, raises_own T.exC T.tyC, q2⟩
  | .ok .next, hq' => exact hq'.elim
  | .ok .brk, hq' => exact hq'.elim
  | .ok .cont, hq' => exact hq'.elim
end Sv
end
section
set_option Elab.async false
set_option linter.all false
set_option maxRecDepth 100000
set_option maxHeartbeats 4000000
/-! While an exception is handled: comprehensions (printed by wip/hotcomp.py). -/
namespace Sv
open PySem PySem.Spec PyProof.Rows L2 HotX L2H
/-- the context of a block there -/
abbrev blkH (X : Cx) (s : Shared) (H : Hp) (scope : Scope) (cenv : Env) (fp : List Addr) (p : Addr × Obj) : Cx := (X.blk s H scope cenv fp).tr [p] (fun _ _ => False)
theorem blk_pin {X : Cx} {s : Shared} {H H' : Hp} {scope : Scope} {ce : Env} {fp : List Addr} {p : Addr × Obj} {σ : L2.St} {s' : Shared} (I : Inv (X.blk s H scope ce fp) [] σ H' s') (h : s'.heap.get? p.1 = some p.2 ∧ H' p.1 = none ∧ p.1 ≠ ce.locals ∧ p.1 ∉ frs X.stack ∧ ∀ v, p.2.data ≠ .cell v) :
    Inv (blkH X s H scope ce fp p) [] σ H' s' :=
  ⟨I.ok.toTry _ _, I.os, I.bare, I.base, I.loc, I.cell, I.free, I.freeC, fun q hq => by
    obtain rfl : q = p := by simpa using (show q ∈ [p] ++ ([] : List (Addr × Obj)) from hq)
    exact h, I.hok, I.len⟩
/-- d[(..)] = v by a comprehension -/
theorem d_dictSetT {X : Cx} {pins : List (Addr × Obj)} {σ : L2.St} {H : Hp} {s : Shared} {E : Value → Shared → Prop} {D b : Addr} {kvs : List (List L2.Key × V)} {k : List L2.Key} {v : V} {r : Value} {Q : Unit → Shared → Prop} (hu : X.A.units + 1 < cLine) (I : Inv X pins σ H s) (hD : H D = some (.dT kvs)) (eb : H b = some (.tup (k.map kV)))
    (hz : kvs.length < sizeLine) (rv : RelV v r) (h : ∀ s', Inv X pins σ (upd H D (.dT (putK kvs k v))) s' → Q () s') : wpAny (model X.prog X.w) X.A (dictSet D (.ref b) r) Q E s := by
  obtain ⟨z, hd, xs, rel, dd⟩ := dt_of I.hok hD
  have hl : (putK kvs k v).length ≤ sizeLine := by have := length_putK kvs k v; omega
  refine wpAny_dictSet_heap (knd := tupleKind (mixKind X.prog X.w)) (k := k) (hsz := by rw [← Paired.length rel]; exact z) (show _ < cLine by omega) (key_of I.hok eb) dd fun h' dd' hs => h _ ?_
  obtain ⟨q, es, ep, hq, h2, h3, h4, _, h5⟩ := dd'
  refine d_write I (by rw [hD]; exact True.intro) hs ⟨q, hq⟩ ⟨hl, hd, _, (rel.put k eb rv).keeps fun c ys ec => ?_, q, es, ep, hq, h2, h3, h4, h5⟩
  rw [upd_ne (ne_of ec hD (fun z => nomatch z))]
  exact ec
section
variable {X : Cx}
/-- {(..): v for target in iter if ..} -/
def tDcT (wi : TI) (g : TG) (tt : TT) (tk tv : TE) (vs : List Nat) : TE := fun σ H Q => wi σ H fun J H1 => ∀ D, H1 D = none → ∃ W : Nat → Nat → Hp → Prop, (∃ m, W 0 m (upd H1 D (.dT []))) ∧ ∀ i m H, W i m H →
  (J.stop i H ∧ Q (.ref D) H) ∨ (J.go i H ∧ ∃ Nx : Hp → Prop, (∀ H', Nx H' → ∃ m', m' < m ∧ W (i + 1) m' H') ∧ ∀ x H', J.yld i H x H' → g x (wipe σ vs) H' fun σ2 H2 => wipe σ2 vs = wipe σ vs ∧ tt σ2 H2 fun b H3 =>
    if b = true then tk σ2 H3 fun y H4 => tv σ2 H4 fun z H5 => ∃ kvs k c, y = .ref c ∧ H5 c = some (.tup (k.map kV)) ∧ H5 D = some (.dT kvs) ∧ kvs.length < sizeLine ∧ Nx (upd H5 D (.dT (putK kvs k z))) else Nx H3)

theorem core_lcH {pins : List (Addr × Obj)} {s : Shared} {σ : L2.St} {H : Hp} {Q : VK} {elt tg iter : Expr} {ifs : List Expr} {scope : Scope} {own : List (Str × Nat)} {pos pos' : Pos} {wi : TI} {g : TG} {tt : TT} {te : TE} {use : Option (Value → Sem Unit)} {Qf : Value → Shared → Prop} (hc : HotC X) (hN : X.N.Nodup) (hi : PIH X tg iter wi) (ok : BlkOk X.N X.env.scope scope own)
    (hg : ∀ (s : Shared) (H : Hp) (C : Addr) (cl : List (Str × Addr)) (fp : List Addr) (p : Addr × Obj), Hot1 X.A p → PG (blkH X s H scope (compEnvC scope cl C X.env) fp p) tg g) (ht : ∀ (s : Shared) (H : Hp) (C : Addr) (cl : List (Str × Addr)) (fp : List Addr) (p : Addr × Obj), Hot1 X.A p → PTs (blkH X s H scope (compEnvC scope cl C X.env) fp p) ifs tt)
    (he : ∀ (s : Shared) (H : Hp) (C : Addr) (cl : List (Str × Addr)) (fp : List Addr) (p : Addr × Obj), Hot1 X.A p → PE (blkH X s H scope (compEnvC scope cl C X.env) fp p) elt te) (hs : ∀ x, foldedSetIterable iter X.env x = pure x) (I : Inv X pins σ H s) (h : (tLc wi g tt te (own.map (·.2))) σ H Q)
    (hR : ∀ D C s' m H', Inv X pins σ H' s' → Q (.ref D) H' → s'.heap.Ns C m → FpOk X pins H' C → compPost (model X.prog X.w) X.A X.xe use Qf (.ref D) C (.ok .next) s') :
    wpAny (model X.prog X.w) X.A (comprehension (.ListComp elt [⟨tg, iter, ifs, 0⟩] scope pos) scope X.env pos' (newList []) false (eval iter X.env) use) Qf X.xe s := by
  obtain ⟨p, hot, hp⟩ := hc
  have hfree : ∀ y ∈ scope.names, y.2 = .free → ∃ c, X.env.cells.lookup y.1 = some c := fun y hy e => (ok.free y hy e).elim (fun k => I.ok.has _ (.inl k)) fun k => I.ok.has _ (.inr k)
  refine wpAny_comprehension_free (use := use) rfl hs (closure_ok hfree) ok.kind (fun y hy e => by rw [ok.uniq y hy, e]) (thn (hi.run pins s σ H _ I h) fun xv s1 hx => thn hx fun itv s2 h2 => ?_)
  obtain ⟨it, fp, tn, J, H2, rfl, I2, T, st2, f2, q⟩ := h2
  refine wpAny_newObj_type (newEnv_comp ?_) (by show 0 ≤ sizeLine; decide)
  generalize hD : s2.heap.objs.size = D
  have hDn : H2 D = none := I2.hok.fresh (Nat.le_of_eq hD)
  obtain ⟨W, ⟨m0, w0⟩, turn⟩ := q D hDn
  generalize hs3 : ({ s2 with heap := s2.heap.push { cls := .type "list", data := .seq ([] : List Value).toArray } } : Shared) = s3
  generalize hH3 : upd H2 D (.lst []) = H3 at w0
  have I3 : Inv X pins σ H3 s3 := by
    rw [← hs3, ← hH3]
    refine I2.laid (t' := s2.toks) (fun b o e => Heap.get?_push_of_some _ e) (Nat.le_of_eq hD) ⟨Nat.zero_le _, [], 0, .nil, ?_⟩
    rw [← hD]
    exact Heap.get?_push_size _ rfl
  have h3 : ∀ b o, s2.heap.get? b = some o → s3.heap.get? b = some o := fun b o e => by rw [← hs3]; exact Heap.get?_push_of_some _ e
  have z3 : s3.heap.objs.size = s2.heap.objs.size + 1 := by rw [← hs3]; exact Heap.size_push _ _
  have f3 : ∀ b ∈ fp, FpOk X pins H3 b ∧ b < s3.heap.objs.size := fun b hb => by
    obtain ⟨o, e, _⟩ := T.obj _ _ st2 b hb
    have hlt := Heap.lt_size e
    refine ⟨⟨?_, (f2 b hb).2⟩, by rw [z3]; exact Nat.lt_succ_of_lt hlt⟩
    rw [← hH3, upd_ne (by rw [← hD]; exact Nat.ne_of_lt hlt)]
    exact (f2 b hb).1
  have I4 := block_start I3 ok hN f3
  have P3 := I3.pin p (List.mem_append_left _ hp)
  have pg := hg s3 H3 s3.heap.objs.size (cellsFrom (s3.heap.objs.size + 1) scope.names (cloFrom X.env.cells scope.names [])) fp p hot
  have pt := ht s3 H3 s3.heap.objs.size (cellsFrom (s3.heap.objs.size + 1) scope.names (cloFrom X.env.cells scope.names [])) fp p hot
  have pe := he s3 H3 s3.heap.objs.size (cellsFrom (s3.heap.objs.size + 1) scope.names (cloFrom X.env.cells scope.names [])) fp p hot
  show codeAny _ _ (.compStart (.ListComp elt [⟨tg, iter, ifs, 0⟩] scope pos) 0 (.ref it) (.ref D) (compEnvC scope (cellsFrom (s3.heap.objs.size + 1) scope.names (cloFrom X.env.cells scope.names [])) s3.heap.objs.size X.env)) _ { s3 with heap := pushCells (s3.heap.push { cls := .type "dict", data := .dict #[] }) scope.names }
  have kp4 : ∀ b o, s3.heap.get? b = some o → (pushCells (s3.heap.push { cls := .type "dict", data := .dict #[] }) scope.names).get? b = some o := fun b o e => pushCells_keeps _ _ _ _ (Heap.get?_push_of_some _ e)
  generalize hce : compEnvC scope (cellsFrom (s3.heap.objs.size + 1) scope.names (cloFrom X.env.cells scope.names [])) s3.heap.objs.size X.env = ce at I4 pg pt pe ⊢
  have cL : ce.locals = s3.heap.objs.size := by subst hce; rfl
  generalize hs4 : ({ s3 with heap := pushCells (s3.heap.push { cls := .type "dict", data := .dict #[] }) scope.names } : Shared) = s4 at I4 ⊢
  have h34 : ∀ b o, s3.heap.get? b = some o → s4.heap.get? b = some o := fun b o e => by rw [← hs4]; exact kp4 b o e
  have st4 : tn 0 s4.heap := T.keep _ _ _ st2 fun b _ o e => h34 _ _ (h3 _ _ e)
  -- the block bears the exception, too
  have J4 : Inv (blkH X s3 H3 scope ce fp p) [] (wipe σ (own.map (·.2))) H3 s4 := blk_pin I4 ⟨h34 _ _ P3.1, P3.2.1, by rw [cL]; exact Nat.ne_of_lt (Heap.lt_size P3.1), fun hm => (List.mem_cons.mp (I3.stkSub p.1 hm)).elim P3.2.2.1 P3.2.2.2.1, P3.2.2.2.2⟩
  have nit : ∀ b ∈ fp, p.1 ≠ b := fun b hb => (f3 b hb).1.2.2.2.2.2 p (List.mem_append_left _ hp)
  generalize hB : blkH X s3 H3 scope ce fp p = B at J4 pg pt pe
  have hcB : HotC B := by subst hB; exact ⟨p, hot, List.mem_cons_self⟩
  have eA : B.A = X.A := by subst hB; rfl
  have eP : B.prog = X.prog := by subst hB; rfl
  have eW : B.w = X.w := by subst hB; rfl
  have eK : B.K = X.K := by subst hB; rfl
  have eE : B.env = ce := by subst hB; rfl
  have stat : ∀ {σ' : L2.St} {H' : Hp} {s' : Shared}, Inv B [] σ' H' s' → (∀ b ∈ fp, H' b = none) → ∀ b ∈ fp, FpOk B [] H' b := fun {σ' H' s'} I' hn b hb => by
    subst hB
    exact ⟨hn b hb, (I'.ok.exf b hb).1, I'.ok.exfs b hb, .inl hb, fun x c e => (I'.ok.exf b hb).2 x c e, fun q hq => by
      obtain rfl : q = p := by simpa using (show q ∈ [p] ++ ([] : List (Addr × Obj)) from hq)
      exact nit b hb⟩
  have loop : codeAny (model X.prog X.w) X.A (.compLoop (.ListComp elt [⟨tg, iter, ifs, 0⟩] scope pos) 0 (.ref it) (.ref D) ce) (compPost (model X.prog X.w) X.A X.xe use Qf (.ref D) s3.heap.objs.size) s4 := by
    refine compLoop_any (fun n s' => ∃ i H', Inv B [] (wipe σ (own.map (·.2))) H' s' ∧ tn i s'.heap ∧ (∀ b ∈ fp, H' b = none) ∧ W i n H') ?_ m0 ⟨0, H3, J4, st4, fun b hb => (f3 b hb).1.1, w0⟩
    rintro n s5 ⟨i, H5, I5, st5, n5, w5⟩
    rcases turn i n H5 w5 with ⟨stop, qq⟩ | ⟨go, Nx, hNx, step⟩
    · have td := T.done B eP eW eK hcB i [] s5 _ H5 (fun _ _ => False) I5 (stat I5 n5) st5 stop
      rw [eA] at td
      refine thnF td fun r s6 ⟨hr, I6⟩ => ?_
      subst hr
      subst hB
      have I7 : Inv X pins σ H5 s6 := I3.call' (ch := fp) I6.os I6.base I6.hok I6.bare fun b hb => ⟨(f3 b hb).1.2.2.2.1, (f3 b hb).1.2.1, (f3 b hb).1.2.2.2.2.1, (f3 b hb).1.2.2.2.2.2⟩
      have nC : H5 s3.heap.objs.size = none := by
        have z : H5 ce.locals = none := I6.free
        rw [cL] at z
        exact z
      obtain ⟨m, hn, _⟩ := I6.loc
      have hn : s6.heap.Ns ce.locals m := hn
      rw [cL] at hn
      exact hR D s3.heap.objs.size s6 m H5 I7 qq hn (I3.fpOk (Nat.le_refl _) nC)
    · have ti := T.item B eP eW eK hcB i [] s5 _ H5 (fun _ _ => False) I5 (stat I5 n5) st5 go
      rw [eA] at ti
      refine thnF ti fun r s6 ⟨u, hr, h6⟩ => ?_
      subst hr
      refine thnF h6 fun _ s7 ⟨x, H7, I7, r7, y7, st7, n7⟩ => ?_
      have I7' := I7.pinned (stat I7 n7) (T.obj _ _ st7)
      subst hB
      refine thnF (pg.run _ s7 _ H7 x u _ I7' r7 (step x H7 y7)) fun _ s8 ⟨σ8, H8, I8, hw8, q8⟩ => ?_
      refine thnF (pt.run _ s8 σ8 H8 _ I8 q8) fun b s9 ⟨H9, I9, q9⟩ => ?_
      have fin : ∀ {s' : Shared} {H' : Hp}, Inv (blkH X s3 H3 scope ce fp p) ([] ++ pinsAt fp s7.heap) σ8 H' s' → Nx H' → ∃ m, m < n ∧ ∃ i H', Inv (blkH X s3 H3 scope ce fp p) [] (wipe σ (own.map (·.2))) H' s' ∧ tn i s'.heap ∧ (∀ b ∈ fp, H' b = none) ∧ W i m H' := fun {s' H'} I' nx => by
        obtain ⟨m', hm, w'⟩ := hNx H' nx
        have pin' : ∀ b ∈ fp, ∀ o, s7.heap.get? b = some o → s'.heap.get? b = some o ∧ H' b = none := fun b hb o e =>
          let z := I'.pin (b, o) (List.mem_append_right _ (List.mem_append_right _ (mem_pinsAt hb e)))
          ⟨z.1, z.2.1⟩
        refine ⟨m', hm, i + 1, H', (I'.unpinned (pins := [])).weak (by rw [← hw8, wipe_length]) (fun j v e => ?_), T.keep _ _ _ st7 fun b hb o e => (pin' b hb o e).1, fun b hb => ?_, w'⟩
        · rw [← hw8] at e
          exact (wipe_some e).1
        · obtain ⟨o, e, _⟩ := T.obj _ _ st7 b hb
          exact (pin' b hb o e).2
      cases b with
      | false =>
        simp only [Bool.false_eq_true, if_false] at q9 ⊢
        exact fin I9 q9
      | true =>
        simp only [if_true] at q9 ⊢
        refine thnF (pe.run _ s9 σ8 H9 _ I9 q9) fun z s10 ⟨yv, H10, I10, r10, acc, hD10, hz10, nx⟩ => ?_
        exact app_ok (X := blkH X s3 H3 scope ce fp p) I10 hD10 hz10 r10 fun s11 I11 => fin I11 nx
  exact codeAny_compStart_list loop (T.self X.A 0 _ _ _ st4 loop)
theorem pe_lcH {elt tg iter : Expr} {ifs : List Expr} {scope : Scope} {own : List (Str × Nat)} {pos : Pos} {wi : TI} {g : TG} {tt : TT} {te : TE} (hc : HotC X) (hN : X.N.Nodup) (hi : PIH X tg iter wi) (ok : BlkOk X.N X.env.scope scope own)
    (hg : ∀ (s : Shared) (H : Hp) (C : Addr) (cl : List (Str × Addr)) (fp : List Addr) (p : Addr × Obj), Hot1 X.A p → PG (blkH X s H scope (compEnvC scope cl C X.env) fp p) tg g) (ht : ∀ (s : Shared) (H : Hp) (C : Addr) (cl : List (Str × Addr)) (fp : List Addr) (p : Addr × Obj), Hot1 X.A p → PTs (blkH X s H scope (compEnvC scope cl C X.env) fp p) ifs tt)
    (he : ∀ (s : Shared) (H : Hp) (C : Addr) (cl : List (Str × Addr)) (fp : List Addr) (p : Addr × Obj), Hot1 X.A p → PE (blkH X s H scope (compEnvC scope cl C X.env) fp p) elt te) (hs : ∀ x, foldedSetIterable iter X.env x = pure x := by intro _; rfl) : PE X (.ListComp elt [⟨tg, iter, ifs, 0⟩] scope pos) (tLc wi g tt te (own.map (·.2))) := by
  refine ⟨fun pins s σ H Q I h => ?_⟩
  rw [eval_ListComp]
  refine core_lcH hc hN hi ok hg ht he hs I h fun D C s' m H' I' q hn f => ⟨m, hn, fun h'' sb => ?_⟩
  obtain ⟨g0, g1, g2, g3, g4, g5⟩ := f
  exact ⟨.ref D, H', I'.turned (t' := s'.toks) (fun b o hb e => (sb.2 b hb).trans e) g0 g1 g3 g4 g5, rfl, q⟩

theorem ps_setLcH {i : Nat} {y : Str} {py : Pos} {elt tg iter : Expr} {ifs : List Expr} {scope : Scope} {own : List (Str × Nat)} {pos spos : Pos} {wi : TI} {g : TG} {tt : TT} {te : TE} (hc : HotC X) (hN : X.N.Nodup) (hy : X.N[i]? = some y) (hyl : X.env.scope.names.lookup y = some .local)
    (hsw : swapsWith (.ListComp elt [⟨tg, iter, ifs, 0⟩] scope pos) (some (.Name y py)) spos.line X.env = pure true) (hi : PIH X tg iter wi) (ok : BlkOk X.N X.env.scope scope own)
    (hg : ∀ (s : Shared) (H : Hp) (C : Addr) (cl : List (Str × Addr)) (fp : List Addr) (p : Addr × Obj), Hot1 X.A p → PG (blkH X s H scope (compEnvC scope cl C X.env) fp p) tg g) (ht : ∀ (s : Shared) (H : Hp) (C : Addr) (cl : List (Str × Addr)) (fp : List Addr) (p : Addr × Obj), Hot1 X.A p → PTs (blkH X s H scope (compEnvC scope cl C X.env) fp p) ifs tt) (he : ∀ (s : Shared) (H : Hp) (C : Addr) (cl : List (Str × Addr)) (fp : List Addr) (p : Addr × Obj), Hot1 X.A p → PE (blkH X s H scope (compEnvC scope cl C X.env) fp p) elt te) (hs : ∀ x, foldedSetIterable iter X.env x = pure x := by intro _; rfl) :
    PS X (.Assign [.Name y py] (.ListComp elt [⟨tg, iter, ifs, 0⟩] scope pos) spos) (tAsg (tLc wi g tt te (own.map (·.2))) (gName i)) := by
  refine ⟨fun pins s σ H D I h => ?_⟩
  rw [exec_Assign_Name_used _ _ _ _ hsw]
  refine wpAny_bind (wpAny_standAt (wpAny_bind ?_))
  show wpAny _ X.A (do let _ ← comprehension (.ListComp elt [⟨tg, iter, ifs, 0⟩] scope pos) scope X.env (firstIterPos [⟨tg, iter, ifs, 0⟩] pos) (newList []) false (eval iter X.env) (some (assign (.Name y py) X.env))) _ _ s
  have h : tLc wi g tt te (own.map (·.2)) σ H (fun x H1 => gName i x σ H1 D.nx) := h
  refine wpAny_bind (thn (core_lcH (Qf := fun _ s' => SP X pins D .next s') hc hN hi ok hg ht he hs I h fun L C s' m H' I' q hn f => ?_) fun _ s' hq => wpAny_pure (wpAny_pure hq))
  show wpAny _ _ (assign (.Name y py) X.env (.ref L)) _ _ _
  refine wpAny_assign_Name (store_ok2 (v := V.ref L) I' hN hy (.inl hyl) rfl (fun s2 I2 ⟨a, sb, ha⟩ => ?_) (.inr hyl))
  obtain ⟨g0, g1, g2, g3, g4, g5⟩ := f
  have haC : C ≠ a := ha.elim (fun z => by rw [z]; exact g1) fun z e => g4 y a z e.symm
  exact ⟨m, hn.sameBut sb haC, fun h3 sb3 => ⟨_, H', I2.turned (t' := s2.toks) (fun b o hb e => (sb3.2 b hb).trans e) g0 g1 g3 g4 g5, q⟩⟩

theorem core_dcH {pins : List (Addr × Obj)} {s : Shared} {σ : L2.St} {H : Hp} {Q : VK} {kx vx tg iter : Expr} {ifs : List Expr} {scope : Scope} {own : List (Str × Nat)} {pos pos' : Pos} {wi : TI} {g : TG} {tt : TT} {tk tv : TE} {use : Option (Value → Sem Unit)} {Qf : Value → Shared → Prop} (hc : HotC X) (hu : X.A.units + 1 < cLine) (hN : X.N.Nodup) (hi : PIH X tg iter wi) (ok : BlkOk X.N X.env.scope scope own)
    (hg : ∀ (s : Shared) (H : Hp) (C : Addr) (cl : List (Str × Addr)) (fp : List Addr) (p : Addr × Obj), Hot1 X.A p → PG (blkH X s H scope (compEnvC scope cl C X.env) fp p) tg g) (ht : ∀ (s : Shared) (H : Hp) (C : Addr) (cl : List (Str × Addr)) (fp : List Addr) (p : Addr × Obj), Hot1 X.A p → PTs (blkH X s H scope (compEnvC scope cl C X.env) fp p) ifs tt)
    (hk : ∀ (s : Shared) (H : Hp) (C : Addr) (cl : List (Str × Addr)) (fp : List Addr) (p : Addr × Obj), Hot1 X.A p → PE (blkH X s H scope (compEnvC scope cl C X.env) fp p) kx tk) (he : ∀ (s : Shared) (H : Hp) (C : Addr) (cl : List (Str × Addr)) (fp : List Addr) (p : Addr × Obj), Hot1 X.A p → PE (blkH X s H scope (compEnvC scope cl C X.env) fp p) vx tv) (hs : ∀ x, foldedSetIterable iter X.env x = pure x) (I : Inv X pins σ H s) (h : (tDcT wi g tt tk tv (own.map (·.2))) σ H Q)
    (hR : ∀ D C s' m H', Inv X pins σ H' s' → Q (.ref D) H' → s'.heap.Ns C m → FpOk X pins H' C → compPost (model X.prog X.w) X.A X.xe use Qf (.ref D) C (.ok .next) s') :
    wpAny (model X.prog X.w) X.A (comprehension (.DictComp kx vx [⟨tg, iter, ifs, 0⟩] scope pos) scope X.env pos' (newDict) false (eval iter X.env) use) Qf X.xe s := by
  obtain ⟨p, hot, hp⟩ := hc
  have hfree : ∀ y ∈ scope.names, y.2 = .free → ∃ c, X.env.cells.lookup y.1 = some c := fun y hy e => (ok.free y hy e).elim (fun k => I.ok.has _ (.inl k)) fun k => I.ok.has _ (.inr k)
  refine wpAny_comprehension_free (use := use) rfl hs (closure_ok hfree) ok.kind (fun y hy e => by rw [ok.uniq y hy, e]) (thn (hi.run pins s σ H _ I h) fun xv s1 hx => thn hx fun itv s2 h2 => ?_)
  obtain ⟨it, fp, tn, J, H2, rfl, I2, T, st2, f2, q⟩ := h2
  refine wpAny_newObj_type (newEnv_comp ?_)
  generalize hD : s2.heap.objs.size = D
  have hDn : H2 D = none := I2.hok.fresh (Nat.le_of_eq hD)
  obtain ⟨W, ⟨m0, w0⟩, turn⟩ := q D hDn
  generalize hs3 : ({ s2 with heap := s2.heap.push { cls := .type "dict", data := .dict #[] } } : Shared) = s3
  generalize hH3 : upd H2 D (.dT []) = H3 at w0
  have I3 : Inv X pins σ H3 s3 := by
    rw [← hs3, ← hH3]
    refine I2.laid (t' := s2.toks) (fun b o e => Heap.get?_push_of_some _ e) (Nat.le_of_eq hD) ?_
    rw [← hD]
    exact dt_empty s2.heap I2.big
  have h3 : ∀ b o, s2.heap.get? b = some o → s3.heap.get? b = some o := fun b o e => by rw [← hs3]; exact Heap.get?_push_of_some _ e
  have z3 : s3.heap.objs.size = s2.heap.objs.size + 1 := by rw [← hs3]; exact Heap.size_push _ _
  have f3 : ∀ b ∈ fp, FpOk X pins H3 b ∧ b < s3.heap.objs.size := fun b hb => by
    obtain ⟨o, e, _⟩ := T.obj _ _ st2 b hb
    have hlt := Heap.lt_size e
    refine ⟨⟨?_, (f2 b hb).2⟩, by rw [z3]; exact Nat.lt_succ_of_lt hlt⟩
    rw [← hH3, upd_ne (by rw [← hD]; exact Nat.ne_of_lt hlt)]
    exact (f2 b hb).1
  have I4 := block_start I3 ok hN f3
  have P3 := I3.pin p (List.mem_append_left _ hp)
  have pg := hg s3 H3 s3.heap.objs.size (cellsFrom (s3.heap.objs.size + 1) scope.names (cloFrom X.env.cells scope.names [])) fp p hot
  have pt := ht s3 H3 s3.heap.objs.size (cellsFrom (s3.heap.objs.size + 1) scope.names (cloFrom X.env.cells scope.names [])) fp p hot
  have pe := he s3 H3 s3.heap.objs.size (cellsFrom (s3.heap.objs.size + 1) scope.names (cloFrom X.env.cells scope.names [])) fp p hot
  have pk := hk s3 H3 s3.heap.objs.size (cellsFrom (s3.heap.objs.size + 1) scope.names (cloFrom X.env.cells scope.names [])) fp p hot
  show codeAny _ _ (.compStart (.DictComp kx vx [⟨tg, iter, ifs, 0⟩] scope pos) 0 (.ref it) (.ref D) (compEnvC scope (cellsFrom (s3.heap.objs.size + 1) scope.names (cloFrom X.env.cells scope.names [])) s3.heap.objs.size X.env)) _ { s3 with heap := pushCells (s3.heap.push { cls := .type "dict", data := .dict #[] }) scope.names }
  have kp4 : ∀ b o, s3.heap.get? b = some o → (pushCells (s3.heap.push { cls := .type "dict", data := .dict #[] }) scope.names).get? b = some o := fun b o e => pushCells_keeps _ _ _ _ (Heap.get?_push_of_some _ e)
  generalize hce : compEnvC scope (cellsFrom (s3.heap.objs.size + 1) scope.names (cloFrom X.env.cells scope.names [])) s3.heap.objs.size X.env = ce at I4 pg pt pk pe ⊢
  have cL : ce.locals = s3.heap.objs.size := by subst hce; rfl
  generalize hs4 : ({ s3 with heap := pushCells (s3.heap.push { cls := .type "dict", data := .dict #[] }) scope.names } : Shared) = s4 at I4 ⊢
  have h34 : ∀ b o, s3.heap.get? b = some o → s4.heap.get? b = some o := fun b o e => by rw [← hs4]; exact kp4 b o e
  have st4 : tn 0 s4.heap := T.keep _ _ _ st2 fun b _ o e => h34 _ _ (h3 _ _ e)
  -- the block bears the exception, too
  have J4 : Inv (blkH X s3 H3 scope ce fp p) [] (wipe σ (own.map (·.2))) H3 s4 := blk_pin I4 ⟨h34 _ _ P3.1, P3.2.1, by rw [cL]; exact Nat.ne_of_lt (Heap.lt_size P3.1), fun hm => (List.mem_cons.mp (I3.stkSub p.1 hm)).elim P3.2.2.1 P3.2.2.2.1, P3.2.2.2.2⟩
  have nit : ∀ b ∈ fp, p.1 ≠ b := fun b hb => (f3 b hb).1.2.2.2.2.2 p (List.mem_append_left _ hp)
  generalize hB : blkH X s3 H3 scope ce fp p = B at J4 pg pt pk pe
  have hcB : HotC B := by subst hB; exact ⟨p, hot, List.mem_cons_self⟩
  have eA : B.A = X.A := by subst hB; rfl
  have eP : B.prog = X.prog := by subst hB; rfl
  have eW : B.w = X.w := by subst hB; rfl
  have eK : B.K = X.K := by subst hB; rfl
  have eE : B.env = ce := by subst hB; rfl
  have stat : ∀ {σ' : L2.St} {H' : Hp} {s' : Shared}, Inv B [] σ' H' s' → (∀ b ∈ fp, H' b = none) → ∀ b ∈ fp, FpOk B [] H' b := fun {σ' H' s'} I' hn b hb => by
    subst hB
    exact ⟨hn b hb, (I'.ok.exf b hb).1, I'.ok.exfs b hb, .inl hb, fun x c e => (I'.ok.exf b hb).2 x c e, fun q hq => by
      obtain rfl : q = p := by simpa using (show q ∈ [p] ++ ([] : List (Addr × Obj)) from hq)
      exact nit b hb⟩
  have loop : codeAny (model X.prog X.w) X.A (.compLoop (.DictComp kx vx [⟨tg, iter, ifs, 0⟩] scope pos) 0 (.ref it) (.ref D) ce) (compPost (model X.prog X.w) X.A X.xe use Qf (.ref D) s3.heap.objs.size) s4 := by
    refine compLoop_anyD (fun n s' => ∃ i H', Inv B [] (wipe σ (own.map (·.2))) H' s' ∧ tn i s'.heap ∧ (∀ b ∈ fp, H' b = none) ∧ W i n H') ?_ m0 ⟨0, H3, J4, st4, fun b hb => (f3 b hb).1.1, w0⟩
    rintro n s5 ⟨i, H5, I5, st5, n5, w5⟩
    rcases turn i n H5 w5 with ⟨stop, qq⟩ | ⟨go, Nx, hNx, step⟩
    · have td := T.done B eP eW eK hcB i [] s5 _ H5 (fun _ _ => False) I5 (stat I5 n5) st5 stop
      rw [eA] at td
      refine thnF td fun r s6 ⟨hr, I6⟩ => ?_
      subst hr
      subst hB
      have I7 : Inv X pins σ H5 s6 := I3.call' (ch := fp) I6.os I6.base I6.hok I6.bare fun b hb => ⟨(f3 b hb).1.2.2.2.1, (f3 b hb).1.2.1, (f3 b hb).1.2.2.2.2.1, (f3 b hb).1.2.2.2.2.2⟩
      have nC : H5 s3.heap.objs.size = none := by
        have z : H5 ce.locals = none := I6.free
        rw [cL] at z
        exact z
      obtain ⟨m, hn, _⟩ := I6.loc
      have hn : s6.heap.Ns ce.locals m := hn
      rw [cL] at hn
      exact hR D s3.heap.objs.size s6 m H5 I7 qq hn (I3.fpOk (Nat.le_refl _) nC)
    · have ti := T.item B eP eW eK hcB i [] s5 _ H5 (fun _ _ => False) I5 (stat I5 n5) st5 go
      rw [eA] at ti
      refine thnF ti fun r s6 ⟨u, hr, h6⟩ => ?_
      subst hr
      refine thnF h6 fun _ s7 ⟨x, H7, I7, r7, y7, st7, n7⟩ => ?_
      have I7' := I7.pinned (stat I7 n7) (T.obj _ _ st7)
      subst hB
      refine thnF (pg.run _ s7 _ H7 x u _ I7' r7 (step x H7 y7)) fun _ s8 ⟨σ8, H8, I8, hw8, q8⟩ => ?_
      refine thnF (pt.run _ s8 σ8 H8 _ I8 q8) fun b s9 ⟨H9, I9, q9⟩ => ?_
      have fin : ∀ {s' : Shared} {H' : Hp}, Inv (blkH X s3 H3 scope ce fp p) ([] ++ pinsAt fp s7.heap) σ8 H' s' → Nx H' → ∃ m, m < n ∧ ∃ i H', Inv (blkH X s3 H3 scope ce fp p) [] (wipe σ (own.map (·.2))) H' s' ∧ tn i s'.heap ∧ (∀ b ∈ fp, H' b = none) ∧ W i m H' := fun {s' H'} I' nx => by
        obtain ⟨m', hm, w'⟩ := hNx H' nx
        have pin' : ∀ b ∈ fp, ∀ o, s7.heap.get? b = some o → s'.heap.get? b = some o ∧ H' b = none := fun b hb o e =>
          let z := I'.pin (b, o) (List.mem_append_right _ (List.mem_append_right _ (mem_pinsAt hb e)))
          ⟨z.1, z.2.1⟩
        refine ⟨m', hm, i + 1, H', (I'.unpinned (pins := [])).weak (by rw [← hw8, wipe_length]) (fun j v e => ?_), T.keep _ _ _ st7 fun b hb o e => (pin' b hb o e).1, fun b hb => ?_, w'⟩
        · rw [← hw8] at e
          exact (wipe_some e).1
        · obtain ⟨o, e, _⟩ := T.obj _ _ st7 b hb
          exact (pin' b hb o e).2
      cases b with
      | false =>
        simp only [Bool.false_eq_true, if_false] at q9 ⊢
        exact fin I9 q9
      | true =>
        simp only [if_true] at q9 ⊢
        refine thnF (pk.run _ s9 σ8 H9 _ I9 q9) fun z s10 ⟨yk, H10, I10, r10, q10⟩ => ?_
        refine thnF (pe.run _ s10 σ8 H10 _ I10 q10) fun z2 s11 ⟨yv, H11, I11, r11, kvs, k, c, ek, ec, hD11, hz11, nx⟩ => ?_
        subst ek
        obtain rfl : z = Value.ref c := r10
        exact d_dictSetT (X := blkH X s3 H3 scope ce fp p) hu I11 hD11 ec hz11 r11 fun s12 I12 => fin I12 nx
  exact codeAny_compStart_dict loop (T.self X.A 0 _ _ _ st4 loop)
theorem pe_dcH {kx vx tg iter : Expr} {ifs : List Expr} {scope : Scope} {own : List (Str × Nat)} {pos : Pos} {wi : TI} {g : TG} {tt : TT} {tk tv : TE} (hc : HotC X) (hu : X.A.units + 1 < cLine) (hN : X.N.Nodup) (hi : PIH X tg iter wi) (ok : BlkOk X.N X.env.scope scope own)
    (hg : ∀ (s : Shared) (H : Hp) (C : Addr) (cl : List (Str × Addr)) (fp : List Addr) (p : Addr × Obj), Hot1 X.A p → PG (blkH X s H scope (compEnvC scope cl C X.env) fp p) tg g) (ht : ∀ (s : Shared) (H : Hp) (C : Addr) (cl : List (Str × Addr)) (fp : List Addr) (p : Addr × Obj), Hot1 X.A p → PTs (blkH X s H scope (compEnvC scope cl C X.env) fp p) ifs tt)
    (hk : ∀ (s : Shared) (H : Hp) (C : Addr) (cl : List (Str × Addr)) (fp : List Addr) (p : Addr × Obj), Hot1 X.A p → PE (blkH X s H scope (compEnvC scope cl C X.env) fp p) kx tk) (he : ∀ (s : Shared) (H : Hp) (C : Addr) (cl : List (Str × Addr)) (fp : List Addr) (p : Addr × Obj), Hot1 X.A p → PE (blkH X s H scope (compEnvC scope cl C X.env) fp p) vx tv) (hs : ∀ x, foldedSetIterable iter X.env x = pure x := by intro _; rfl) : PE X (.DictComp kx vx [⟨tg, iter, ifs, 0⟩] scope pos) (tDcT wi g tt tk tv (own.map (·.2))) := by
  refine ⟨fun pins s σ H Q I h => ?_⟩
  rw [arm_eval_DictComp]
  refine core_dcH hc hu hN hi ok hg ht hk he hs I h fun D C s' m H' I' q hn f => ⟨m, hn, fun h'' sb => ?_⟩
  obtain ⟨g0, g1, g2, g3, g4, g5⟩ := f
  exact ⟨.ref D, H', I'.turned (t' := s'.toks) (fun b o hb e => (sb.2 b hb).trans e) g0 g1 g3 g4 g5, rfl, q⟩
end
end Sv
end
section
set_option Elab.async false
set_option linter.all false
set_option maxRecDepth 100000
set_option maxHeartbeats 4000000
/-! Own words for what is called while an exception is handled. -/
namespace Sv
open PySem PySem.Spec PyProof.Rows L2 HotX L2H
section
variable (P : Program) (w : World) (K : PySem.W.Frag) (mg : Str → Option Value) (base : Heap)
structure HFn (k : Nat) (x : Str) (ps : List Str) (sp : Sp) : Prop where
  ex : ∃ f fd, mg x = some (.ref f) ∧ PySem.W.keepIn K (.ref f) = true ∧ FnH P w K mg base CX0 k f fd ps sp ∧ Binds K fd ps []
structure HMFn (k : Nat) (C : Addr) (m : Str) (ps : List Str) (sp : Sp) : Prop where
  ex : ∃ f fd, Meth K C m f ∧ FnH P w K mg base CX0 k f fd ps sp ∧ Binds K fd ps []
end
theorem huH {k : Nat} {A : Around} (hr : RoomH k A) : A.units + 1 < cLine := by have := hr.un; omega
theorem huH64 {k : Nat} {A : Around} (hr : RoomH k A) : A.units + 64 < cLine := by have := hr.un; omega
theorem passE0 {X : Cx} {σ : L2.St} : PassesAt CX0 X σ E0 := fun _ _ _ _ _ _ h => h.elim
section
variable {X : Cx} {k : Nat} {x m : Str} {C : Addr} {ps : List Str} {sp : Sp} {p pos apos : Pos} {e o : Expr} {es : List Expr} {ta : TE} {t : TA}
theorem pe_gH (G : HFn X.prog X.w X.K X.mg X.base k x ps sp) (hr : RoomH k X.A) (hc : HotC X) (ha : PA X (e :: es) t) (hg : Gl X x := by rfl) (hdb : (x == ("__debug__" : Str)) = false := by decide)
    (he : starEach (e :: es) X.env = (false, eval e X.env) :: starEach es X.env := by rfl) (hpl : (backTo pos (starEach es X.env)).any (·.1) = false := by rfl) :
    PE X (.Call (.Name x p) (e :: es) [] pos) (tCallS sp (fun _ => E0) t) := by
  obtain ⟨f, fd, hm, hk, F, b⟩ := G.ex
  exact pe_callH F hr hc hg hm hk b (fun _ => passE0) ha hdb he hpl
theorem pe_mH {pl : Sem Bool} (G : HMFn X.prog X.w X.K X.mg X.base k C m ps sp) (c : Cls X.K C) (hr : RoomH k X.A) (hc : HotC X) (he : PE X o ta) (ha : PA X (e :: es) t)
    (hst : starEach (e :: es) X.env = (false, eval e X.env) :: starEach es X.env := by rfl) (hpl : (backTo pos (starEach es X.env)).any (·.1) = false := by rfl)
    (ht : eval (.Call (.Attribute o m apos) (e :: es) [] pos) X.env = (do
      let ov ← eval o X.env
      standAt apos.atName
      let (f, first) ← holding [ov] (getMethod ov m pl)
      callWith pos f first (backTo pos (starEach (e :: es) X.env)) (backToKw pos (keywordEach [] X.env))) := by rfl) :
    PE X (.Call (.Attribute o m apos) (e :: es) [] pos) (tMethH C m sp (fun _ => E0) ta t) := by
  obtain ⟨f, fd, hm, F, b⟩ := G.ex
  exact pe_methH he c hm F hr hc b (fun _ => passE0) ha hst hpl ht
theorem pe_m0H {pl : Sem Bool} (G : HMFn X.prog X.w X.K X.mg X.base k C m ps sp) (c : Cls X.K C) (hr : RoomH k X.A) (hc : HotC X) (he : PE X o ta)
    (ht : eval (.Call (.Attribute o m apos) [] [] pos) X.env = (do
      let ov ← eval o X.env
      standAt apos.atName
      let (f, first) ← holding [ov] (getMethod ov m pl)
      callWith pos f first (backTo pos (starEach [] X.env)) (backToKw pos (keywordEach [] X.env))) := by rfl) :
    PE X (.Call (.Attribute o m apos) [] [] pos) (tMethH C m sp (fun _ => E0) ta tNil) := by
  obtain ⟨f, fd, hm, F, b⟩ := G.ex
  exact pe_methH0 he c hm F hr hc b (fun _ => passE0) ht
end
section
variable {P : Program} {w : World} {K : PySem.W.Frag} {mg : Str → Option Value} {base : Heap} {k : Nat} {x qual : Str} {st : Stmt} {N ps : List Str} {sp : Sp} {f C : Addr}
abbrev BodyH (P : Program) (w : World) (K : PySem.W.Frag) (mg : Str → Option Value) (base : Heap) (k : Nat) (qual : Str) (st : Stmt) (N : List Str) (sp : Sp) (f : Addr) : Prop :=
  ∀ (cdv : Value) (A : Around) (outer : List Env) (s : Shared) (H : Hp) (vs : List V) (Q : VK) (E : XK) (p : Addr × Obj), HotC (cxH CX0 P w K mg base N qual (defScope st) f cdv A outer s H E p).nox → RoomH k (A.deeper (envOfC qual (defScope st) s.heap.objs.size f cdv)) → sp vs H Q E →
    ∃ t, PSs (cxH CX0 P w K mg base N qual (defScope st) f cdv A outer s H E p).nox (defBody st) t ∧ t { nx := fun _ H' => Q .non H', rt := Q } (L2.start N vs) H
theorem hfn_body (D : FnP K x qual st [] f) (S : FnScope N ps (defScope st)) (hb : BindsP x qual st ps) (len : ∀ vs H Q E, sp vs H Q E → vs.length = ps.length) (B : BodyH P w K mg base k qual st N sp f) :
    ∃ fd, FnH P w K mg base CX0 (k + 1) f fd ps sp ∧ Binds K fd ps [] := by
  obtain ⟨fd, F⟩ := D
  have b := F.bindsN hb
  obtain ⟨oc, od, dV, kV, doc, pm, an, cdv, ct, osl, rfl, lk, hcd, _, _⟩ := F.ex
  refine ⟨_, fn_ofH lk hcd S len fun A outer s H vs Q E p hot hr h => ?_, b⟩
  obtain ⟨t, ht, q⟩ := B cdv A outer s H vs Q E p ⟨p, ⟨hot.1, hot.2⟩, List.mem_cons_self⟩ hr h
  exact ⟨t, ht.nox, q⟩
theorem hfn (D : FnP K x x st [] (He.ga K x)) (hg : mg x = some (.ref (He.ga K x))) (S : FnScope N ps (defScope st)) (hb : BindsP x x st ps) (len : ∀ vs H Q E, sp vs H Q E → vs.length = ps.length)
    (B : BodyH P w K mg base k x st N sp (He.ga K x)) : HFn P w K mg base (k + 1) x ps sp := by
  obtain ⟨fd, F, b⟩ := hfn_body D S hb len B
  have kp : PySem.W.keepIn K (.ref (He.ga K x)) = true := by
    obtain ⟨_, D⟩ := D
    exact D.kp
  exact ⟨_, fd, hg, kp, F, b⟩
theorem hmfn {m : Str} (D : FnP K m qual st [] f) (hm : Meth K C m f) (S : FnScope N ps (defScope st)) (hb : BindsP m qual st ps) (len : ∀ vs H Q E, sp vs H Q E → vs.length = ps.length)
    (B : BodyH P w K mg base k qual st N sp f) : HMFn P w K mg base (k + 1) C m ps sp := by
  obtain ⟨fd, F, b⟩ := hfn_body D S hb len B
  exact ⟨f, fd, hm, F, b⟩
end
end Sv
end
section
set_option Elab.async false
set_option linter.all false
set_option maxRecDepth 100000
set_option maxHeartbeats 4000000
/-! The walk, while an exception is handled: is_between, Store.check_held, holders, release, Tree.ends_of, oldest_of, drop. -/
namespace Sv
open PySem PySem.Spec PyProof.Rows L2 HotX L2H
def ahM (size : Nat) (q : Path) : Path := q.take (q.length - size)
def endsM (size : Nat) (ps : List Path) : List Path := ps.filter fun q => !(ps.map (ahM size)).contains q
def p_Tree_ends_of (K : PySem.W.Frag) : P2 := fun a b H Q => ∃ (tr ud us pl p ca ka o : Addr) (T : TreeM) (S : StoreM) (ys : List V) (ps : List Path), a = .ref tr ∧ b = .ref o ∧ TreeAt K H tr ud us pl p T ∧ StoreAt K H p ca ka S ∧ H o = some (.lst ys) ∧ AtAll H ys (ps.map dVec) ∧ ps.length ≤ 500 ∧ (∀ q ∈ ps, S.size ≤ q.length) ∧
  ∀ H' D zs, Same H H' → H D = none → H' D = some (.lst zs) → AtAll H' zs ((endsM S.size ps).map dVec) → Q (.ref D) H'
def p_Tree_oldest_of (K : PySem.W.Frag) : P2 := fun a b H Q => ∃ (tr ud us pl p o : Addr) (T : TreeM) (ys : List V) (ps : List Path), a = .ref tr ∧ b = .ref o ∧ TreeAt K H tr ud us pl p T ∧ H o = some (.lst ys) ∧ AtAll H ys (ps.map dVec) ∧ ps ≠ [] ∧ (∀ q ∈ ps, ∃ n, aget T.used q = some n) ∧
  ∀ q v, q ∈ ps → At H v (dVec q) → Q v H
def candM (S : StoreM) (T : TreeM) : List Path := (endsM S.size T.paths).filter fun q => S.cts.getD (T.blk q) 0 == 1
def TreeM.drop (T : TreeM) (q : Path) : TreeM := { T with paths := T.paths.filter (fun r => !decide (r = q)), under := adrop T.under q, used := adrop T.used q }
def p_Tree_drop (K : PySem.W.Frag) : P1 := fun a H Q => ∃ (tr ud us pl p ca ka : Addr) (T : TreeM) (S : StoreM), a = .ref tr ∧ TreeAt K H tr ud us pl p T ∧ StoreAt K H p ca ka S ∧ pl ∉ [ca, ka] ∧ T.paths.length ≤ 500 ∧
  (∀ q ∈ T.paths, S.size ≤ q.length ∧ (∃ b n, aget T.under q = some b ∧ S.cts[b]? = some n ∧ 0 < n) ∧ ∃ n, aget T.used q = some n) ∧
  (candM S T = [] → ∀ H', Same H H' → Q (.bl false) H') ∧
  (∀ q ∈ candM S T, ∀ H' pl', Fr [ca, ka, tr, ud, us] H H' → H pl' = none → StoreAt K H' p ca ka (S.rel (T.blk q) 1) → TreeAt K H' tr ud us pl' p (T.drop q) → Q (.bl true) H')
section
variable {β : Type}
theorem aget_cons (x : Path × β) (l : List (Path × β)) (q : Path) : aget (x :: l) q = if x.1 = q then some x.2 else aget l q := by
  unfold aget
  by_cases h : x.1 = q
  · rw [List.find?_cons_of_pos (by simpa using h), if_pos h]; rfl
  · rw [List.find?_cons_of_neg (by simpa using h), if_neg h]
theorem aget_mapif (p q : Path) (v : β) : ∀ l : List (Path × β), aget (l.map fun x => if x.1 = p then (x.1, v) else x) q = (aget l q).map fun y => if q = p then v else y
  | [] => rfl
  | x :: l => by
    rw [List.map_cons, aget_cons, aget_cons, aget_mapif p q v l]
    by_cases h : x.1 = p
    · rw [if_pos h]
      by_cases h2 : x.1 = q
      · rw [if_pos h2, if_pos h2]
        simp [← h2, h]
      · rw [if_neg h2, if_neg h2]
    · rw [if_neg h]
      by_cases h2 : x.1 = q
      · rw [if_pos h2, if_pos h2]
        have : q ≠ p := fun e => h (by rw [h2, e])
        simp [this]
      · rw [if_neg h2, if_neg h2]
theorem aget_any (p : Path) : ∀ l : List (Path × β), (l.any fun q => decide (q.1 = p)) = (aget l p).isSome
  | [] => rfl
  | x :: l => by
    rw [List.any_cons, aget_cons, aget_any p l]
    by_cases h : x.1 = p
    · rw [if_pos h]; simp [h]
    · rw [if_neg h]; simp [h]
theorem aget_snoc (p q : Path) (v : β) : ∀ l : List (Path × β), aget (l ++ [(p, v)]) q = (aget l q).or (if p = q then some v else none)
  | [] => by rw [List.nil_append, aget_cons]; rfl
  | x :: l => by
    rw [List.cons_append, aget_cons, aget_cons, aget_snoc p q v l]
    by_cases h : x.1 = q
    · rw [if_pos h, if_pos h]; rfl
    · rw [if_neg h, if_neg h]
theorem aget_put (l : List (Path × β)) (p q : Path) (v : β) : aget (aput l p v) q = if q = p then some v else aget l q := by
  unfold aput
  split
  · rename_i h
    rw [aget_any] at h
    rw [aget_mapif]
    by_cases e : q = p
    · subst e
      obtain ⟨y, hy⟩ := Option.isSome_iff_exists.mp h
      rw [hy]
      simp
    · simp [e]
  · rename_i h
    rw [aget_any] at h
    rw [aget_snoc]
    by_cases e : q = p
    · subst e
      have : aget l q = none := by simpa using h
      rw [this]
      simp
    · rw [if_neg (fun z => e z.symm), if_neg e]
      cases aget l q <;> rfl
theorem aget_drop (p q : Path) : ∀ l : List (Path × β), aget (adrop l p) q = if q = p then none else aget l q
  | [] => by unfold adrop; simp [aget]
  | x :: l => by
    unfold adrop
    by_cases h : x.1 = p
    · rw [List.filter_cons_of_neg (by simp [h])]
      show aget (adrop l p) q = _
      rw [aget_drop p q l, aget_cons]
      by_cases e : q = p
      · rw [if_pos e, if_pos e]
      · rw [if_neg e, if_neg e, if_neg (fun z => e (by rw [← z, h]))]
    · rw [List.filter_cons_of_pos (by simp [h]), aget_cons]
      show (if x.1 = q then _ else aget (adrop l p) q) = _
      rw [aget_drop p q l, aget_cons]
      by_cases e : q = p
      · rw [if_pos e, if_pos e, if_neg (fun z => h (by rw [z, e]))]
      · rw [if_neg e, if_neg e]
end
theorem dcT_list {K : PySem.W.Frag} {a : Addr} {xs : List V} {g : TG} {tt : TT} {tk tv : TE} {vs : List Nat} {σ : L2.St} {H1 : Hp} {D : Addr} {Qd : Hp → Prop} (Pv : Nat → Hp → Prop) (h0 : Pv 0 (upd H1 D (.dT []))) (hl : ∀ i H, i ≤ xs.length → Pv i H → SqL K H a xs)
    (hs : ∀ i x H, xs[i]? = some x → Pv i H → g x (wipe σ vs) H fun σ2 H2 => wipe σ2 vs = wipe σ vs ∧ tt σ2 H2 fun b H3 =>
      if b = true then tk σ2 H3 fun y H4 => tv σ2 H4 fun z H5 => ∃ kvs k c, y = .ref c ∧ H5 c = some (.tup (k.map kV)) ∧ H5 D = some (.dT kvs) ∧ kvs.length < sizeLine ∧ Pv (i + 1) (upd H5 D (.dT (putK kvs k z))) else Pv (i + 1) H3) (hd : ∀ H, Pv xs.length H → Qd H) :
    ∃ W : Nat → Nat → Hp → Prop, (∃ m, W 0 m (upd H1 D (.dT []))) ∧ ∀ i m H, W i m H →
      ((Itl K a).stop i H ∧ Qd H) ∨ ((Itl K a).go i H ∧ ∃ Nx : Hp → Prop, (∀ H', Nx H' → ∃ m', m' < m ∧ W (i + 1) m' H') ∧ ∀ x H', (Itl K a).yld i H x H' → g x (wipe σ vs) H' fun σ2 H2 => wipe σ2 vs = wipe σ vs ∧ tt σ2 H2 fun b H3 =>
        if b = true then tk σ2 H3 fun y H4 => tv σ2 H4 fun z H5 => ∃ kvs k c, y = .ref c ∧ H5 c = some (.tup (k.map kV)) ∧ H5 D = some (.dT kvs) ∧ kvs.length < sizeLine ∧ Nx (upd H5 D (.dT (putK kvs k z))) else Nx H3) := by
  refine ⟨fun i m H => m = xs.length - i ∧ i ≤ xs.length ∧ Pv i H, ⟨_, rfl, Nat.zero_le _, h0⟩, ?_⟩
  rintro i m H ⟨rfl, hi, p⟩
  have q := hl i H hi p
  by_cases hlt : i < xs.length
  · refine .inr ⟨⟨xs, xs[i], q, List.getElem?_eq_getElem hlt⟩, Pv (i + 1), fun H' p' => ⟨_, by omega, rfl, hlt, p'⟩, fun x H' y => ?_⟩
    obtain ⟨rfl, y⟩ := y
    exact hs i x _ (y xs q) p
  · obtain rfl : i = xs.length := by omega
    exact .inl ⟨⟨xs, q, Nat.le_refl _⟩, hd H p⟩
section
variable {P : Program} {w : World} {K : PySem.W.Frag} {mg : Str → Option Value} {base : Heap}
theorem okH_is_between (T : Txt K mg) : HFn P w K mg base 1 "is_between" ["value", "least", "most"] (Sp3 p_is_between) := by
  refine hfn T.d_is_between T.g_is_between sc_is_between (fun _ _ _ _ _ _ us hl => match us, hl with | [_, _, _], _ => rfl) len3 fun cdv A outer s H vs Q E p9 hc hr h => ?_
  obtain ⟨a0, a1, a2, rfl, h⟩ := h
  refine ⟨_, pss_one (ps_ret (pe_and (pe_callB call_isi (by rfl) T.b_isinstance (by decide +kernel) (pa_cons (pv 0) (pa_cons (pe_bltn (v := .ty "int") (by rfl) T.b_int (by decide +kernel) rfl) pa_nil))) (pe_and (pe_not (pe_callB call_isi (by rfl) T.b_isinstance (by decide +kernel) (pa_cons (pv 0) (pa_cons (pe_bltn (v := .ty "bool") (by rfl) T.b_bool (by decide +kernel) rfl) pa_nil)))) (pe_one (pe_chain op_le op_le (pv 1) (pv 0) (pv 2)))))), ?_⟩
  obtain ⟨i, lo, hi, rfl, rfl, rfl, q⟩ := h
  refine ⟨_, rfl, .int i, .ty "int", _, _, true, rfl, .ty _, .base (.int _), isi_int_int, true, rfl, ?_⟩
  refine ⟨_, rfl, .int i, .ty "bool", _, _, false, rfl, .ty _, .base (.int _), isi_int_bool, false, rfl, true, rfl, ?_⟩
  refine ⟨_, rfl, _, rfl, _, _, rfl, rfl, _, rfl, ?_⟩
  have fin : ∀ b : Bool, b = decide (lo ≤ i ∧ i ≤ hi) → Q (.bl b) H := fun b e => by rw [e]; exact q
  by_cases h1 : lo ≤ i
  · rw [decide_eq_true h1]
    exact ⟨_, rfl, _, _, rfl, rfl, fin _ (by simp [h1])⟩
  · rw [decide_eq_false h1]
    exact fin _ (by simp [h1])
theorem okH_Store_check_held (T : Txt K mg) : HMFn P w K mg base 2 (He.ga K "Store") "check_held" ["self", "block"] (Sp2 (p_Store_check_held K)) := by
  refine hmfn T.d_Store_check_held T.m_Store_check_held sc_Store_check_held (fun _ _ _ _ _ _ us hl => match us, hl with | [_, _], _ => rfl) len2 fun cdv A outer s H vs Q E p9 hc hr h => ?_
  obtain ⟨a0, a1, rfl, p, ca, ka, S, b, n, rfl, rfl, st, hb, h0, q⟩ := h
  refine ⟨_, pss_one (ps_if (PW.pt (pw_or (pt_not (pt_val (pe_gH (okH_is_between T) (hr.mono (by decide)) hc (pa_cons (pv 1) (pa_cons (pe_int) (pa_cons (pe_op op_sub (pe_fld (pv 0) rfl) (pe_int)) pa_nil)))))) (pw_or1 (pt_cmpR op_eq (pe_ix ix_list (pe_fld (pv 0) rfl) (pv 1) (fun _ _ => rfl)) (pe_int) (nomark _))))) (pss_one (ps_never)) (pss_nil)), ?_⟩
  obtain ⟨dx, ks, hp, hc, hk, hks⟩ := id st.ex
  have hlt := (List.getElem?_eq_some_iff.mp hb).1
  have hdec : decide ((0 : Int) ≤ (b : Int) ∧ (b : Int) ≤ (S.many : Int) - 1) = true := by rw [st.l1] at hlt; simp; omega
  refine ⟨_, rfl, _, rfl, p, _, dx, _, _, rfl, hp, T.cl_Store, T.n_Store_many, rfl, _, _, rfl, rfl, _, _, _, rfl, _, _, _, rfl, rfl, rfl, ?_⟩
  rw [hdec]
  refine ⟨true, rfl, _, rfl, p, _, dx, _, _, rfl, hp, T.cl_Store, T.n_Store_counts, rfl, _, rfl, ca, _, _, _, rfl, rfl, SqL.of hc, atI_nat (getMap hb), rfl, _, rfl, ?_⟩
  rw [dec_f (show vN n ≠ V.int 0 from fun z => by have := V.int.inj z; omega)]
  exact q
theorem okH_Store_holders (T : Txt K mg) : HMFn P w K mg base 2 (He.ga K "Store") "holders" ["self", "block"] (Sp2 (p_Store_holders K)) := by
  refine hmfn T.d_Store_holders T.m_Store_holders sc_Store_holders (fun _ _ _ _ _ _ us hl => match us, hl with | [_, _], _ => rfl) len2 fun cdv A outer s H vs Q E p9 hc hr h => ?_
  obtain ⟨a0, a1, rfl, p, ca, ka, S, b, n, rfl, rfl, st, hb, _, q⟩ := h
  refine ⟨_, pss_cons (ps_if (pt_not (pt_val (pe_gH (okH_is_between T) (hr.mono (by decide)) hc (pa_cons (pv 1) (pa_cons (pe_int) (pa_cons (pe_op op_sub (pe_fld (pv 0) rfl) (pe_int)) pa_nil)))))) (pss_one (ps_never)) (pss_nil))
      (pss_one (ps_ret (pe_ix ix_list (pe_fld (pv 0) rfl) (pv 1) (fun _ _ => rfl)))), ?_⟩
  obtain ⟨dx, ks, hp, hc, hk, hks⟩ := id st.ex
  have hlt := (List.getElem?_eq_some_iff.mp hb).1
  have hdec : decide ((0 : Int) ≤ (b : Int) ∧ (b : Int) ≤ (S.many : Int) - 1) = true := by rw [st.l1] at hlt; simp; omega
  refine ⟨_, rfl, _, rfl, p, _, dx, _, _, rfl, hp, T.cl_Store, T.n_Store_many, rfl, _, _, rfl, rfl, _, _, _, rfl, _, _, _, rfl, rfl, rfl, ?_⟩
  rw [hdec]
  exact ⟨true, rfl, _, rfl, p, _, dx, _, _, rfl, hp, T.cl_Store, T.n_Store_counts, rfl, _, rfl, ca, _, _, _, rfl, rfl, SqL.of hc, atI_nat (getMap hb), q⟩
theorem okH_Store_release (T : Txt K mg) : HMFn P w K mg base 3 (He.ga K "Store") "release" ["self", "block"] (Sp2 (p_Store_release K)) := by
  refine hmfn T.d_Store_release T.m_Store_release sc_Store_release (fun _ _ _ _ _ _ us hl => match us, hl with | [_, _], _ => rfl) len2 fun cdv A outer s H vs Q E p9 hc hr h => ?_
  obtain ⟨a0, a1, rfl, p, ca, ka, S, b, n, rfl, rfl, st, hb, h0, q⟩ := h
  refine ⟨_, pss_cons (ps_expr (pe_mH (okH_Store_check_held T) T.cl_Store (hr.mono (by decide)) hc (pv 0) (pa_cons (pv 1) pa_nil)))
      (pss_cons (ps_augS (pe_fld (pv 0) rfl) (pv 1) get_list (pe_int) ip_sub set_list)
      (pss_one (ps_if (pt_cmpR op_eq (pe_ix ix_list (pe_fld (pv 0) rfl) (pv 1) (fun _ _ => rfl)) (pe_int) (nomark _)) (pss_one (ps_asg (pe_tup pa_nil) (pg_sub (pe_fld (pv 0) rfl) (pv 1) set_list))) (pss_nil)))), ?_⟩
  obtain ⟨dx, ks, hp, hc, hk, hks⟩ := id st.ex
  have hlt := (List.getElem?_eq_some_iff.mp hb).1
  have hlk : b < S.kept.length := by rw [st.l2, ← st.l1]; exact hlt
  refine ⟨_, rfl, p, dx, _, rfl, hp, rfl, _, rfl, _, _, rfl, p, ca, ka, S, b, n, rfl, rfl, st, hb, h0, ?_⟩
  refine ⟨_, rfl, p, _, dx, _, _, rfl, hp, T.cl_Store, T.n_Store_counts, rfl, _, rfl, ca, _, _, _, rfl, rfl, SqL.of hc, atI_nat (getMap hb), ?_⟩
  refine ⟨_, _, rfl, rfl, ca, _, _, b, rfl, rfl, hc, ixN_of (by rw [List.length_map]; exact hlt), ?_⟩
  obtain ⟨m, rfl⟩ : ∃ m, n = m + 1 := ⟨n - 1, by omega⟩
  have em : ((m + 1 : Nat) : Int) - 1 = (m : Int) := by omega
  dsimp only
  rw [em]
  generalize hG : upd H ca _ = H1
  obtain ⟨f1, st1⟩ := st.setC b m _ hG
  obtain ⟨dx1, ks1, hp1, hc1, hk1, hks1⟩ := id st1.ex
  have hb1 : (S.setC b m).cts[b]? = some m := by show (S.cts.set b m)[b]? = _; rw [List.getElem?_set_self hlt]
  refine ⟨_, rfl, p, _, dx1, _, _, rfl, hp1, T.cl_Store, T.n_Store_counts, rfl, _, rfl, ca, _, _, _, rfl, rfl, SqL.of hc1, atI_nat (getMap hb1), rfl, _, rfl, ?_⟩
  by_cases hm : m = 0
  · subst hm
    rw [dec_t (show vN 0 = V.int 0 from rfl)]
    refine ⟨ll0, fun e he => ?_⟩
    obtain ⟨s2, e2⟩ := gen_new (o := .tup []) he rfl
    have st2 := st1.up s2
    refine ⟨_, rfl, p, _, dx1, _, _, rfl, s2 _ _ hp1, T.cl_Store, T.n_Store_kept, rfl, _, rfl, ka, _, _, b, rfl, rfl, s2 _ _ hk1, ixN_of (by rw [hks1.len, List.length_map]; exact hlk), ?_⟩
    obtain ⟨f3, st3⟩ := st2.setK b [] (at_tup (ds := []) e2 .nil) (Nat.zero_le _) ks1 (s2 _ _ hk1) _ rfl
    exact q _ (f1.trans ((Fr.same s2).trans f3)) (by unfold StoreM.rel; rw [if_pos rfl]; exact st3)
  · rw [dec_f (show vN m ≠ V.int 0 from fun z => by have := V.int.inj z; omega)]
    exact q _ f1 (by unfold StoreM.rel; rw [if_neg (by omega)]; exact st1)
abbrev N_Tree_oldest_of : List Str := ["self", "paths", "oldest", "path"]
theorem sc_Tree_oldest_of : FnScope N_Tree_oldest_of ["self", "paths"] (defScope s_Tree_oldest_of) := ⟨rfl, rfl, rfl, by decide +kernel, rfl, by decide +kernel, by decide +kernel⟩
theorem okH_Tree_oldest_of (T : Txt K mg) : HMFn P w K mg base 1 (He.ga K "Tree") "oldest_of" ["self", "paths"] (Sp2 (p_Tree_oldest_of K)) := by
  refine hmfn T.d_Tree_oldest_of T.m_Tree_oldest_of sc_Tree_oldest_of (fun _ _ _ _ _ _ us hl => match us, hl with | [_, _], _ => rfl) len2 fun cdv A outer s H vs Q E p9 hc hr h => ?_
  obtain ⟨a0, a1, rfl, tr, ud, us, pl, p, o, M, ys, ps, rfl, rfl, ta, ho, hys, hne, hus, q⟩ := h
  refine ⟨_, pss_cons (ps_set (i := 2) sc_Tree_oldest_of.nd rfl (Or.inl rfl) (pe_ix ix_list (pv 1) (pe_int) (fun _ _ => rfl)))
      (pss_cons (ps_forH PassesOwn.never hc (pi_listH (pv 1)) (pg_name (i := 3) sc_Tree_oldest_of.nd rfl (Or.inl rfl))
      (pss_one (ps_if (pt_cmpR op_lt (pe_dget (huH hr) (pe_fld (pv 0) rfl) (pv 3) (fun _ _ => rfl)) (pe_dget (huH hr) (pe_fld (pv 0) rfl) (pv 2) (fun _ _ => rfl)) (nomark _)) (pss_one (ps_set (i := 2) sc_Tree_oldest_of.nd rfl (Or.inl rfl) (pv 3))) (pss_nil))))
      (pss_one (ps_ret (pv 2)))), ?_⟩
  obtain ⟨dx, vs, h1, h2, h3, h4, h5⟩ := id ta.ex
  obtain ⟨v0, l0⟩ : ∃ v0, ys[0]? = some v0 := by
    cases ys with
    | nil =>
      have := hys.len
      rw [List.length_map] at this
      exact (hne (List.eq_nil_of_length_eq_zero this.symm)).elim
    | cons v r => exact ⟨v, rfl⟩
  obtain ⟨d0, e0, hv0⟩ := hys.get l0
  obtain ⟨q0, eq0, rfl⟩ := map_get e0
  refine ⟨_, rfl, o, _, 0, _, rfl, rfl, SqL.of ho, atI_nat (j := 0) l0, ?_⟩
  refine ⟨_, rfl, o, rfl, ⟨_, SqL.of ho⟩, for_list (K := K) (a := o) (xs := ys) (fun i σ H' => ∃ v2 v3 q1, σ = [some (.ref tr), some (.ref o), some v2, v3] ∧ H' = H ∧ q1 ∈ ps ∧ At H v2 (dVec q1))
    ⟨v0, none, q0, rfl, rfl, List.mem_of_getElem? eq0, hv0⟩ (fun i σ H' _ I => ?_) (fun i x σ H' hx I => ?_) fun σ H' I => ?_⟩
  · obtain ⟨_, _, _, _, rfl, _⟩ := I
    exact SqL.of ho
  · obtain ⟨v2, v3, q1, rfl, rfl, hq1, hv2⟩ := I
    obtain ⟨d, hd, hx'⟩ := hys.get hx
    obtain ⟨q2, eq2, rfl⟩ := map_get hd
    have hq2 := List.mem_of_getElem? eq2
    obtain ⟨c1, rfl, hc1⟩ := id hv2.vecI
    obtain ⟨c2, rfl, hc2⟩ := id hx'.vecI
    obtain ⟨n1, hn1⟩ := hus q1 hq1
    obtain ⟨n2, hn2⟩ := hus q2 hq2
    have g1 := dget_u h5 hc1
    have g2 := dget_u h5 hc2
    rw [hn1] at g1
    rw [hn2] at g2
    refine ⟨_, rfl, tr, _, dx, _, _, rfl, h1, T.cl_Tree, T.n_Tree_used, rfl, _, rfl, us, _, rfl, g2, _, rfl, tr, _, dx, _, _, rfl, h1, T.cl_Tree, T.n_Tree_used, rfl, _, rfl, us, _, rfl, g1, ?_⟩
    refine ⟨_, _, rfl, rfl, _, rfl, ?_⟩
    by_cases hlt : n2 < n1
    · rw [decide_eq_true hlt]
      exact ⟨_, rfl, _, _, q2, rfl, rfl, hq2, hx'⟩
    · rw [decide_eq_false hlt]
      exact ⟨_, _, q1, rfl, rfl, hq1, hv2⟩
  · obtain ⟨v2, v3, q1, rfl, rfl, hq1, hv2⟩ := I
    exact ⟨_, rfl, q q1 _ hq1 hv2⟩
abbrev N_Tree_ends_of : List Str := ["self", "paths", "ahead", "path"]
theorem sc_Tree_ends_of : FnScope N_Tree_ends_of ["self", "paths"] (defScope s_Tree_ends_of) := ⟨rfl, rfl, rfl, by decide +kernel, rfl, by decide +kernel, by decide +kernel⟩
theorem okH_Tree_ends_of (T : Txt K mg) : HMFn P w K mg base 1 (He.ga K "Tree") "ends_of" ["self", "paths"] (Sp2 (p_Tree_ends_of K)) := by
  refine hmfn T.d_Tree_ends_of T.m_Tree_ends_of sc_Tree_ends_of (fun _ _ _ _ _ _ us hl => match us, hl with | [_, _], _ => rfl) len2 fun cdv A outer s H vs Q E p9 hc hr h => ?_
  obtain ⟨a0, a1, rfl, tr, ud, us, pl, p, ca, ka, o, M, S, ys, ps, rfl, rfl, ta, st, ho, hys, hpl, hsz, q⟩ := h
  refine ⟨_, pss_cons (ps_set (i := 2) sc_Tree_ends_of.nd rfl (Or.inr rfl) (pe_dcH (own := [("path", 3)]) hc (huH hr) sc_Tree_ends_of.nd (pi_listH (pv 1)) (blkOk_by (N := N_Tree_ends_of) (sc := defScope s_Tree_ends_of) (by decide +kernel)) (fun _ _ _ _ _ q9 hq9 => pg_name (i := 3) sc_Tree_ends_of.nd rfl (Or.inl rfl) (hf := Or.inr rfl)) (fun _ _ _ _ _ q9 hq9 => pts_nil) (fun _ _ _ _ _ q9 hq9 => pe_slice (sl_tupAK (K0 := K)) (pv 3) po_none (po_some (pe_op op_sub (pe_callB (call_len_seqK (K0 := K)) (by rfl) T.b_len PySem.boot_len (pa_cons (pv 3) pa_nil)) (pe_fldK (K0 := K) (pe_fldK (K0 := K) (pv 0) rfl) rfl)))) (fun _ _ _ _ _ q9 hq9 => pe_bl)))
      (pss_one (ps_ret (pe_lcH (own := [("path", 3)]) hc sc_Tree_ends_of.nd (pi_listH (pv 1)) (blkOk_by (N := N_Tree_ends_of) (sc := defScope s_Tree_ends_of) (by decide +kernel)) (fun _ _ _ _ _ q9 hq9 => pg_name (i := 3) sc_Tree_ends_of.nd rfl (Or.inl rfl) (hf := Or.inr rfl)) (fun _ _ _ _ _ q9 hq9 => pts_one (pt_cmp (pc_dnotin (huH hr) (pv 3) (pv 2)))) (fun _ _ _ _ _ q9 hq9 => pv 3)))), ?_⟩
  obtain ⟨dx, vs, h1, h2, h3, h4, h5⟩ := id ta.ex
  obtain ⟨sdx, ks, hp, _⟩ := id st.ex
  have hlen : ∀ i, ((ps.take i).foldl (fun l r => aput l (ahM S.size r) true) []).length ≤ i := fun i => by
    have key : ∀ (l : List Path) (u : List (Path × Bool)), (l.foldl (fun l r => aput l (ahM S.size r) true) u).length ≤ u.length + l.length := by
      intro l
      induction l with
      | nil => intro u; exact Nat.le_refl _
      | cons r l ih =>
        intro u
        have h1 := ih (aput u (ahM S.size r) true)
        have h2 : (aput u (ahM S.size r) true).length ≤ u.length + 1 := by
          unfold aput
          split
          · rw [List.length_map]; omega
          · rw [List.length_append]; exact Nat.le_refl _
        rw [List.foldl_cons, List.length_cons]
        omega
    have := key (ps.take i) []
    rw [List.length_take] at this
    simp at this
    omega
  refine ⟨_, rfl, o, rfl, ⟨_, SqL.of ho⟩, fun D hD => ?_⟩
  have hlast : ∀ q0 : Path, (aget (ps.foldl (fun l r => aput l (ahM S.size r) true) []) q0).isSome = (ps.map (ahM S.size)).contains q0 := fun q0 => by
    have key : ∀ (l : List Path) (u : List (Path × Bool)), (aget (l.foldl (fun l r => aput l (ahM S.size r) true) u) q0).isSome = ((aget u q0).isSome || (l.map (ahM S.size)).contains q0) := by
      intro l
      induction l with
      | nil => intro u; simp
      | cons r l ih =>
        intro u
        rw [List.foldl_cons, ih, aget_put, List.map_cons, List.contains_cons]
        by_cases e : q0 = ahM S.size r
        · simp [e]
        · have e' : (q0 == ahM S.size r) = false := by simpa using e
          rw [if_neg e, e']
          simp
    rw [key]
    rfl
  refine dcT_list (K := K) (a := o) (xs := ys) (fun i H' => Same H H' ∧ H' D = some (.dT (mapD V.bl ((ps.take i).foldl (fun l r => aput l (ahM S.size r) true) []))))
    ⟨same_new hD, upd_same⟩ (fun i H' _ I => SqL.of (I.1 _ _ ho)) (fun i x H' hx I => ?_) fun H' I => ?_
  · obtain ⟨s, hd⟩ := I
    obtain ⟨d, hd', hx'⟩ := hys.get hx
    obtain ⟨r, er, rfl⟩ := map_get hd'
    have hr0 := List.mem_of_getElem? er
    obtain ⟨c, rfl, hc⟩ := (hx'.up s.tups).vecI
    have hsr := hsz r hr0
    have elo : (((r.map V.int).length : Nat) : Int) - (S.size : Int) = ((r.length - S.size : Nat) : Int) := by rw [List.length_map]; omega
    refine ⟨rfl, _, rfl, _, rfl, c, _, rfl, .inr (SqT.of hc), _, rfl, tr, _, dx, _, _, rfl, s _ _ h1, T.cl_Tree, T.n_Tree_store, rfl, p, _, sdx, _, _, rfl, s _ _ hp, T.cl_Store, T.n_Store_size, rfl, _, _, rfl, rfl, _, congrArg V.int elo, ?_⟩
    dsimp only
    refine slA_at (K := K) hc fun H2 c2 s2 hc2 => ?_
    rw [cut_take, ← List.map_take] at hc2
    have hl := hlen i
    refine ⟨mapD V.bl ((ps.take i).foldl (fun l r => aput l (ahM S.size r) true) []), keyP (ahM S.size r), c2, rfl, by rw [keyP_v]; exact hc2, s2 _ _ hd, small1000 (by unfold mapD; rw [List.length_map]; have := (List.getElem?_eq_some_iff.mp er).1; omega), fun z u hz => ?_, ?_⟩
    · rw [upd_ne (ne_of_none hz hD)]
      exact s2 _ _ (s _ _ hz)
    · rw [upd_same, putK_mapD V.bl, take_snoc er, List.foldl_append]
      rfl
  · obtain ⟨s, hd⟩ := I
    have e1 : ys.length = ps.length := by rw [hys.len, List.length_map]
    rw [e1, List.take_length] at hd
    refine ⟨_, rfl, o, rfl, ⟨_, SqL.of (s _ _ ho)⟩, fun D2 hD2 => lc_list (K := K) (a := o) (xs := ys) (fun i H2 => Same H' H2 ∧ ∃ zs, H2 D2 = some (.lst zs) ∧ zs.length ≤ i ∧ AtAll H2 zs (((ps.take i).filter fun q => !(ps.map (ahM S.size)).contains q).map dVec))
      ⟨same_new hD2, [], upd_same, Nat.le_refl _, .nil⟩ (fun i H2 _ I => SqL.of (I.1 _ _ (s _ _ ho))) (fun i x H2 hx I => ?_) fun H2 I => ?_⟩
    · obtain ⟨s2, zs, hz, hzl, hzs⟩ := I
      obtain ⟨d, hd', hx'⟩ := hys.get hx
      obtain ⟨r, er, rfl⟩ := map_get hd'
      have s3 := s.trans s2
      have hx2 := hx'.up s3.tups
      obtain ⟨c, rfl, hc⟩ := id hx2.vecI
      have hi := (List.getElem?_eq_some_iff.mp er).1
      refine ⟨rfl, _, rfl, _, rfl, D, _, rfl, dget_u (s2 _ _ hd) hc, ?_⟩
      rw [Option.isSome_map, hlast]
      have ef : ((ps.take (i + 1)).filter fun q => !(ps.map (ahM S.size)).contains q) = ((ps.take i).filter fun q => !(ps.map (ahM S.size)).contains q) ++ (if (!(ps.map (ahM S.size)).contains r) = true then [r] else []) := by
        rw [take_snoc er, List.filter_append, List.filter_cons]
        rfl
      refine ⟨_, rfl, ?_⟩
      cases eb : (ps.map (ahM S.size)).contains r with
      | true =>
        rw [eb] at ef
        refine ⟨s2, zs, hz, Nat.le_succ_of_le hzl, ?_⟩
        rw [ef]
        simpa using hzs
      | false =>
        rw [eb] at ef
        refine ⟨_, rfl, zs, hz, small1000 (by omega), fun z u hz' => ?_, zs ++ [V.ref c], upd_same, by rw [List.length_append]; exact Nat.succ_le_succ hzl, ?_⟩
        · rw [upd_ne (ne_of_none hz' hD2)]
          exact s2 _ _ hz'
        · rw [ef, List.map_append]
          exact (hzs.snoc hx2).up (tups_upd hz rfl)
    · obtain ⟨s2, zs, hz, hzl, hzs⟩ := I
      rw [e1, List.take_length] at hzs
      have nD2 : H D2 = none := by
        cases z : H D2 with
        | none => rfl
        | some u => rw [s _ _ z] at hD2; cases hD2
      exact q H2 D2 zs (s.trans s2) nD2 hz hzs
abbrev N_Tree_drop : List Str := ["self", "paths", "oldest", "path"]
theorem sc_Tree_drop : FnScope N_Tree_drop ["self"] (defScope s_Tree_drop) := ⟨rfl, rfl, rfl, by decide +kernel, rfl, by decide +kernel, by decide +kernel⟩
theorem okH_Tree_drop (T : Txt K mg) : HMFn P w K mg base 4 (He.ga K "Tree") "drop" ["self"] (Sp1 (p_Tree_drop K)) := by
  refine hmfn T.d_Tree_drop T.m_Tree_drop sc_Tree_drop (fun _ _ _ _ _ _ us hl => match us, hl with | [_], _ => rfl) len1 fun cdv A outer s H vs Q E p9 hc hr h => ?_
  obtain ⟨a0, rfl, tr, ud, us, pl, p, ca, ka, M, S, rfl, ta, st, npl, hpl, hall, q1, q2⟩ := h
  refine ⟨_, pss_cons (ps_setLcH (i := 1) (own := [("path", 3)]) hc sc_Tree_drop.nd rfl rfl (sw_true rfl rfl rfl (by decide +kernel)) (pi_listH (pe_mH (okH_Tree_ends_of T) T.cl_Tree (hr.mono (by decide)) hc (pv 0) (pa_cons (pe_fld (pv 0) rfl) pa_nil))) (blkOk_by (N := N_Tree_drop) (sc := defScope s_Tree_drop) (by decide +kernel)) (fun _ _ _ _ _ q9 hq9 => pg_name (i := 3) sc_Tree_drop.nd rfl (Or.inl rfl) (hf := Or.inr rfl)) (fun _ _ _ _ _ q9 hq9 => pts_one (pt_cmpR op_eq (pe_mH (okH_Store_holders T) T.cl_Store (hr.mono (by decide)) ⟨q9, hq9, List.mem_cons_self⟩ (pe_fldK (K0 := K) (pv 0) rfl) (pa_cons (pe_dget (huH hr) (pe_fldK (K0 := K) (pv 0) rfl) (pv 3) (fun _ _ => rfl)) pa_nil)) (pe_int) (nomark _))) (fun _ _ _ _ _ q9 hq9 => pv 3))
      (pss_cons (ps_if (pt_cmpR op_eq (pe_callB call_len_seq (by rfl) T.b_len PySem.boot_len (pa_cons (pv 1) pa_nil)) (pe_int) (nomark _)) (pss_one (ps_ret (pe_bl))) (pss_nil))
      (pss_cons (ps_set (i := 2) sc_Tree_drop.nd rfl (Or.inr rfl) (pe_mH (okH_Tree_oldest_of T) T.cl_Tree (hr.mono (by decide)) hc (pv 0) (pa_cons (pv 1) pa_nil)))
      (pss_cons (ps_expr (pe_mH (okH_Store_release T) T.cl_Store (hr.mono (by decide)) hc (pe_fld (pv 0) rfl) (pa_cons (pe_dget (huH hr) (pe_fld (pv 0) rfl) (pv 2) (fun _ _ => rfl)) pa_nil)))
      (pss_cons (ps_ddelT (huH hr) (pe_fld (pv 0) rfl) (pv 2))
      (pss_cons (ps_ddelT (huH hr) (pe_fld (pv 0) rfl) (pv 2))
      (pss_cons (ps_fld (pv 0) (pe_lcH (own := [("path", 3)]) hc sc_Tree_drop.nd (pi_listH (pe_fld (pv 0) rfl)) (blkOk_by (N := N_Tree_drop) (sc := defScope s_Tree_drop) (by decide +kernel)) (fun _ _ _ _ _ q9 hq9 => pg_name (i := 3) sc_Tree_drop.nd rfl (Or.inl rfl) (hf := Or.inr rfl)) (fun _ _ _ _ _ q9 hq9 => pts_one (pt_cmpR (op_neDK (K0 := K) (huH64 hr)) (pv 3) (pv 2) (nomark _))) (fun _ _ _ _ _ q9 hq9 => pv 3)) rfl)
      (pss_one (ps_ret (pe_bl))))))))), ?_⟩
  obtain ⟨dx, vs, h1, h2, h3, h4, h5⟩ := id ta.ex
  obtain ⟨sdx, ks, hp, _⟩ := id st.ex
  obtain ⟨n1, n2, n3, n4, n5⟩ := tree_ne ta
  obtain ⟨m1, m2, m3, m4, m5, m6⟩ := tree_store ta st
  refine ⟨_, rfl, tr, dx, _, rfl, h1, rfl, _, rfl, tr, _, dx, _, _, rfl, h1, T.cl_Tree, T.n_Tree_paths, rfl, _, _, rfl, tr, ud, us, pl, p, ca, ka, pl, M, S, vs, M.paths, rfl, rfl, ta, st, h2, h3, hpl, fun q hq => (hall q hq).1, fun H1 D ys s1 hDn hD hys => ?_⟩
  have hsub : ∀ q ∈ endsM S.size M.paths, q ∈ M.paths := fun q hq => (List.mem_filter.mp hq).1
  have hel : (endsM S.size M.paths).length ≤ 500 := Nat.le_trans (List.length_filter_le _ _) hpl
  refine ⟨D, rfl, ⟨_, SqL.of hD⟩, fun D2 hD2 => lc_list (K := K) (a := D) (xs := ys) (fun i H2 => Same H1 H2 ∧ ∃ zs, H2 D2 = some (.lst zs) ∧ zs.length ≤ i ∧ AtAll H2 zs ((((endsM S.size M.paths).take i).filter fun q => S.cts.getD (M.blk q) 0 == 1).map dVec))
    ⟨same_new hD2, [], upd_same, Nat.le_refl _, .nil⟩ (fun i H2 _ I => SqL.of (I.1 _ _ hD)) (fun i x H2 hx I => ?_) fun H2 I => ?_⟩
  · obtain ⟨s2, zs, hz, hzl, hzs⟩ := I
    obtain ⟨d, hd', hx'⟩ := hys.get hx
    obtain ⟨r, er, rfl⟩ := map_get hd'
    have hi := (List.getElem?_eq_some_iff.mp er).1
    have s3 := s1.trans s2
    have hx2 := hx'.up s2.tups
    obtain ⟨c, rfl, hc⟩ := id hx2.vecI
    obtain ⟨_, ⟨b, n, eb, en, n0⟩, _⟩ := hall r (hsub r (List.mem_of_getElem? er))
    have gd := dget_u (s3 _ _ h4) hc
    rw [eb] at gd
    refine ⟨rfl, _, rfl, tr, _, dx, _, _, rfl, s3 _ _ h1, T.cl_Tree, T.n_Tree_store, rfl, p, sdx, _, rfl, s3 _ _ hp, rfl, _, rfl, tr, _, dx, _, _, rfl, s3 _ _ h1, T.cl_Tree, T.n_Tree_under, rfl, _, rfl, ud, _, rfl, gd, ?_⟩
    refine ⟨_, _, rfl, p, ca, ka, S, b, n, rfl, rfl, st.up s3, en, trivial, ?_⟩
    have eblk : S.cts.getD (M.blk r) 0 = n := by
      unfold TreeM.blk
      rw [eb]
      show S.cts.getD b 0 = n
      rw [List.getD_eq_getElem?_getD, en]
      rfl
    have ef : (((endsM S.size M.paths).take (i + 1)).filter fun q => S.cts.getD (M.blk q) 0 == 1) = (((endsM S.size M.paths).take i).filter fun q => S.cts.getD (M.blk q) 0 == 1) ++ (if (n == 1) = true then [r] else []) := by
      rw [take_snoc er, List.filter_append, List.filter_cons, eblk]
      rfl
    refine ⟨rfl, _, rfl, ?_⟩
    by_cases e1 : n = 1
    · rw [dec_t (show V.int (n : Nat) = V.int 1 by rw [e1]; rfl)]
      rw [if_pos (by simpa using e1)] at ef
      refine ⟨_, rfl, zs, hz, small1000 (by omega), fun z u hz' => ?_, zs ++ [V.ref c], upd_same, by rw [List.length_append]; exact Nat.succ_le_succ hzl, ?_⟩
      · rw [upd_ne (ne_of_none hz' hD2)]
        exact s2 _ _ hz'
      · rw [ef, List.map_append]
        exact (hzs.snoc hx2).up (tups_upd hz rfl)
    · rw [dec_f (show V.int (n : Nat) ≠ V.int 1 from fun z => e1 (by have := V.int.inj z; omega))]
      rw [if_neg (by simpa using e1)] at ef
      refine ⟨s2, zs, hz, Nat.le_succ_of_le hzl, ?_⟩
      rw [ef, List.append_nil]
      exact hzs
  obtain ⟨s2, zs, hz, hzl, hzs⟩ := I
  have e1 : ys.length = (endsM S.size M.paths).length := by rw [hys.len, List.length_map]
  rw [e1, List.take_length] at hzs
  replace hzs : AtAll H2 zs ((candM S M).map dVec) := hzs
  have s3 := s1.trans s2
  have hzl2 := hzs.len
  rw [List.length_map] at hzl2
  refine ⟨_, rfl, D2, _, rfl, .inl (SqL.of hz), rfl, _, rfl, ?_⟩
  by_cases hc0 : candM S M = []
  · rw [dec_t (show V.int (zs.length : Nat) = V.int 0 by rw [hzl2, hc0]; rfl)]
    exact q1 hc0 _ s3
  rw [dec_f (show V.int (zs.length : Nat) ≠ V.int 0 from fun z => hc0 (by
    have := V.int.inj z
    rw [hzl2] at this
    exact List.eq_nil_of_length_eq_zero (by omega)))]
  have hcsub : ∀ q ∈ candM S M, q ∈ M.paths := fun q hq => hsub q (List.mem_filter.mp hq).1
  have ta2 := ta.up s3
  have st2 := st.up s3
  refine ⟨_, rfl, tr, dx, _, rfl, s3 _ _ h1, rfl, _, rfl, _, _, rfl, tr, ud, us, pl, p, D2, M, zs, candM S M, rfl, rfl, ta2, hz, hzs, hc0, fun q hq => (hall q (hcsub q hq)).2.2, fun q v hq hv => ?_⟩
  obtain ⟨c, rfl, hc⟩ := id hv.vecI
  obtain ⟨_, ⟨b, n, eb, en, n0⟩, nu, enu⟩ := hall q (hcsub q hq)
  have eblk : M.blk q = b := by unfold TreeM.blk; rw [eb]; rfl
  have en1 : n = 1 := by
    have := (List.mem_filter.mp hq).2
    rw [eblk, List.getD_eq_getElem?_getD, en] at this
    simpa using this
  subst en1
  have gd := dget_u (s3 _ _ h4) hc
  rw [eb] at gd
  refine ⟨_, rfl, tr, _, dx, _, _, rfl, s3 _ _ h1, T.cl_Tree, T.n_Tree_store, rfl, p, sdx, _, rfl, s3 _ _ hp, rfl, _, rfl, tr, _, dx, _, _, rfl, s3 _ _ h1, T.cl_Tree, T.n_Tree_under, rfl, _, rfl, ud, _, rfl, gd, ?_⟩
  refine ⟨_, _, rfl, p, ca, ka, S, b, 1, rfl, rfl, st2, en, Nat.one_pos, fun H3 f3 st3 => ?_⟩
  have n7 : tr ∉ [ca, ka] ∧ ud ∉ [ca, ka] ∧ us ∉ [ca, ka] := by simp; exact ⟨⟨m1, m2⟩, ⟨m3, m4⟩, ⟨m5, m6⟩⟩
  have ta3 := ta2.keep f3 n7.1 n7.2.1 n7.2.2 npl
  obtain ⟨dx3, vs3, g1, g2, g3, g4, g5⟩ := id ta3.ex
  have hc3 := f3.t _ _ rfl hc
  have isU : (valV (mapD vN M.under) (keyP q)).isSome = true := by rw [valV_mapD, eb]; rfl
  refine ⟨_, rfl, tr, _, dx3, _, _, rfl, g1, T.cl_Tree, T.n_Tree_under, rfl, _, rfl, ud, mapD vN M.under, keyP q, c, rfl, g4, rfl, by rw [keyP_v]; exact hc3, isU, ?_⟩
  rw [dropK_mapD vN]
  have f4 : Fr [ud] H3 _ := Fr.upd (o := .dT (mapD vN (adrop M.under q))) g4 rfl (.head _)
  have e4 : upd H3 ud (.dT (mapD vN (adrop M.under q))) ud = _ := upd_same
  generalize upd H3 ud (.dT (mapD vN (adrop M.under q))) = H4 at f4 e4 ⊢
  have k1 := f4.k _ _ (by simp; exact n1) g1
  have k2 := f4.k _ _ (by simp; exact n4) g2
  have k5 := f4.k _ _ (by simp; exact ta.ne.symm) g5
  have hc4 := f4.t _ _ rfl hc3
  have isS : (valV (mapD V.int M.used) (keyP q)).isSome = true := by rw [valV_mapD, enu]; rfl
  refine ⟨_, rfl, tr, _, dx3, _, _, rfl, k1, T.cl_Tree, T.n_Tree_used, rfl, _, rfl, us, mapD V.int M.used, keyP q, c, rfl, k5, rfl, by rw [keyP_v]; exact hc4, isS, ?_⟩
  rw [dropK_mapD V.int]
  have f5 : Fr [us] H4 _ := Fr.upd (o := .dT (mapD V.int (adrop M.used q))) k5 rfl (.head _)
  have e5 : upd H4 us (.dT (mapD V.int (adrop M.used q))) us = _ := upd_same
  generalize upd H4 us (.dT (mapD V.int (adrop M.used q))) = H5 at f5 e5 ⊢
  have j1 := f5.k _ _ (by simp; exact n2) k1
  have j2 := f5.k _ _ (by simp; exact n5) k2
  have j4 := f5.k _ _ (by simp; exact ta.ne) e4
  have hc5 := f5.t _ _ rfl hc4
  have g35 := g3.up (f4.t.trans f5.t)
  refine ⟨_, rfl, tr, _, dx3, _, _, rfl, j1, T.cl_Tree, T.n_Tree_paths, rfl, pl, rfl, ⟨_, SqL.of j2⟩, fun D6 hD6 => lc_list (K := K) (a := pl) (xs := vs3) (fun i H6 => Same H5 H6 ∧ ∃ zs, H6 D6 = some (.lst zs) ∧ zs.length ≤ i ∧ AtAll H6 zs (((M.paths.take i).filter fun r => !decide (r = q)).map dVec))
    ⟨same_new hD6, [], upd_same, Nat.le_refl _, .nil⟩ (fun i H6 _ I => SqL.of (I.1 _ _ j2)) (fun i x H6 hx I => ?_) fun H6 I => ?_⟩
  · obtain ⟨s6, ws, hw, hwl, hws⟩ := I
    obtain ⟨d, hd', hx'⟩ := g35.get hx
    obtain ⟨r, er, rfl⟩ := map_get hd'
    have hi := (List.getElem?_eq_some_iff.mp er).1
    have hx6 := hx'.up s6.tups
    refine ⟨rfl, _, rfl, _, rfl, neD_vec hx6 (at_vec (s6 _ _ hc5)) ?_⟩
    have ef : ((M.paths.take (i + 1)).filter fun r => !decide (r = q)) = ((M.paths.take i).filter fun r => !decide (r = q)) ++ (if (!decide (r = q)) = true then [r] else []) := by
      rw [take_snoc er, List.filter_append, List.filter_cons]
      rfl
    refine ⟨_, rfl, ?_⟩
    by_cases e9 : r = q
    · rw [decide_eq_true e9] at ef ⊢
      refine ⟨s6, ws, hw, Nat.le_succ_of_le hwl, ?_⟩
      rw [ef]
      simpa using hws
    · rw [decide_eq_false e9] at ef ⊢
      refine ⟨_, rfl, ws, hw, small1000 (by omega), fun z u hz' => ?_, ws ++ [_], upd_same, by rw [List.length_append]; exact Nat.succ_le_succ hwl, ?_⟩
      · rw [upd_ne (ne_of_none hz' hD6)]
        exact s6 _ _ hz'
      · rw [ef, List.map_append]
        exact (hws.snoc hx6).up (tups_upd hw rfl)
  obtain ⟨s6, ws, hw, hwl, hws⟩ := I
  have e6 : vs3.length = M.paths.length := by rw [g3.len, List.length_map]
  rw [e6, List.take_length] at hws
  refine ⟨_, rfl, tr, _, dx3, _, rfl, s6 _ _ j1, T.cl_Tree, T.n_Tree_paths, by show 5 < 1000; omega, ?_⟩
  generalize hG : upd H6 tr _ = H7
  obtain ⟨f7, e7⟩ := gen_ins [tr] (s6 _ _ j1) hG (.head _)
  have nD6 : D6 ≠ tr := fun z => by rw [z, j1] at hD6; cases hD6
  have a45 : Fr [ca, ka, tr, ud, us] H3 H5 := (f4.sub (by simp)).trans (f5.sub (by simp))
  have a7 : Fr [ca, ka, tr, ud, us] H H7 := (Fr.same s3).trans ((f3.sub (by simp)).trans (a45.trans ((Fr.same s6).trans (f7.sub (by simp)))))
  have nH : H D6 = none := by
    cases z : H D6 with
    | none => rfl
    | some u =>
      have z2 := s3 _ _ z
      obtain ⟨_, _, _, c2, c3, _⟩ := st3.ex
      by_cases hm : D6 ∈ [ca, ka]
      · have z3 : H5 D6 ≠ none := by
          have nn : D6 ∉ [ud] ∧ D6 ∉ [us] := by
            simp at hm ⊢
            rcases hm with rfl | rfl
            · exact ⟨Ne.symm m3, Ne.symm m5⟩
            · exact ⟨Ne.symm m4, Ne.symm m6⟩
          simp at hm
          rcases hm with rfl | rfl
          · rw [f5.k _ _ nn.2 (f4.k _ _ nn.1 c2)]; simp
          · rw [f5.k _ _ nn.2 (f4.k _ _ nn.1 c3)]; simp
        exact (z3 hD6).elim
      · have z3 := f3.k _ _ hm z2
        by_cases hu : D6 = ud
        · rw [hu, j4] at hD6; cases hD6
        · by_cases hs : D6 = us
          · rw [hs, e5] at hD6; cases hD6
          · rw [f5.k _ _ (by simp; exact hs) (f4.k _ _ (by simp; exact hu) z3)] at hD6
            cases hD6
  have st7 := (((st3.keep f4 (by simp; exact Ne.symm m3) (by simp; exact Ne.symm m4)).keep f5 (by simp; exact Ne.symm m5) (by simp; exact Ne.symm m6)).up s6).keep f7 (by simp; exact Ne.symm m1) (by simp; exact Ne.symm m2)
  refine q2 q hq H7 D6 a7 nH (by rw [eblk]; exact st7) ⟨⟨dx3, ws, e7, f7.k _ _ (by simp; exact nD6) hw, hws.up f7.t, f7.k _ _ (by simp; exact Ne.symm n1) (s6 _ _ j4), f7.k _ _ (by simp; exact Ne.symm n2) (s6 _ _ e5)⟩, ta.ne⟩
end
end Sv
end
section
set_option Elab.async false
set_option linter.all false
set_option maxRecDepth 100000
set_option maxHeartbeats 4000000
/-! The walk: NoRoom.__init__, Store.take, Table.put_row (they may raise NoRoom). -/
namespace Sv
open PySem PySem.Spec PyProof.Rows L2 HotX L2H
/-! ### a method that may raise -/
section
variable (P : Program) (w : World) (K : PySem.W.Frag) (mg : Str → Option Value) (base : Heap)
structure XMFn (k : Nat) (C : Addr) (m : Str) (ps : List Str) (sp : Sp) : Prop where
  ex : ∃ f fd, Meth K C m f ∧ FnOk P w K mg base (L2N.CX P w) k f fd ps sp ∧ Binds K fd ps []
end
section
variable {X : Cx} {k : Nat} {x m : Str} {C : Addr} {ps : List Str} {sp : Sp} {p pos apos : Pos} {e o : Expr} {es : List Expr} {ta : TE} {t : TA}
theorem pe_m0X {pl : Sem Bool} {E : XK} {W : WX} (G : XMFn X.prog X.w X.K X.mg X.base k C m ps sp) (c : Cls X.K C) (hr : Room k X.A) (tk : L2N.Takes X W) (hW : ∀ cls d σ H, E cls d H → W cls d σ H) (he : PE X o ta)
    (ht : eval (.Call (.Attribute o m apos) [] [] pos) X.env = (do
      let ov ← eval o X.env
      standAt apos.atName
      let (f, first) ← holding [ov] (getMethod ov m pl)
      callWith pos f first (backTo pos (starEach [] X.env)) (backToKw pos (keywordEach [] X.env))) := by rfl) :
    PE X (.Call (.Attribute o m apos) [] [] pos) (tMeth C m sp [] E ta tNil) := by
  obtain ⟨f, fd, hm, F, b⟩ := G.ex
  exact pe_meth0 he c hm F hr b .nil (L2N.passes_call tk hW) ht
/-- in the body of a try -/
theorem pe_mT {pl : Sem Bool} {W : WX} (G : XMFn X.prog X.w X.K X.mg X.base k C m ps sp) (c : Cls X.K C) (hr : Room k X.A) (tk : L2N.Takes X W) (he : PE X o ta) (ha : PA X (e :: es) t)
    (hst : starEach (e :: es) X.env = (false, eval e X.env) :: starEach es X.env := by rfl) (hpl : (backTo pos (starEach es X.env)).any (·.1) = false := by rfl)
    (ht : eval (.Call (.Attribute o m apos) (e :: es) [] pos) X.env = (do
      let ov ← eval o X.env
      standAt apos.atName
      let (f, first) ← holding [ov] (getMethod ov m pl)
      callWith pos f first (backTo pos (starEach (e :: es) X.env)) (backToKw pos (keywordEach [] X.env))) := by rfl) :
    PE X (.Call (.Attribute o m apos) (e :: es) [] pos) (tMethH C m sp (WE W) ta t) := by
  obtain ⟨f, fd, hm, F, b⟩ := G.ex
  refine ⟨fun pins s σ H Q I h => ?_⟩
  refine PySem.W.methodCall_KW (pl := pl) (thn (he.run pins s σ H _ I h) fun u s1 ⟨x, H1, I1, rx, a, dx, fs, ex, ea, l, q⟩ => ?_) ht
  subst ex
  obtain rfl : u = Value.ref a := rx
  refine getmeth_ok I1 ea c hm l ?_
  refine PySem.W.callWith_K (first := [.ref a]) (h₀ := X.base) I1.ok.mod.kin hm.kp (thn (ha.run pos pins s1 σ H1 _ I1 q) fun us s2 ⟨vs, H2, I2, r, q2⟩ => ⟨I2.kIn, ?_⟩) hst hpl
  exact run_fnS (us := .ref a :: us) (vs := .ref a :: vs) F hr b (L2N.passAt tk σ) I2 (.cons rfl r) q2
end
section
variable {P : Program} {w : World} {K : PySem.W.Frag} {mg : Str → Option Value} {base : Heap} {k : Nat} {m qual : Str} {st : Stmt} {N ps : List Str} {sp : Sp} {f C : Addr}
theorem xmfn (D : FnP K m qual st [] f) (hm : Meth K C m f) (S : FnScope N ps (defScope st)) (hb : BindsP m qual st ps) (len : ∀ vs H Q E, sp vs H Q E → vs.length = ps.length)
    (B : ∀ (cdv : Value) (A : Around) (outer : List Env) (s : Shared) (H : Hp) (vs : List V) (Q : VK) (E : XK), Room k (A.deeper (envOfC qual (defScope st) s.heap.objs.size f cdv)) → sp vs H Q E →
      ∃ t, PSs (cxOf (L2N.CX P w) P w K mg base N qual (defScope st) f cdv A outer s H E) (defBody st) t ∧ t { nx := fun _ H' => Q .non H', rt := Q } (L2.start N vs) H) : XMFn P w K mg base (k + 1) C m ps sp := by
  obtain ⟨fd, F⟩ := D
  exact ⟨f, fd, hm, F.ok S len B, F.bindsN hb⟩
end
/-! ### promises -/
def p_NoRoom_init (K : PySem.W.Frag) : P2 := fun a b H Q => ∃ x, a = .ref x ∧ H x = some (exo x (He.ga K "NoRoom") none) ∧ ∀ dx, H dx = none → dx ≠ x → Q .non (upd (upd H dx (exd dx [("many", b)])) x (exo x (He.ga K "NoRoom") (some dx)))
def freeB (S : StoreM) : Option Nat := (List.range S.many).find? fun b => S.cts.getD b 0 == 0
def sp_take (K : PySem.W.Frag) : Sp := fun vs H Q E => ∃ (p ca ka : Addr) (S : StoreM), vs = [.ref p] ∧ StoreAt K H p ca ka S ∧ (∀ b, freeB S = some b → ∀ H', Fr [ca, ka] H H' → StoreAt K H' p ca ka (S.setC b 1) → Q (.int (b : Nat)) H') ∧
  (freeB S = none → ∀ d H', Same H H' → E (.ref (He.ga K "NoRoom")) d H')
def sp_put (K : PySem.W.Frag) : Sp := fun vs H Q E => ∃ (tb p ca ka : Addr) (v : V) (S : StoreM) (bs : List Nat) (len : Nat) (r : RowM), vs = [.ref tb, v] ∧ At H v (dRow r) ∧ StoreAt K H p ca ka S ∧ TableAt K H tb p bs len ∧ bs.length ≤ 100 ∧
  (len % S.size = 0 → ∀ b, S.cts[b]? = some 0 → S.kept.getD b [] = []) ∧ (len % S.size ≠ 0 → ∃ bs0 l, bs = bs0 ++ [l] ∧ S.cts[l]? = some 1 ∧ (S.kept.getD l []).length = len % S.size) ∧
  (len % S.size = 0 → ∀ b, freeB S = some b → ∀ H', Fr [ca, ka, tb] H H' → StoreAt K H' p ca ka ((S.setC b 1).setK b [r]) → TableAt K H' tb p (bs ++ [b]) (len + 1) → Q .non H') ∧
  (len % S.size = 0 → freeB S = none → ∀ d H', Same H H' → E (.ref (He.ga K "NoRoom")) d H') ∧
  (len % S.size ≠ 0 → ∀ bs0 l, bs = bs0 ++ [l] → ∀ H', Fr [ca, ka, tb] H H' → StoreAt K H' p ca ka (S.setK l (S.kept.getD l [] ++ [r])) → TableAt K H' tb p bs (len + 1) → Q .non H')
theorem oexC {K : PySem.W.Frag} {mg : Str → Option Value} (T : Txt K mg) : OexC K (He.ga K "NoRoom") := ⟨T.noRoom.cls, T.noRoom.sa, T.noRoom.exC, T.noRoom.tyC, T.k_NoRoom⟩
/-- what a raise leaves of the heap -/
theorem raise_same {H : Hp} {a dx d : Addr} {o1 o2 o3 o4 : HO} (ha : H a = none) (hd : L2.upd H a o1 dx = none) (hdn : dx ≠ a) (e : d = dx) : Same H (L2.upd (del (L2.upd (L2.upd (L2.upd H a o1) dx o2) a o3) a) d o4) := fun b u z => by
  have n1 : b ≠ a := ne_of_none z ha
  have n2 : b ≠ dx := fun w => by
    rw [upd_ne hdn] at hd
    rw [w, hd] at z
    cases z
  rw [e, upd_ne n2, del_ne n1, upd_ne n1, upd_ne n2, upd_ne n1]
  exact z
theorem freeB_some {S : StoreM} {b : Nat} (hl : S.cts.length = S.many) (h : freeB S = some b) : S.cts[b]? = some 0 ∧ b < S.many := by
  have h1 := List.find?_some h
  have h2 := List.mem_range.mp (List.mem_of_find?_eq_some h)
  have h3 : b < S.cts.length := by rw [hl]; exact h2
  rw [List.getD_eq_getElem?_getD, List.getElem?_eq_getElem h3] at h1
  rw [List.getElem?_eq_getElem h3]
  refine ⟨?_, h2⟩
  have : S.cts[b] = 0 := by simpa using h1
  rw [this]
theorem find_range {f : Nat → Bool} : ∀ (n i : Nat), (∀ j, j < i → f j = false) → f i = true → i < n → (List.range n).find? f = some i := by
  intro n i h1 h2 h3
  rw [List.find?_eq_some_iff_getElem]
  refine ⟨h2, i, by rw [List.length_range]; exact h3, by rw [List.getElem_range], fun j hj => ?_⟩
  rw [List.getElem_range]
  rw [h1 j hj]
  rfl
section
variable {P : Program} {w : World} {K : PySem.W.Frag} {mg : Str → Option Value} {base : Heap}
abbrev N_NoRoom_init : List Str := ["self", "many"]
theorem sc_NoRoom_init : FnScope N_NoRoom_init ["self", "many"] (defScope s_NoRoom_init) := ⟨rfl, rfl, rfl, by decide +kernel, rfl, by decide +kernel, by decide +kernel⟩
theorem ok_NoRoom_init (T : Txt K mg) : ∃ fd, FnOk P w K mg base CX0 1 (He.ma K (He.ga K "NoRoom") "__init__") fd ["self", "many"] (Sp2 (p_NoRoom_init K)) ∧ Binds K fd ["self", "many"] [] := by
  refine fn_body T.d_NoRoom_init sc_NoRoom_init (fun _ _ _ _ _ _ us hl => match us, hl with | [_, _], _ => rfl) len2 fun cdv A outer s H vs Q E hr h => ?_
  obtain ⟨a0, a1, rfl, x, rfl, hx, q⟩ := h
  exact ⟨_, pss_one (ps_ost (pv 0) (pv 1)), _, rfl, _, rfl, x, _, rfl, oexC T, T.n_NoRoom_many, .inl ⟨hx, q⟩⟩
abbrev N_Store_take : List Str := ["self", "block"]
theorem sc_Store_take : FnScope N_Store_take ["self"] (defScope s_Store_take) := ⟨rfl, rfl, rfl, by decide +kernel, rfl, by decide +kernel, by decide +kernel⟩
theorem ok_Store_take (T : Txt K mg) : XMFn P w K mg base 3 (He.ga K "Store") "take" ["self"] (sp_take K) := by
  refine xmfn T.d_Store_take T.m_Store_take sc_Store_take (fun _ _ _ _ _ _ us hl => match us, hl with | [_], _ => rfl) (fun vs H Q E h => by obtain ⟨_, _, _, _, rfl, _⟩ := h; rfl) fun cdv A outer s H vs Q E hr h => ?_
  obtain ⟨p, ca, ka, S, rfl, st, q1, q2⟩ := h
  obtain ⟨fd, F, b⟩ := ok_NoRoom_init (P := P) (w := w) (base := base) T
  obtain ⟨dx, ks, hp, hca, hka, hks⟩ := id st.ex
  have hm60 := st.m1
  refine ⟨_, pss_cons (ps_for PassesOwn.leaving rfl (pi_range1 (by rfl) T.b_range (pa_cons (pe_fld (pv 0) rfl) pa_nil)) (pg_name (i := 1) sc_Store_take.nd rfl (Or.inl rfl))
      (pss_one (ps_if (pt_cmpR op_eq (pe_ix ix_list (pe_fld (pv 0) rfl) (pv 1) (fun _ _ => rfl)) (pe_int) (nomark _)) (pss_cons (ps_asg (pe_int) (pg_sub (pe_fld (pv 0) rfl) (pv 1) set_list))
      (pss_one (ps_ret (pv 1)))) (pss_nil))))
      (pss_one (L2N.ps_raise rfl (L2N.takes_of rfl rfl rfl rfl) (pmk_oexN (oexC T) T.noRoom.ini T.noRoom.tyI F (hr.mono (by decide)) b pass0 (by rfl) T.g_NoRoom (pa_cons pe_int pa_nil)))), ?_⟩
  refine ⟨_, rfl, p, _, dx, _, _, rfl, hp, T.cl_Store, T.n_Store_many, rfl, S.many, rfl, by omega, by omega, for_range (lo := 0) (n := S.many) (fun i σ H' => H' = H ∧ (∃ v1, σ = [some (.ref p), v1]) ∧ ∀ j, j < i → S.cts.getD j 0 ≠ 0)
    ⟨rfl, ⟨none, rfl⟩, fun j hj => absurd hj (Nat.not_lt_zero _)⟩ (fun i σ H' hi I => ?_) fun σ H' I => ?_⟩
  · obtain ⟨rfl, ⟨v1, rfl⟩, hz⟩ := I
    have hil : i < S.cts.length := by rw [st.l1]; exact hi
    rw [show (0 : Int) + (i : Nat) = (i : Nat) from Int.zero_add _]
    refine ⟨_, rfl, p, _, dx, _, _, rfl, hp, T.cl_Store, T.n_Store_counts, rfl, _, rfl, ca, _, _, _, rfl, rfl, SqL.of hca, atI_nat (getMap (List.getElem?_eq_getElem hil)), rfl, _, rfl, ?_⟩
    have eg : S.cts.getD i 0 = S.cts[i] := by rw [List.getD_eq_getElem?_getD, List.getElem?_eq_getElem hil]; rfl
    by_cases e : S.cts[i] = 0
    · rw [dec_t (show vN S.cts[i] = V.int 0 by rw [e]; rfl)]
      refine ⟨_, rfl, p, _, dx, _, _, rfl, hp, T.cl_Store, T.n_Store_counts, rfl, _, rfl, ca, _, _, i, rfl, rfl, hca, ixN_of (by rw [List.length_map]; exact hil), ?_⟩
      obtain ⟨f, st2⟩ := st.setC i 1 _ rfl
      exact ⟨_, rfl, q1 i (find_range _ _ (fun j hj => by simpa using hz j hj) (by simp only [eg, e]; rfl) hi) _ f st2⟩
    · rw [dec_f (show vN S.cts[i] ≠ V.int 0 from fun z => e (by have := V.int.inj z; omega))]
      refine ⟨rfl, ⟨_, rfl⟩, fun j hj => ?_⟩
      by_cases ej : j = i
      · rw [ej, eg]; exact e
      · exact hz j (by omega)
  · obtain ⟨rfl, ⟨v1, rfl⟩, hz⟩ := I
    refine ⟨by show 1 ≤ 1000; omega, fun a ha => ?_⟩
    refine ⟨_, _, rfl, a, rfl, upd_same, fun d hd hne => ⟨rfl, d, [("many", .int 1)], upd_same, by rw [upd_ne hne]; exact upd_same, by rw [upd_ne hne] at hd; exact hd, ?_⟩⟩
    refine q2 ?_ _ _ (raise_same ha hd hne rfl)
    unfold freeB
    rw [List.find?_eq_none]
    intro j hj
    have := hz j (List.mem_range.mp hj)
    simpa using this
abbrev N_Table_put_row : List Str := ["self", "row", "used"]
theorem sc_Table_put_row : FnScope N_Table_put_row ["self", "row"] (defScope s_Table_put_row) := ⟨rfl, rfl, rfl, by decide +kernel, rfl, by decide +kernel, by decide +kernel⟩
theorem ok_Table_put_row (T : Txt K mg) : XMFn P w K mg base 6 (He.ga K "Table") "put_row" ["self", "row"] (sp_put K) := by
  refine xmfn T.d_Table_put_row T.m_Table_put_row sc_Table_put_row (fun _ _ _ _ _ _ us hl => match us, hl with | [_, _], _ => rfl) (fun vs H Q E h => by obtain ⟨_, _, _, _, _, _, _, _, _, rfl, _⟩ := h; rfl) fun cdv A outer s H vs Q E hr h => ?_
  obtain ⟨tb, p, ca, ka, v, S, bs, len, r, rfl, hv, st, ta, hbl, pre1, pre2, q1, q2, q3⟩ := h
  obtain ⟨dx, vb, ht, hvb⟩ := id ta.ex
  obtain ⟨sdx, ks, hp, hca, hka, hks⟩ := id st.ex
  have hs0 := st.s0
  have hs8 := st.s1
  have ntb := tab_ne ta st
  have ntb' : tb ≠ ca ∧ tb ≠ ka := by simpa using ntb
  refine ⟨_, pss_cons (ps_set (i := 2) sc_Table_put_row.nd rfl (Or.inl rfl) (pe_op op_mod (pe_fld (pv 0) rfl) (pe_fld (pe_fld (pv 0) rfl) rfl)))
      (pss_cons (ps_if (pt_cmpR op_eq (pv 2) (pe_int) (nomark _)) (pss_one (ps_fld (pv 0) (pe_op op_catA (pe_fld (pv 0) rfl) (pe_tup (pa_cons (pe_m0X (ok_Store_take T) T.cl_Store (hr.mono (by decide)) (L2N.takes_of rfl rfl rfl rfl) (fun _ _ _ _ z => z) (pe_fld (pv 0) rfl)) pa_nil))) rfl)) (pss_one (ps_expr (pe_m (ok_Table_own_last T) T.cl_Table (hr.mono (by decide)) (pv 0) (pa_cons (pv 2) pa_nil)))))
      (pss_cons (ps_expr (pe_m (ok_Store_put_row T) T.cl_Store (hr.mono (by decide)) (pe_fld (pv 0) rfl) (pa_cons (pe_ix ix_tup (pe_fld (pv 0) rfl) (pe_un un_neg (pe_int)) (fun _ _ => rfl)) (pa_cons (pv 1) pa_nil))))
      (pss_one (ps_fldaug (pv 0) (pe_int) in_add)))), ?_⟩
  refine ⟨_, rfl, tb, _, dx, _, _, rfl, ht, T.cl_Table, T.n_Table_length, rfl, _, rfl, tb, _, dx, _, _, rfl, ht, T.cl_Table, T.n_Table_store, rfl, p, _, sdx, _, _, rfl, hp, T.cl_Store, T.n_Store_size, rfl, _, _, rfl, rfl, by show (0 : Int) < (S.size : Int); omega, ?_⟩
  have e0 : ((len : Nat) : Int) % ((S.size : Nat) : Int) = ((len % S.size : Nat) : Int) := rfl
  refine ⟨_, rfl, rfl, _, rfl, ?_⟩
  by_cases c1 : len % S.size = 0
  · rw [dec_t (show V.int (((len : Nat) : Int) % ((S.size : Nat) : Int)) = V.int 0 by rw [e0, c1]; rfl)]
    obtain ⟨c, rfl, hc⟩ := hvb.nsI
    refine ⟨_, rfl, tb, _, dx, _, _, rfl, ht, T.cl_Table, T.n_Table_blocks, rfl, _, rfl, tb, _, dx, _, _, rfl, ht, T.cl_Table, T.n_Table_store, rfl, p, sdx, _, rfl, hp, rfl, ?_⟩
    refine ⟨p, ca, ka, S, rfl, st, fun b hb H1 f1 st1 => ?_, fun hn d H1 s1 => q2 c1 hn d H1 s1⟩
    obtain ⟨hcb, hbm⟩ := freeB_some st.l1 hb
    have hk0 := pre1 c1 b hcb
    refine ⟨ll1, fun e he => ?_⟩
    obtain ⟨s2, e2⟩ := gen_new (o := .tup [V.int (b : Nat)]) he rfl
    have ta1 := ta.keep f1 ntb
    have hc1 := f1.t _ _ rfl hc
    refine catA_at (K := K) (s2 _ _ hc1) e2 (by rw [List.length_map]; show _ + 1 ≤ 1000; omega) fun H3 c3 s3 hc3 => ?_
    have s4 := s2.trans s3
    obtain ⟨dx1, vb1, ht1, _⟩ := id (ta1.up s4).ex
    refine ⟨_, rfl, tb, _, dx1, _, rfl, ht1, T.cl_Table, T.n_Table_blocks, by show 3 < 1000; omega, ?_⟩
    generalize hG : upd H3 tb _ = H4
    obtain ⟨f4, e4⟩ := gen_ins [tb] ht1 hG (.head _)
    have hc4 := f4.t _ _ rfl hc3
    have hc4' : H4 c3 = some (.tup ((bs ++ [b]).map vN)) := by rw [hc4, List.map_append]; rfl
    have st4 := (st1.up s4).keep f4 (by simp; exact Ne.symm ntb'.1) (by simp; exact Ne.symm ntb'.2)
    have ta4 : TableAt K H4 tb p (bs ++ [b]) len := ⟨dx1, _, e4, at_ns hc4'⟩
    obtain ⟨sdx4, ks4, hp4, _⟩ := id st4.ex
    have hlast : atI ((bs ++ [b]).map vN) (-1) = some (vN b) := by rw [List.map_append]; exact atI_last _ _
    have hb1 : (S.setC b 1).cts[b]? = some 1 := by show (S.cts.set b 1)[b]? = _; rw [List.getElem?_set_self (by rw [st.l1]; exact hbm)]
    refine ⟨_, rfl, tb, _, dx1, _, _, rfl, e4, T.cl_Table, T.n_Table_store, rfl, p, sdx4, _, rfl, hp4, rfl, _, rfl, tb, _, dx1, _, _, rfl, e4, T.cl_Table, T.n_Table_blocks, rfl, _, rfl, c3, _, _, _, rfl, rfl, SqT.of hc4', hlast, _, rfl, ?_⟩
    refine ⟨_, _, _, rfl, p, ca, ka, _, b, r, rfl, rfl, st4, hb1, ?_, ((hv.up f1.t).up s4.tups).up f4.t, fun H5 f5 st5 => ?_⟩
    · show (S.kept.getD b []).length < S.size
      rw [hk0]
      exact hs0
    have ta5 := ta4.keep f5 ntb
    obtain ⟨dx5, vb5, ht5, hvb5⟩ := id ta5.ex
    refine ⟨_, rfl, tb, _, dx5, _, _, rfl, ht5, T.cl_Table, T.n_Table_length, rfl, _, _, rfl, rfl, dx5, _, ht5, by show 3 < 1000; omega, ?_⟩
    generalize hG : upd H5 tb _ = H6
    obtain ⟨f6, e6⟩ := gen_ins [tb] ht5 hG (.head _)
    have ek : (S.setC b 1).kept.getD b [] ++ [r] = [r] := by
      show S.kept.getD b [] ++ [r] = [r]
      rw [hk0]
      rfl
    rw [ek] at st5
    exact q1 c1 b hb H6 ((f1.sub (by simp)).trans ((Fr.same s4).trans ((f4.sub (by simp)).trans ((f5.sub (by simp)).trans (f6.sub (by simp)))))) (st5.keep f6 (by simp; exact Ne.symm ntb'.1) (by simp; exact Ne.symm ntb'.2)) ⟨dx5, _, e6, hvb5.up f6.t⟩
  · rw [dec_f (show V.int (((len : Nat) : Int) % ((S.size : Nat) : Int)) ≠ V.int 0 from fun z => c1 (by have := V.int.inj z; rw [e0] at this; omega))]
    obtain ⟨bs0, l, rfl, hl1, hlen⟩ := pre2 c1
    refine ⟨_, rfl, tb, dx, _, rfl, ht, rfl, _, rfl, ?_⟩
    refine ⟨_, _, rfl, tb, p, ca, ka, S, bs0, l, len, len % S.size, rfl, rfl, st, ta, hl1, by omega, fun H1 f1 st1 => ?_⟩
    have ta1 := ta.keep f1 ntb
    obtain ⟨dx1, vb1, ht1, hvb1⟩ := id ta1.ex
    obtain ⟨sdx1, ks1, hp1, _⟩ := id st1.ex
    obtain ⟨c1', rfl, hc1⟩ := id hvb1.nsI
    have hll : l < S.kept.length := by rw [st.l2, ← st.l1]; exact (List.getElem?_eq_some_iff.mp hl1).1
    have ek : (S.setK l ((S.kept.getD l []).take (len % S.size))).kept.getD l [] = S.kept.getD l [] := by
      show (S.kept.set l _).getD l [] = _
      rw [List.getD_eq_getElem?_getD, List.getElem?_set_self hll, ← hlen, List.take_length]
      rfl
    have hlast : atI ((bs0 ++ [l]).map vN) (-1) = some (vN l) := by rw [List.map_append]; exact atI_last _ _
    refine ⟨_, rfl, tb, _, dx1, _, _, rfl, ht1, T.cl_Table, T.n_Table_store, rfl, p, sdx1, _, rfl, hp1, rfl, _, rfl, tb, _, dx1, _, _, rfl, ht1, T.cl_Table, T.n_Table_blocks, rfl, _, rfl, c1', _, _, _, rfl, rfl, SqT.of hc1, hlast, _, rfl, ?_⟩
    refine ⟨_, _, _, rfl, p, ca, ka, _, l, r, rfl, rfl, st1, hl1, ?_, hv.up f1.t, fun H5 f5 st5 => ?_⟩
    · rw [ek, hlen]
      show len % S.size < S.size
      exact Nat.mod_lt _ hs0
    have ta5 := ta1.keep f5 ntb
    obtain ⟨dx5, vb5, ht5, hvb5⟩ := id ta5.ex
    refine ⟨_, rfl, tb, _, dx5, _, _, rfl, ht5, T.cl_Table, T.n_Table_length, rfl, _, _, rfl, rfl, dx5, _, ht5, by show 3 < 1000; omega, ?_⟩
    generalize hG : upd H5 tb _ = H6
    obtain ⟨f6, e6⟩ := gen_ins [tb] ht5 hG (.head _)
    have ek2 : (S.setK l ((S.kept.getD l []).take (len % S.size))).setK l ((S.setK l ((S.kept.getD l []).take (len % S.size))).kept.getD l [] ++ [r]) = S.setK l (S.kept.getD l [] ++ [r]) := by
      rw [ek]
      unfold StoreM.setK
      rw [List.set_set]
    rw [ek2] at st5
    exact q3 c1 bs0 l rfl H6 ((f1.sub (by simp)).trans ((f5.sub (by simp)).trans (f6.sub (by simp)))) (st5.keep f6 (by simp; exact Ne.symm ntb'.1) (by simp; exact Ne.symm ntb'.2)) ⟨dx5, _, e6, hvb5.up f6.t⟩
end
end Sv
end
section
set_option Elab.async false
set_option linter.all false
set_option maxRecDepth 100000
set_option maxHeartbeats 4000000
/-! The walk: House.has_put (the try within the while). -/
namespace Sv
open PySem PySem.Spec PyProof.Rows L2 HotX L2H
theorem takes0N {X : Cx} : L2N.Takes X (fun _ _ _ _ => False) := fun _ _ x => by
  obtain ⟨_, _, _, _, _, _, _, _, _, _, _, _, _, _, _, _, z⟩ := x
  exact z.elim
theorem hotSuite {X : Cx} {a : Addr} {oe : Obj} {cls : Value} {d : Option Addr} {pn : List (Addr × Obj)} (hz : L2N.Zn cls d oe) (hf : ∃ vs, oe.data = .fields vs) : HotC (X.suite a ((a, oe) :: pn)) := by
  obtain ⟨vs, e⟩ := hf
  exact ⟨(a, oe), ⟨rfl, vs, e, hz.2.2 vs e⟩, List.mem_cons_self⟩
theorem hins_tree {K : PySem.W.Frag} {H : Hp} {hp np p tr rq ud us pl p2 : Addr} {T : TreeM} (h : HInsAt K H hp np p tr rq) {tr2 : Addr} (t : TreeAt K H tr2 ud us pl p2 T) : hp ≠ tr2 ∧ hp ≠ ud ∧ hp ≠ us := by
  obtain ⟨_, _, h1⟩ := h
  obtain ⟨_, _, g1, _, _, g4, g5⟩ := t.ex
  refine ⟨ne_kind h1 g1 fun e => ?_, ne_kind h1 g4 nofun, ne_kind h1 g5 nofun⟩
  have e1 := (List.cons.inj (HO.ins.inj e).2.2).1
  have e2 := congrArg Prod.fst e1
  exact absurd (show ("net" : Str) = "store" from e2) (by decide)
theorem hins_store {K : PySem.W.Frag} {H : Hp} {hp np p tr rq p2 ca ka : Addr} {S : StoreM} (h : HInsAt K H hp np p tr rq) (s : StoreAt K H p2 ca ka S) : hp ≠ ca ∧ hp ≠ ka := by
  obtain ⟨_, _, h1⟩ := h
  obtain ⟨_, _, _, g1, g2, _⟩ := s.ex
  exact ⟨ne_kind h1 g1 nofun, ne_kind h1 g2 nofun⟩
theorem hins_tab {K : PySem.W.Frag} {H : Hp} {hp np p tr rq tb p2 : Addr} {bs : List Nat} {len : Nat} (h : HInsAt K H hp np p tr rq) (s : TableAt K H tb p2 bs len) : hp ≠ tb := by
  obtain ⟨_, _, h1⟩ := h
  obtain ⟨_, _, g1, _⟩ := s.ex
  refine ne_kind h1 g1 fun e => ?_
  have := congrArg List.length (HO.ins.inj e).2.2
  simp at this
/-- what must hold of the store and the tree for a row to be put behind len rows in blocks bs -/
structure PutPre (S : StoreM) (T : TreeM) (bs : List Nat) (len : Nat) : Prop where
  pn : T.paths.length ≤ 500
  ps : ∀ q ∈ T.paths, S.size ≤ q.length ∧ (∃ b n, aget T.under q = some b ∧ S.cts[b]? = some n ∧ 0 < n) ∧ ∃ n, aget T.used q = some n
  z : len % S.size = 0 → ∀ b, S.cts[b]? = some 0 → S.kept.getD b [] = []
  l : len % S.size ≠ 0 → ∃ bs0 l, bs = bs0 ++ [l] ∧ S.cts[l]? = some 1 ∧ (S.kept.getD l []).length = len % S.size
/-- what a row that is put makes of the store and the blocks -/
def PutR (S' : StoreM) (bs : List Nat) (len : Nat) (r : RowM) (S1 : StoreM) (bs1 : List Nat) : Prop :=
  (len % S'.size = 0 ∧ ∃ b, freeB S' = some b ∧ S1 = (S'.setC b 1).setK b [r] ∧ bs1 = bs ++ [b]) ∨ (len % S'.size ≠ 0 ∧ ∃ bs0 l, bs = bs0 ++ [l] ∧ S1 = S'.setK l (S'.kept.getD l [] ++ [r]) ∧ bs1 = bs)
def p_House_has_put (K : PySem.W.Frag) : P3 := fun a b c H Q => ∃ (hp np p tr rq ca ka ud us pl tb : Addr) (T : TreeM) (S : StoreM) (bs : List Nat) (len : Nat) (r : RowM) (J : StoreM → TreeM → Prop), a = .ref hp ∧ b = .ref tb ∧ At H c (dRow r) ∧ HInsAt K H hp np p tr rq ∧ StoreAt K H p ca ka S ∧ TreeAt K H tr ud us pl p T ∧ TableAt K H tb p bs len ∧
  pl ∉ [ca, ka] ∧ bs.length ≤ 100 ∧ J S T ∧ (∀ S T, J S T → PutPre S T bs len) ∧ (∀ S T q, J S T → q ∈ candM S T → J (S.rel (T.blk q) 1) (T.drop q)) ∧
  (∀ S' T' pl' S1 bs1, J S' T' → PutR S' bs len r S1 bs1 → ∀ H', Fr [ca, ka, tr, ud, us, tb] H H' → (pl' = pl ∨ H pl' = none) → pl' ∉ [ca, ka] → StoreAt K H' p ca ka S1 → TreeAt K H' tr ud us pl' p T' → TableAt K H' tb p bs1 (len + 1) → Q (.bl true) H') ∧
  (∀ S' T' pl', J S' T' → len % S'.size = 0 → freeB S' = none → candM S' T' = [] → ∀ H', Fr [ca, ka, tr, ud, us, tb] H H' → (pl' = pl ∨ H pl' = none) → pl' ∉ [ca, ka] → StoreAt K H' p ca ka S' → TreeAt K H' tr ud us pl' p T' → TableAt K H' tb p bs len → Q (.bl false) H')
theorem drop_shorter {T : TreeM} {q : Path} (h : q ∈ T.paths) : (T.drop q).paths.length < T.paths.length := by
  show (T.paths.filter _).length < _
  refine Nat.lt_of_le_of_ne (List.length_filter_le _ _) fun e => ?_
  have := List.length_filter_eq_length_iff.mp e q h
  simp at this
theorem cand_sub {S : StoreM} {T : TreeM} {q : Path} (h : q ∈ candM S T) : q ∈ T.paths := (List.mem_filter.mp (List.mem_filter.mp h).1).1
section
variable {P : Program} {w : World} {K : PySem.W.Frag} {mg : Str → Option Value} {base : Heap}
abbrev N_House_has_put : List Str := ["self", "table", "row"]
theorem sc_House_has_put : FnScope N_House_has_put ["self", "table", "row"] (defScope s_House_has_put) := ⟨rfl, rfl, rfl, by decide +kernel, rfl, by decide +kernel, by decide +kernel⟩
theorem ok_House_has_put (T : Txt K mg) : MFn P w K mg base 7 (He.ga K "House") "has_put" ["self", "table", "row"] (Sp3 (p_House_has_put K)) := by
  refine mfn T.d_House_has_put T.m_House_has_put sc_House_has_put (fun _ _ _ _ _ _ us hl => match us, hl with | [_, _, _], _ => rfl) len3 fun cdv A outer s H vs Q E hr h => ?_
  obtain ⟨a0, a1, v, rfl, hp, np, p, tr, rq, ca, ka, ud, us, pl, tb, M, S, bs, len, r, J, rfl, rfl, hv, ho, st, ta, tt, npl, hbl, j0, jpre, jdrop, q12, q3⟩ := h
  refine ⟨_, pss_one (ps_while PassesOwn.never (pt_val (pe_bl)) (pss_one (L2N.ps_try_many (Wout := fun _ _ _ _ => False) rfl rfl takes0N
    (fun W pn xe tk po => pss_cons (ps_expr (pe_mT (ok_Table_put_row T) T.cl_Table (hr.mono (by decide)) tk (pv 1) (pa_cons (pv 2) pa_nil))) (pss_one (ps_ret pe_bl)))
    (.cons (c := .ref (He.ga K "NoRoom")) ⟨rfl, by decide, .inl T.g_NoRoom⟩ (fun a oe cls d pn hz hf => pss_one (ps_if (pt_not (pt_val (pe_m0H (okH_Tree_drop T) T.cl_Tree (roomH_mark (hr.mono (by decide)) _) (hotSuite hz hf) (pe_fldK (K0 := K) (pv 0) rfl)))) (pss_one (ps_ret pe_bl)) pss_nil)) .nil)))), ?_⟩
  obtain ⟨dx, rm, h1⟩ := id ho
  obtain ⟨z1, z2, z3, z4⟩ := tab_tree tt ta
  have ntb : tb ≠ ca ∧ tb ≠ ka := by simpa using tab_ne tt st
  obtain ⟨m1, m2, m3, m4, m5, m6⟩ := tree_store ta st
  obtain ⟨w1, w2, w3⟩ := hins_tree ho ta
  obtain ⟨w4, w5⟩ := hins_store ho st
  refine ⟨fun m σ H' => ∃ S' T' pl', σ = [some (.ref hp), some (.ref tb), some v] ∧ m = T'.paths.length ∧ Fr [ca, ka, tr, ud, us] H H' ∧ (pl' = pl ∨ H pl' = none) ∧ pl' ∉ [ca, ka] ∧ StoreAt K H' p ca ka S' ∧ TreeAt K H' tr ud us pl' p T' ∧ J S' T',
    ⟨_, S, M, pl, rfl, rfl, Fr.refl _ _, .inl rfl, npl, st, ta, j0⟩, ?_⟩
  rintro m σ H' ⟨S', T', pl', rfl, rfl, f, hpl, npl', st', ta', j'⟩
  obtain ⟨ppn, pps, ppz, ppl⟩ := jpre S' T' j'
  have tt' := tt.keep f (by simp; exact ⟨ntb.1, ntb.2, z1, z2, z3⟩)
  have ho' := ho.keep f (by simp; exact ⟨w4, w5, w1, w2, w3⟩)
  obtain ⟨tdx, vb, t1, _⟩ := id tt'.ex
  have z4' : tb ≠ pl' := (tab_tree tt' ta').2.2.2
  have kt : ∀ {Hx : Hp} {S2 : StoreM}, Fr [ca, ka, tb] H' Hx → StoreAt K Hx p ca ka S2 → TreeAt K Hx tr ud us pl' p T' := fun fx _ => ta'.keep fx (by simp; exact ⟨m1, m2, Ne.symm z1⟩) (by simp; exact ⟨m3, m4, Ne.symm z2⟩) (by simp; exact ⟨m5, m6, Ne.symm z3⟩) (by simp at npl' ⊢; exact ⟨npl'.1, npl'.2, Ne.symm z4'⟩)
  refine ⟨true, rfl, _, fun _ _ h => h, ?_⟩
  refine ⟨_, rfl, tb, tdx, _, rfl, t1, rfl, _, rfl, tb, p, ca, ka, v, S', bs, len, r, rfl, hv.up f.t, st', tt', hbl, ppz, ppl, fun c1 b hb H2 f2 st2 tt2 => ?_, fun c1 hn d H2 s2 => ?_, fun c1 bs0 l e H2 f2 st2 tt2 => ?_⟩
  · exact q12 S' T' pl' _ _ j' (.inl ⟨c1, b, hb, rfl, rfl⟩) H2 ((f.sub (by simp)).trans (f2.sub (by simp))) hpl npl' st2 (kt f2 st2) tt2
  · refine ⟨true, T.x_NoRoom, fun _ a ha => ?_, fun z => by cases z⟩
    have ho2 := ho'.keep (Fr.same (S := []) s2) (by simp)
    obtain ⟨dx2, rm2, h2⟩ := id ho2
    have ta2 := ta'.up s2
    have st2 := st'.up s2
    obtain ⟨ydx, vs, y1, _⟩ := id ta2.ex
    refine ⟨_, rfl, hp, _, dx2, _, _, rfl, h2, T.cl_House, T.n_House_tree, rfl, tr, ydx, _, rfl, y1, rfl, _, rfl, tr, ud, us, pl', p, ca, ka, T', S', rfl, ta2, st2, npl', ppn, pps, fun hc H3 s3 => ?_, fun q hq H3 pl3 f3 hpl3 st3 ta3 => ?_⟩
    · refine ⟨_, rfl, ?_⟩
      exact q3 S' T' pl' j' c1 hn hc H3 ((f.sub (by simp)).trans (Fr.same (s2.trans s3))) hpl npl' (st2.up s3) (ta2.up s3) ((tt'.up s2).up s3)
    · have a3 : Fr [ca, ka, tr, ud, us] H H3 := f.trans ((Fr.same s2).trans f3)
      have hplH : H pl3 = none := by
        cases z : H pl3 with
        | none => rfl
        | some u =>
          exfalso
          have e2 : H2 pl3 ≠ none := by
            by_cases hm : pl3 ∈ [ca, ka, tr, ud, us]
            · obtain ⟨_, _, _, c2, c3, _⟩ := st2.ex
              obtain ⟨_, _, y2, _, _, y4, y5⟩ := ta2.ex
              simp at hm
              rcases hm with e | e | e | e | e
              · rw [e, c2]; simp
              · rw [e, c3]; simp
              · rw [e, y1]; simp
              · rw [e, y4]; simp
              · rw [e, y5]; simp
            · rw [s2 _ _ (f.k _ _ hm z)]; simp
          exact e2 hpl3
      have npl3 : pl3 ∉ [ca, ka] := by
        obtain ⟨_, _, _, c2, c3, _⟩ := st2.ex
        simp
        constructor
        · intro z; rw [z, c2] at hpl3; cases hpl3
        · intro z; rw [z, c3] at hpl3; cases hpl3
      exact ⟨_, rfl, _, drop_shorter (cand_sub hq), _, _, pl3, rfl, rfl, a3, .inr hplH, npl3, st3, ta3, jdrop S' T' q j' hq⟩
  · exact q12 S' T' pl' _ _ j' (.inr ⟨c1, bs0, l, e, rfl, rfl⟩) H2 ((f.sub (by simp)).trans (f2.sub (by simp))) hpl npl' st2 (kt f2 st2) tt2
end
end Sv
end
section
set_option autoImplicit false
set_option linter.all false
set_option maxRecDepth 100000
set_option maxHeartbeats 1000000
/-! The house in plain Lean: its invariant. -/
namespace Sv
/-! ### the store -/
def StoreM.c (S : StoreM) (b : Nat) : Nat := S.cts.getD b 0
def StoreM.k (S : StoreM) (b : Nat) : List RowM := S.kept.getD b []
theorem StoreM.c_setC {S : StoreM} {b x : Nat} (h : b < S.cts.length) (d : Nat) : (S.setC b x).c d = if d = b then x else S.c d := by
  unfold StoreM.c StoreM.setC
  simp only [List.getD_eq_getElem?_getD, List.getElem?_set]
  by_cases e : b = d
  · rw [if_pos e, if_pos e.symm, if_pos h]; rfl
  · rw [if_neg e, if_neg (Ne.symm e)]
theorem StoreM.k_setK {S : StoreM} {b : Nat} {r : List RowM} (h : b < S.kept.length) (d : Nat) : (S.setK b r).k d = if d = b then r else S.k d := by
  unfold StoreM.k StoreM.setK
  simp only [List.getD_eq_getElem?_getD, List.getElem?_set]
  by_cases e : b = d
  · rw [if_pos e, if_pos e.symm, if_pos h]; rfl
  · rw [if_neg e, if_neg (Ne.symm e)]
theorem StoreM.c_setK (S : StoreM) (b : Nat) (r : List RowM) (d : Nat) : (S.setK b r).c d = S.c d := rfl
theorem StoreM.k_setC (S : StoreM) (b x d : Nat) : (S.setC b x).k d = S.k d := rfl
theorem StoreM.c_rel {S : StoreM} {b n : Nat} (h : b < S.cts.length) (hn : 0 < n) (d : Nat) : (S.rel b n).c d = if d = b then n - 1 else S.c d := by
  unfold StoreM.rel
  split
  · rename_i e
    rw [StoreM.c_setK, StoreM.c_setC h, e]
  · rw [StoreM.c_setC h]
theorem StoreM.k_rel {S : StoreM} {b n : Nat} (h : b < S.kept.length) (d : Nat) : (S.rel b n).k d = if d = b ∧ n = 1 then [] else S.k d := by
  unfold StoreM.rel
  split
  · rename_i e
    rw [StoreM.k_setK (by exact h), StoreM.k_setC, e]
    by_cases z : d = b <;> simp [z]
  · rename_i e
    rw [StoreM.k_setC, if_neg (fun z => e z.2)]
theorem StoreM.rel_lc (S : StoreM) (b n : Nat) : (S.rel b n).cts.length = S.cts.length := by
  unfold StoreM.rel; split <;> exact List.length_set
theorem StoreM.rel_lk (S : StoreM) (b n : Nat) : (S.rel b n).kept.length = S.kept.length := by
  unfold StoreM.rel; split
  · exact List.length_set
  · rfl
theorem StoreM.c_at {S : StoreM} {b n : Nat} (h : S.cts[b]? = some n) : S.c b = n := by
  unfold StoreM.c; rw [List.getD_eq_getElem?_getD, h]; rfl
theorem StoreM.at_c {S : StoreM} {b : Nat} (h : b < S.cts.length) : S.cts[b]? = some (S.c b) := by
  unfold StoreM.c; rw [List.getD_eq_getElem?_getD, List.getElem?_eq_getElem h]; rfl
/-! ### who holds a block -/
def occR (rs : List ReqM) (b : Nat) : Nat := (rs.map fun r => r.bs.count b).sum
def occT (T : TreeM) (b : Nat) : Nat := T.paths.countP fun q => decide (T.blk q = b)
theorem occR_set (b : Nat) : ∀ (rs : List ReqM) (i : Nat) (r r' : ReqM), rs[i]? = some r → occR (rs.set i r') b + r.bs.count b = occR rs b + r'.bs.count b
  | [], i, r, r', h => by simp at h
  | x :: rs, 0, r, r', h => by
    cases h
    simp only [occR, List.set_cons_zero, List.map_cons, List.sum_cons]
    omega
  | x :: rs, i + 1, r, r', h => by
    have ih := occR_set b rs i r r' (by simpa using h)
    simp only [occR, List.set_cons_succ, List.map_cons, List.sum_cons] at ih ⊢
    omega
theorem occR_le (b : Nat) : ∀ (rs : List ReqM) (i : Nat) (r : ReqM), rs[i]? = some r → r.bs.count b ≤ occR rs b
  | [], i, r, h => by simp at h
  | x :: rs, 0, r, h => by
    cases h
    simp only [occR, List.map_cons, List.sum_cons]
    omega
  | x :: rs, i + 1, r, h => by
    have ih := occR_le b rs i r (by simpa using h)
    simp only [occR, List.map_cons, List.sum_cons] at ih ⊢
    omega
/-- two requests that both hold it -/
theorem occR_two (b : Nat) : ∀ (rs : List ReqM) (i j : Nat) (r s : ReqM), rs[i]? = some r → rs[j]? = some s → i ≠ j → r.bs.count b + s.bs.count b ≤ occR rs b
  | [], i, j, r, s, h, _, _ => by simp at h
  | x :: rs, 0, 0, r, s, _, _, n => (n rfl).elim
  | x :: rs, 0, j + 1, r, s, h, g, _ => by
    cases h
    have := occR_le b rs j s (by simpa using g)
    simp only [occR, List.map_cons, List.sum_cons] at this ⊢
    omega
  | x :: rs, i + 1, 0, r, s, h, g, _ => by
    cases g
    have := occR_le b rs i r (by simpa using h)
    simp only [occR, List.map_cons, List.sum_cons] at this ⊢
    omega
  | x :: rs, i + 1, j + 1, r, s, h, g, n => by
    have := occR_two b rs i j r s (by simpa using h) (by simpa using g) (fun e => n (by rw [e]))
    simp only [occR, List.map_cons, List.sum_cons] at this ⊢
    omega
theorem occR_app (rs : List ReqM) (r : ReqM) (b : Nat) : occR (rs ++ [r]) b = occR rs b + r.bs.count b := by simp [occR]
theorem occR_zero {rs : List ReqM} {b : Nat} (h : occR rs b = 0) : ∀ (i : Nat) (r : ReqM), rs[i]? = some r → b ∉ r.bs := fun i r hr hm => by
  have h1 := occR_le b rs i r hr
  have h2 := List.count_pos_iff.mpr hm
  omega
theorem occT_pos {T : TreeM} {q : Path} (h : q ∈ T.paths) : 0 < occT T (T.blk q) := List.countP_pos_iff.mpr ⟨q, h, by simp⟩
theorem occT_zero {T : TreeM} {b : Nat} (h : occT T b = 0) : ∀ q ∈ T.paths, T.blk q ≠ b := fun q hq e => by
  have := occT_pos hq
  rw [e] at this
  omega
/-! ### the invariant -/
def whole (r : ReqM) : List Int := r.ask.prompt ++ r.text
structure RI (M : NetM) (L : Nat) (S : StoreM) (T : TreeM) (r : ReqM) (fk : Nat) : Prop where
  ask : AskOk r.ask L
  txt : ∀ x ∈ r.text, 0 ≤ x ∧ x < (L : Int)
  tl : r.text.length ≤ 8
  dn : r.wd ≠ none → r.bs = [] ∧ r.len = 0
  le : r.len ≤ (whole r).length
  bl : ∀ b ∈ r.bs, b < S.many
  n0 : r.len ≤ r.bs.length * S.size
  n1 : r.bs.length * S.size < r.len + S.size
  ch : ∀ k b, r.bs[k]? = some b → S.k b = ((rowsM M ((whole r).take r.len)).drop (k * S.size)).take S.size
  f0 : fk ≤ r.bs.length
  f1 : r.bs.length ≤ fk + 1
  fu : ∀ k, k < fk → (k + 1) * S.size ≤ r.len ∧ (whole r).take ((k + 1) * S.size) ∈ T.paths ∧ r.bs[k]? = some (T.blk ((whole r).take ((k + 1) * S.size)))
  la : ∀ b, r.bs[fk]? = some b → S.c b = 1
structure HI (M : NetM) (L w : Nat) (S : StoreM) (T : TreeM) (rs : List ReqM) (f : Nat → Nat) : Prop where
  net : NetOk M L w
  s0 : 1 ≤ S.size
  s8 : S.size ≤ 8
  m60 : S.many ≤ 60
  lc : S.cts.length = S.many
  lk : S.kept.length = S.many
  cnt : ∀ b, b < S.many → S.c b = occR rs b + occT T b
  zer : ∀ b, b < S.many → S.c b = 0 → S.k b = []
  pnd : T.paths.Nodup
  pmem : ∀ q, q ∈ T.paths ↔ T.has q = true
  und : (T.under.map (·.1)).Nodup
  usd : (T.used.map (·.1)).Nodup
  use : ∀ q, (aget T.used q).isSome = T.has q
  plen : ∀ q ∈ T.paths, ∃ m, 0 < m ∧ q.length = m * S.size
  ppre : ∀ q ∈ T.paths, ∀ m, 0 < m → m * S.size ≤ q.length → q.take (m * S.size) ∈ T.paths
  pblk : ∀ q ∈ T.paths, T.blk q < S.many ∧ S.k (T.blk q) = (rowsM M q).drop (q.length - S.size)
  pinj : ∀ q ∈ T.paths, ∀ q' ∈ T.paths, T.blk q = T.blk q' → q = q'
  req : ∀ (i : Nat) (r : ReqM), rs[i]? = some r → RI M L S T r (f i)
theorem countP_filter_ne {α : Type} [DecidableEq α] (p : α → Bool) (q : α) : ∀ l : List α, l.Nodup → q ∈ l → (l.filter fun r => !decide (r = q)).countP p + (if p q = true then 1 else 0) = l.countP p
  | [], _, h => by cases h
  | x :: l, hn, h => by
    have hn' := List.nodup_cons.mp hn
    by_cases e : x = q
    · subst e
      rw [List.filter_cons_of_neg (by simp)]
      have : l.filter (fun r => !decide (r = x)) = l := List.filter_eq_self.mpr fun a ha => by
        have : a ≠ x := fun z => hn'.1 (by rw [← z]; exact ha)
        simp [this]
      rw [this, List.countP_cons]
    · have hq : q ∈ l := by
        rcases List.mem_cons.mp h with z | z
        · exact (e z.symm).elim
        · exact z
      rw [List.filter_cons_of_pos (by simp [e]), List.countP_cons, List.countP_cons]
      have := countP_filter_ne p q l hn'.2 hq
      omega
theorem TreeM.blk_some {T : TreeM} {q : Path} {b : Nat} (h : aget T.under q = some b) : T.blk q = b := by unfold TreeM.blk; rw [h]; rfl
theorem TreeM.some_blk {T : TreeM} {q : Path} (h : T.has q = true) : aget T.under q = some (T.blk q) := by
  unfold TreeM.blk
  obtain ⟨b, e⟩ := Option.isSome_iff_exists.mp h
  rw [e]; rfl
/-- how many there can be: distinct numbers below n -/
theorem nodup_le : ∀ (n : Nat) (l : List Nat), l.Nodup → (∀ x ∈ l, x < n) → l.length ≤ n
  | 0, l, _, h => by
    cases l with
    | nil => exact Nat.le_refl _
    | cons x l => exact absurd (h x List.mem_cons_self) (Nat.not_lt_zero _)
  | n + 1, l, hn, h => by
    have h1 : (l.filter fun x => !decide (x = n)).length ≤ n := nodup_le n _ (hn.filter _) fun x hx => by
      obtain ⟨a, b⟩ := List.mem_filter.mp hx
      have := h x a
      have : x ≠ n := by simpa using b
      omega
    by_cases e : n ∈ l
    · have := countP_filter_ne (fun _ => true) n l hn e
      simp at this
      omega
    · have : l.filter (fun x => !decide (x = n)) = l := List.filter_eq_self.mpr fun a ha => by
        have : a ≠ n := fun z => e (by rw [← z]; exact ha)
        simp [this]
      rw [this] at h1
      omega
theorem nodup_map_inj {α β : Type} {f : α → β} : ∀ {l : List α}, l.Nodup → (∀ x ∈ l, ∀ y ∈ l, f x = f y → x = y) → (l.map f).Nodup
  | [], _, _ => .nil
  | x :: l, hn, h => by
    have hn' := List.nodup_cons.mp hn
    rw [List.map_cons, List.nodup_cons]
    refine ⟨fun hm => ?_, nodup_map_inj hn'.2 fun a ha b hb => h a (List.mem_cons_of_mem _ ha) b (List.mem_cons_of_mem _ hb)⟩
    obtain ⟨y, hy, e⟩ := List.mem_map.mp hm
    exact hn'.1 (by rw [h x List.mem_cons_self y (List.mem_cons_of_mem _ hy) e.symm]; exact hy)
section
variable {M : NetM} {L w : Nat} {S : StoreM} {T : TreeM} {rs : List ReqM} {f : Nat → Nat}
theorem HI.pcount (h : HI M L w S T rs f) : T.paths.length ≤ S.many := by
  have := nodup_le S.many (T.paths.map T.blk) (nodup_map_inj h.pnd h.pinj) fun x hx => by
    obtain ⟨q, hq, rfl⟩ := List.mem_map.mp hx
    exact (h.pblk q hq).1
  rwa [List.length_map] at this
theorem keys_len {β : Type} {l : List (Path × β)} (hn : (l.map (·.1)).Nodup) (ps : List Path) (hs : ∀ q, (aget l q).isSome = true → q ∈ ps) : l.length ≤ ps.length := by
  have key : ∀ (a b : List Path), a.Nodup → (∀ x ∈ a, x ∈ b) → a.length ≤ b.length := by
    intro a
    induction a with
    | nil => intro b _ _; exact Nat.zero_le _
    | cons x a ih =>
      intro b hn hs
      have hn' := List.nodup_cons.mp hn
      have hx : x ∈ b := hs x List.mem_cons_self
      have h1 := ih (b.erase x) hn'.2 fun y hy => by
        have hne : y ≠ x := fun e => hn'.1 (by rw [← e]; exact hy)
        exact (List.mem_erase_of_ne hne).mpr (hs y (List.mem_cons_of_mem _ hy))
      rw [List.length_erase_of_mem hx] at h1
      have := List.length_pos_of_mem hx
      rw [List.length_cons]
      omega
  have h1 := key (l.map (·.1)) ps hn fun x hx => hs x (by
    obtain ⟨p, hp, rfl⟩ := List.mem_map.mp hx
    rw [← aget_any]
    exact List.any_eq_true.mpr ⟨p, hp, by simp⟩)
  rwa [List.length_map] at h1
theorem HI.ulen (h : HI M L w S T rs f) : T.under.length ≤ 60 := Nat.le_trans (keys_len h.und T.paths fun q hq => (h.pmem q).mpr hq) (Nat.le_trans h.pcount h.m60)
theorem HI.slen (h : HI M L w S T rs f) : T.used.length ≤ 60 := Nat.le_trans (keys_len h.usd T.paths fun q hq => (h.pmem q).mpr (by rw [← h.use]; exact hq)) (Nat.le_trans h.pcount h.m60)
theorem HI.tpos (h : HI M L w S T rs f) {q : Path} (hq : q ∈ T.paths) : 0 < S.c (T.blk q) := by
  rw [h.cnt _ (h.pblk q hq).1]
  have := occT_pos hq
  omega
end
end Sv
end
section
set_option autoImplicit false
set_option linter.all false
set_option maxRecDepth 100000
set_option maxHeartbeats 1000000
/-! The house in plain Lean: what a drop, a use, a hold leave of the invariant. -/
namespace Sv
theorem RI.to {M : NetM} {L : Nat} {S S' : StoreM} {T T' : TreeM} {r : ReqM} {fk : Nat} (h : RI M L S T r fk) (e1 : S'.size = S.size) (e2 : S'.many = S.many) (hk : ∀ b ∈ r.bs, S'.k b = S.k b) (hc : ∀ b ∈ r.bs, S.c b = 1 → S'.c b = 1)
    (ht : ∀ q ∈ T.paths, T.blk q ∈ r.bs → q ∈ T'.paths ∧ T'.blk q = T.blk q) : RI M L S' T' r fk where
  ask := h.ask
  txt := h.txt
  tl := h.tl
  dn := h.dn
  le := h.le
  bl := by rw [e2]; exact h.bl
  n0 := by rw [e1]; exact h.n0
  n1 := by rw [e1]; exact h.n1
  ch := fun k b e => by rw [e1, hk b (List.mem_of_getElem? e)]; exact h.ch k b e
  f0 := h.f0
  f1 := h.f1
  fu := fun k hk' => by
    rw [e1]
    obtain ⟨a, b, c⟩ := h.fu k hk'
    obtain ⟨x, y⟩ := ht _ b (List.mem_of_getElem? c)
    exact ⟨a, x, by rw [y]; exact c⟩
  la := fun b e => hc b (List.mem_of_getElem? e) (h.la b e)
section
variable {M : NetM} {L w : Nat} {S : StoreM} {T : TreeM} {rs : List ReqM} {f : Nat → Nat}
theorem blk_drop {T : TreeM} {q p : Path} (h : p ≠ q) : (T.drop q).blk p = T.blk p := by
  unfold TreeM.blk TreeM.drop
  simp only [aget_drop, if_neg h]
theorem mem_drop {T : TreeM} {q p : Path} : p ∈ (T.drop q).paths ↔ p ∈ T.paths ∧ p ≠ q := by
  unfold TreeM.drop
  simp
theorem HI.drop (h : HI M L w S T rs f) {q : Path} (hq : q ∈ candM S T) : HI M L w (S.rel (T.blk q) 1) (T.drop q) rs f := by
  obtain ⟨hq1, hq2⟩ := List.mem_filter.mp hq
  obtain ⟨hqp, hleaf⟩ := List.mem_filter.mp hq1
  have c1 : S.c (T.blk q) = 1 := beq_iff_eq.mp hq2
  obtain ⟨hbm, hbk⟩ := h.pblk q hqp
  have hbc : T.blk q < S.cts.length := by rw [h.lc]; exact hbm
  have hbl : T.blk q < S.kept.length := by rw [h.lk]; exact hbm
  have hcnt := h.cnt _ hbm
  have hot := occT_pos hqp
  have or0 : occR rs (T.blk q) = 0 := by omega
  have ot1 : occT T (T.blk q) = 1 := by omega
  have nb : ∀ p ∈ T.paths, p ≠ q → T.blk p ≠ T.blk q := fun p hp n e => n (h.pinj p hp q hqp e)
  have ot : ∀ d, occT (T.drop q) d + (if T.blk q = d then 1 else 0) = occT T d := fun d => by
    have e1 : occT (T.drop q) d = ((T.paths.filter fun r => !decide (r = q)).countP fun p => decide (T.blk p = d)) := by
      unfold occT
      refine List.countP_congr fun p hp => ?_
      rw [blk_drop (mem_drop.mp hp).2]
    rw [e1]
    unfold occT
    have := countP_filter_ne (fun p => decide (T.blk p = d)) q T.paths h.pnd hqp
    simpa using this
  have nl : ∀ p ∈ T.paths, ahM S.size p ≠ q := fun p hp e => by
    have : (T.paths.map (ahM S.size)).contains q = true := by
      rw [List.contains_iff_mem]
      exact List.mem_map.mpr ⟨p, hp, e⟩
    rw [this] at hleaf
    simp at hleaf
  have nr : ∀ (i : Nat) (r : ReqM), rs[i]? = some r → ∀ b ∈ r.bs, b ≠ T.blk q := fun i r hr b hb e => occR_zero or0 i r hr (by rw [← e]; exact hb)
  have esz := StoreM.rel_size S (T.blk q) 1
  have emn := StoreM.rel_many S (T.blk q) 1
  have cc : ∀ d, (S.rel (T.blk q) 1).c d = if d = T.blk q then 0 else S.c d := fun d => StoreM.c_rel hbc Nat.one_pos d
  have kk : ∀ d, (S.rel (T.blk q) 1).k d = if d = T.blk q then [] else S.k d := fun d => by rw [StoreM.k_rel hbl]; simp
  refine { net := h.net, s0 := by rw [esz]; exact h.s0, s8 := by rw [esz]; exact h.s8, m60 := by rw [emn]; exact h.m60, lc := by rw [StoreM.rel_lc, emn]; exact h.lc, lk := by rw [StoreM.rel_lk, emn]; exact h.lk, cnt := fun d hd => ?_, zer := fun d hd hz => ?_, pnd := h.pnd.filter _, pmem := fun p => ?_, und := ?_, usd := ?_, use := fun p => ?_, plen := fun p hp => ?_, ppre := fun p hp m m0 hm => ?_, pblk := fun p hp => ?_, pinj := fun p hp p' hp' e => ?_, req := fun i r hr => ?_ }
  · rw [emn] at hd
    rw [cc]
    have h1 := ot d
    by_cases e : d = T.blk q
    · subst e
      rw [if_pos rfl] at h1
      rw [if_pos rfl]
      omega
    · rw [if_neg (Ne.symm e)] at h1
      rw [if_neg e, h.cnt d hd]
      omega
  · rw [emn] at hd
    rw [cc] at hz
    rw [kk]
    by_cases e : d = T.blk q
    · rw [if_pos e]
    · rw [if_neg e] at hz ⊢
      exact h.zer d hd hz
  · rw [mem_drop, h.pmem]
    unfold TreeM.has TreeM.drop
    simp only [aget_drop]
    by_cases e : p = q
    · simp [e]
    · simp [e]
  · exact h.und.sublist ((List.filter_sublist).map _)
  · exact h.usd.sublist ((List.filter_sublist).map _)
  · have := h.use p
    unfold TreeM.has TreeM.drop at *
    simp only [aget_drop]
    by_cases e : p = q
    · simp [e]
    · simp [e, this]
  · rw [esz]
    exact h.plen p (mem_drop.mp hp).1
  · rw [esz] at hm ⊢
    obtain ⟨hp1, hp2⟩ := mem_drop.mp hp
    refine mem_drop.mpr ⟨h.ppre p hp1 m m0 hm, fun e => ?_⟩
    obtain ⟨m', _, hl⟩ := h.plen p hp1
    have hs := h.s0
    by_cases z : m = m'
    · rw [z, ← hl, List.take_length] at e
      exact hp2 e
    · have hlt : m < m' := by
        rw [hl] at hm
        have := Nat.le_of_mul_le_mul_right hm hs
        omega
      have hm2 : (m + 1) * S.size ≤ p.length := by
        rw [hl]
        exact Nat.mul_le_mul_right _ hlt
      have hp3 := h.ppre p hp1 (m + 1) (Nat.succ_pos _) hm2
      refine nl _ hp3 ?_
      unfold ahM
      rw [List.length_take, Nat.min_eq_left hm2, List.take_take, Nat.succ_mul, Nat.add_sub_cancel, Nat.min_eq_left (Nat.le_add_right _ _)]
      exact e
  · obtain ⟨hp1, hp2⟩ := mem_drop.mp hp
    rw [blk_drop hp2, emn, esz, kk, if_neg (nb p hp1 hp2)]
    exact h.pblk p hp1
  · obtain ⟨hp1, hp2⟩ := mem_drop.mp hp
    obtain ⟨hp1', hp2'⟩ := mem_drop.mp hp'
    rw [blk_drop hp2, blk_drop hp2'] at e
    exact h.pinj p hp1 p' hp1' e
  · refine (h.req i r hr).to esz emn (fun b hb => ?_) (fun b hb => ?_) fun p hp hb => ?_
    · rw [kk, if_neg (nr i r hr b hb)]
    · rw [cc, if_neg (nr i r hr b hb)]
      exact id
    · have n : p ≠ q := fun e => nr i r hr _ hb (by rw [e])
      exact ⟨mem_drop.mpr ⟨hp, n⟩, blk_drop n⟩
theorem aput_keys {β : Type} {l : List (Path × β)} (hn : (l.map (·.1)).Nodup) (p : Path) (v : β) : ((aput l p v).map (·.1)).Nodup := by
  unfold aput
  split
  · rw [List.map_map]
    have : l.map ((fun x => x.1) ∘ fun q => if q.1 = p then (q.1, v) else q) = l.map (·.1) := List.map_congr_left fun x _ => by
      show (if x.1 = p then (x.1, v) else x).1 = x.1
      split <;> rfl
    rw [this]
    exact hn
  · rename_i h
    rw [List.map_append]
    refine List.nodup_append.mpr ⟨hn, by simp, fun a ha b hb e => ?_⟩
    rw [List.mem_singleton.mp hb] at e
    obtain ⟨x, hx, rfl⟩ := List.mem_map.mp ha
    exact h (List.any_eq_true.mpr ⟨x, hx, by simpa using e⟩)
theorem fold_keys {β : Type} (v : β) : ∀ (ps : List Path) (l : List (Path × β)), (l.map (·.1)).Nodup → ((ps.foldl (fun u p => aput u p v) l).map (·.1)).Nodup
  | [], _, h => h
  | p :: ps, l, h => fold_keys v ps _ (aput_keys h p v)
theorem fold_get {β : Type} (v : β) (q : Path) : ∀ (ps : List Path) (l : List (Path × β)), (aget (ps.foldl (fun u p => aput u p v) l) q).isSome = ((aget l q).isSome || decide (q ∈ ps))
  | [], _ => by simp
  | p :: ps, l => by
    rw [List.foldl_cons, fold_get v q ps, aget_put]
    by_cases e : q = p
    · simp [e]
    · simp [e]
theorem HI.used (h : HI M L w S T rs f) {ps : List Path} (hp : ∀ p ∈ ps, p ∈ T.paths) : HI M L w S (T.use ps) rs f :=
  { net := h.net, s0 := h.s0, s8 := h.s8, m60 := h.m60, lc := h.lc, lk := h.lk, cnt := h.cnt, zer := h.zer, pnd := h.pnd, pmem := h.pmem, und := h.und, usd := fold_keys _ _ _ h.usd
    use := fun q => by
      show (aget (ps.foldl _ T.used) q).isSome = T.has q
      rw [fold_get, h.use]
      by_cases e : q ∈ ps
      · have := (h.pmem q).mp (hp q e)
        simp [this]
      · simp [e]
    plen := h.plen, ppre := h.ppre, pblk := h.pblk, pinj := h.pinj, req := fun i r hr => (h.req i r hr).to rfl rfl (fun _ _ => rfl) (fun _ _ => id) fun q hq _ => ⟨hq, rfl⟩ }
/-! ### the beginnings -/
theorem begM_spec (U : Path → Bool) (size : Nat) (hs : 1 ≤ size) (ls : Path) : ∀ (fu m : Nat), begM U size ls fu (m * size) = (List.range (begM U size ls fu (m * size)).length).map fun i => ls.take ((m + i) * size)
  | 0, _ => rfl
  | fu + 1, m => by
    unfold begM
    split
    · have ih := begM_spec U size hs ls fu (m + 1)
      rw [show m * size + size = (m + 1) * size from (Nat.succ_mul _ _).symm, List.length_cons, List.range_succ_eq_map, List.map_cons, List.map_map, Nat.add_zero]
      congr 1
      rw [ih, List.length_map, List.length_range]
      refine List.map_congr_left fun i _ => ?_
      show ls.take ((m + 1 + i) * size) = ls.take ((m + (i + 1)) * size)
      rw [Nat.add_right_comm, Nat.add_assoc]
    · rfl
theorem begM_long (U : Path → Bool) (size : Nat) (hs : 1 ≤ size) (ls : Path) : ∀ (fu m c : Nat), (∀ i, i < c → (m + i) * size ≤ ls.length ∧ U (ls.take ((m + i) * size)) = true) → c ≤ fu → c ≤ (begM U size ls fu (m * size)).length
  | _, _, 0, _, _ => Nat.zero_le _
  | 0, _, c + 1, _, h => absurd h (Nat.not_succ_le_zero _)
  | fu + 1, m, c + 1, h, hf => by
    unfold begM
    rw [if_pos (by simpa using h 0 (Nat.succ_pos _)), List.length_cons, show m * size + size = (m + 1) * size from (Nat.succ_mul _ _).symm]
    refine Nat.succ_le_succ (begM_long U size hs ls fu (m + 1) c (fun i hi => ?_) (Nat.le_of_succ_le_succ hf))
    have := h (i + 1) (Nat.succ_lt_succ hi)
    rwa [show m + (i + 1) = m + 1 + i by omega] at this
theorem begM_fits (U : Path → Bool) (size : Nat) (ls : Path) : ∀ (fu n : Nat), ∀ i, i < (begM U size ls fu n).length → n + i * size ≤ ls.length
  | 0, _, i, h => absurd h (Nat.not_lt_zero _)
  | fu + 1, n, i, h => by
    unfold begM at h
    split at h
    · rename_i hc
      cases i with
      | zero => simpa using hc.1
      | succ i =>
        have := begM_fits U size ls fu (n + size) i (by simpa using h)
        rw [Nat.succ_mul]
        omega
    · exact absurd h (Nat.not_lt_zero _)
theorem begs_mem (h : HI M L w S T rs f) (ls : Path) : ∀ p ∈ T.begs S.size ls, p ∈ T.paths := fun p hp => (h.pmem p).mpr (begM_has T.has S.size ls _ _ p hp)
end
end Sv
end
section
set_option autoImplicit false
set_option linter.all false
set_option maxRecDepth 100000
set_option maxHeartbeats 1000000
/-! The house in plain Lean: a row is put. -/
namespace Sv
theorem req_set {rs : List ReqM} {i : Nat} {r' : ReqM} {P : Nat → ReqM → Prop} (h1 : ∀ (j : Nat) (x : ReqM), rs[j]? = some x → j ≠ i → P j x) (h2 : P i r') : ∀ (j : Nat) (x : ReqM), (rs.set i r')[j]? = some x → P j x := fun j x hx => by
  rw [List.getElem?_set] at hx
  by_cases e : i = j
  · rw [if_pos e] at hx
    split at hx
    · cases hx; rw [← e]; exact h2
    · cases hx
  · rw [if_neg e] at hx
    exact h1 j x hx (Ne.symm e)
section
variable {M : NetM} {L w : Nat} {S : StoreM} {T : TreeM} {rs : List ReqM} {f : Nat → Nat} {i : Nat} {r : ReqM}
/-- blocks of a request whose full ones are all in the tree -/
theorem RI.blen {fk : Nat} (h : RI M L S T r fk) (hs : 1 ≤ S.size) : r.bs.length = (r.len + S.size - 1) / S.size := by
  have h0 := h.n0
  have h1 := h.n1
  refine (Nat.div_eq_of_lt_le ?_ ?_).symm
  · omega
  · rw [Nat.succ_mul]; omega
theorem RI.bfull {fk : Nat} (h : RI M L S T r fk) (hs : 1 ≤ S.size) (hm : r.len % S.size = 0) : r.bs.length = r.len / S.size ∧ r.bs.length * S.size = r.len := by
  have h0 := h.n0
  have h1 := h.n1
  have e := Nat.div_add_mod r.len S.size
  rw [hm, Nat.add_zero, Nat.mul_comm] at e
  have : r.bs.length = r.len / S.size := by
    refine (Nat.div_eq_of_lt_le ?_ ?_).symm
    · rw [← e] at h1
      have : r.bs.length * S.size < (r.len / S.size + 1) * S.size := by rw [Nat.succ_mul]; exact h1
      have := Nat.lt_of_mul_lt_mul_right this
      rw [← e]
      exact Nat.mul_le_mul_right _ (by omega)
    · rw [Nat.succ_mul]; omega
  exact ⟨this, by rw [this]; exact e⟩
theorem RI.bpart {fk : Nat} (h : RI M L S T r fk) (hs : 1 ≤ S.size) (hm : r.len % S.size ≠ 0) : r.bs.length = r.len / S.size + 1 := by
  have h0 := h.n0
  have h1 := h.n1
  have e := Nat.div_add_mod r.len S.size
  have hlt := Nat.mod_lt r.len hs
  generalize hq : r.len / S.size = q at e ⊢
  generalize hp : r.len % S.size = p at e hm hlt
  have e' : q * S.size + p = r.len := by rw [Nat.mul_comm]; exact e
  have a1 : r.bs.length * S.size < (q + 2) * S.size := by
    have : (q + 2) * S.size = q * S.size + 2 * S.size := Nat.add_mul _ _ _
    omega
  have a2 : q * S.size < r.bs.length * S.size := by omega
  have b1 := Nat.lt_of_mul_lt_mul_right a1
  have b2 := Nat.lt_of_mul_lt_mul_right a2
  omega
/-- the blocks of one request are all different -/
theorem HI.bsnd (h : HI M L w S T rs f) (hr : rs[i]? = some r) {b : Nat} (hb : r.bs[f i]? = some b) : r.bs.count b = 1 ∧ occT T b = 0 ∧ ∀ (j : Nat) (x : ReqM), rs[j]? = some x → j ≠ i → b ∉ x.bs := by
  have R := h.req i r hr
  have hm := List.mem_of_getElem? hb
  have c1 := R.la b hb
  have cn := h.cnt b (R.bl b hm)
  have h1 := occR_le b rs i r hr
  have h2 := List.count_pos_iff.mpr hm
  refine ⟨by omega, by omega, fun j x hx hj hmx => ?_⟩
  have h3 := occR_two b rs i j r x hr hx (Ne.symm hj)
  have h4 := List.count_pos_iff.mpr hmx
  omega
theorem HI.pre (h : HI M L w S T rs f) (hr : rs[i]? = some r) (hf : f i = r.len / S.size) : PutPre S T r.bs r.len := by
  have R := h.req i r hr
  have hp := h.pcount
  have h60 := h.m60
  refine ⟨by omega, fun q hq => ?_, fun hz b hb => ?_, fun hz => ?_⟩
  · obtain ⟨m, m0, hl⟩ := h.plen q hq
    obtain ⟨b1, b2⟩ := h.pblk q hq
    have b3 := h.tpos hq
    refine ⟨?_, ⟨_, _, TreeM.some_blk ((h.pmem q).mp hq), StoreM.at_c (by rw [h.lc]; exact b1), b3⟩, ?_⟩
    · rw [hl]
      exact Nat.le_mul_of_pos_left _ m0
    · exact Option.isSome_iff_exists.mp (by rw [h.use]; exact (h.pmem q).mp hq)
  · have hbl := (List.getElem?_eq_some_iff.mp hb).1
    rw [h.lc] at hbl
    exact h.zer b hbl (StoreM.c_at hb)
  · have hbl := R.bpart h.s0 hz
    rcases List.eq_nil_or_concat r.bs with e | ⟨bs0, l, e⟩
    · rw [e] at hbl; simp at hbl
    rw [List.concat_eq_append] at e
    have hl0 : bs0.length = f i := by
      rw [e, List.length_append] at hbl
      simp at hbl
      omega
    have hlast : r.bs[f i]? = some l := by rw [e, ← hl0, List.getElem?_append_right (Nat.le_refl _), Nat.sub_self]; rfl
    have hlm : l < S.many := R.bl l (List.mem_of_getElem? hlast)
    refine ⟨bs0, l, e, ?_, ?_⟩
    · rw [StoreM.at_c (by rw [h.lc]; exact hlm), R.la l hlast]
    · show (S.k l).length = _
      rw [R.ch _ l hlast, List.length_take, List.length_drop, rowsM_len, List.length_take, Nat.min_eq_left R.le, hf]
      have e2 := Nat.div_add_mod r.len S.size
      have e3 := Nat.mod_lt r.len h.s0
      rw [Nat.mul_comm] at e2
      omega
theorem take_succ_rows (M : NetM) (ls : List Int) (n : Nat) (hn : n < ls.length) : rowsM M (ls.take (n + 1)) = rowsM M (ls.take n) ++ [rowM M (rowsM M (ls.take n)) ls[n]] := by
  rw [List.take_succ, List.getElem?_eq_getElem hn]
  exact rowsM_snoc M _ _
/-- a row into a new block -/
theorem HI.putNew (h : HI M L w S T rs f) (hr : rs[i]? = some r) (hf : f i = r.len / S.size) (hw : r.wd = none) (hl : r.len < (whole r).length) (hm : r.len % S.size = 0) {b : Nat} (hb : b < S.many) (hc : S.c b = 0) :
    HI M L w ((S.setC b 1).setK b [rowM M (rowsM M ((whole r).take r.len)) (whole r)[r.len]]) T (rs.set i { r with bs := r.bs ++ [b], len := r.len + 1 }) f := by
  have R := h.req i r hr
  have s0 := h.s0
  obtain ⟨bl1, bl2⟩ := R.bfull s0 hm
  have hbc : b < S.cts.length := by rw [h.lc]; exact hb
  have hbk : b < S.kept.length := by rw [h.lk]; exact hb
  have cn := h.cnt b hb
  have or0 : occR rs b = 0 := by omega
  have ot0 : occT T b = 0 := by omega
  have nr := occR_zero or0
  have nt := occT_zero ot0
  generalize hS : (S.setC b 1).setK b [rowM M (rowsM M ((whole r).take r.len)) (whole r)[r.len]] = S'
  have esz : S'.size = S.size := by rw [← hS]; rfl
  have emn : S'.many = S.many := by rw [← hS]; rfl
  have cc : ∀ d, S'.c d = if d = b then 1 else S.c d := fun d => by rw [← hS, StoreM.c_setK, StoreM.c_setC hbc]
  have kk : ∀ d, S'.k d = if d = b then [rowM M (rowsM M ((whole r).take r.len)) (whole r)[r.len]] else S.k d := fun d => by rw [← hS, StoreM.k_setK (by exact hbk), StoreM.k_setC]
  have hcount : r.bs.count b = 0 := List.count_eq_zero.mpr (nr i r hr)
  have eo : ∀ d, occR (rs.set i { r with bs := r.bs ++ [b], len := r.len + 1 }) d = occR rs d + (if d = b then 1 else 0) := fun d => by
    have := occR_set d rs i r { r with bs := r.bs ++ [b], len := r.len + 1 } hr
    simp only [List.count_append, List.count_singleton] at this
    by_cases e : d = b
    · subst e; simp at this ⊢; omega
    · have e' : (b == d) = false := by simpa using Ne.symm e
      rw [e'] at this
      rw [if_neg e]
      simp at this
      omega
  refine { net := h.net, s0 := by rw [esz]; exact s0, s8 := by rw [esz]; exact h.s8, m60 := by rw [emn]; exact h.m60, lc := by rw [emn, ← hS]; exact (List.length_set ..).trans h.lc, lk := by rw [emn, ← hS]; exact (List.length_set ..).trans h.lk, cnt := fun d hd => ?_, zer := fun d hd hz => ?_, pnd := h.pnd, pmem := h.pmem, und := h.und, usd := h.usd, use := h.use, plen := by rw [esz]; exact h.plen, ppre := by rw [esz]; exact h.ppre, pblk := fun q hq => ?_, pinj := h.pinj, req := req_set (fun j x hx hj => ?_) ?_ }
  · rw [emn] at hd
    rw [cc, eo]
    by_cases e : d = b
    · subst e
      rw [if_pos rfl, if_pos rfl]
      omega
    · rw [if_neg e, if_neg e, h.cnt d hd]
      rfl
  · rw [emn] at hd
    rw [cc] at hz
    by_cases e : d = b
    · rw [if_pos e] at hz; cases hz
    · rw [if_neg e] at hz
      rw [kk, if_neg e]
      exact h.zer d hd hz
  · rw [emn, esz, kk, if_neg (nt q hq)]
    exact h.pblk q hq
  · refine (h.req j x hx).to esz emn (fun d hd => ?_) (fun d hd => ?_) fun q hq _ => ⟨hq, rfl⟩
    · rw [kk, if_neg (fun e => nr j x hx (by rw [← e]; exact hd))]
    · rw [cc, if_neg (fun e => nr j x hx (by rw [← e]; exact hd))]
      exact id
  · have erow := take_succ_rows M (whole r) r.len hl
    refine { ask := R.ask, txt := R.txt, tl := R.tl, dn := fun z => (z hw).elim, le := hl, bl := fun d hd => ?_, n0 := ?_, n1 := ?_, ch := fun k d hk => ?_, f0 := ?_, f1 := ?_, fu := fun k hk => ?_, la := fun d hd => ?_ }
    · rw [emn]
      rcases List.mem_append.mp hd with hd | hd
      · exact R.bl d hd
      · rw [List.mem_singleton.mp hd]; exact hb
    · show r.len + 1 ≤ (r.bs ++ [b]).length * S'.size
      rw [esz, List.length_append]
      show r.len + 1 ≤ (r.bs.length + 1) * S.size
      rw [Nat.succ_mul, bl2]
      omega
    · show (r.bs ++ [b]).length * S'.size < r.len + 1 + S'.size
      rw [esz, List.length_append]
      show (r.bs.length + 1) * S.size < _
      rw [Nat.succ_mul, bl2]
      omega
    · show S'.k d = ((rowsM M ((whole r).take (r.len + 1))).drop (k * S'.size)).take S'.size
      rw [esz, kk, erow]
      by_cases hkl : k < r.bs.length
      · rw [List.getElem?_append_left hkl] at hk
        have hne : d ≠ b := fun e => nr i r hr (by rw [← e]; exact List.mem_of_getElem? hk)
        rw [if_neg hne, R.ch k d hk]
        have hle : (k + 1) * S.size ≤ r.len := by rw [← bl2]; exact Nat.mul_le_mul_right _ hkl
        have hrl : (rowsM M ((whole r).take r.len)).length = r.len := by rw [rowsM_len, List.length_take, Nat.min_eq_left R.le]
        rw [Nat.succ_mul] at hle
        rw [List.drop_append_of_le_length (by omega), List.take_append_of_le_length (by rw [List.length_drop]; omega)]
      · have hk2 := (List.getElem?_eq_some_iff.mp hk).1
        rw [List.length_append] at hk2
        have ek : k = r.bs.length := by
          have : k < r.bs.length + 1 := hk2
          omega
        subst ek
        rw [List.getElem?_append_right (Nat.le_refl _), Nat.sub_self] at hk
        cases hk
        rw [if_pos rfl, bl2]
        have hrl : (rowsM M ((whole r).take r.len)).length = r.len := by rw [rowsM_len, List.length_take, Nat.min_eq_left R.le]
        rw [List.drop_append_of_le_length (by omega), List.drop_of_length_le (by omega), List.nil_append]
        exact (List.take_of_length_le (by exact s0)).symm
    · show f i ≤ (r.bs ++ [b]).length
      rw [List.length_append, hf, bl1]
      exact Nat.le_succ _
    · show (r.bs ++ [b]).length ≤ f i + 1
      rw [List.length_append, hf, bl1]
      exact Nat.le_refl _
    · obtain ⟨x1, x2, x3⟩ := R.fu k hk
      rw [esz]
      have hkl : k < r.bs.length := (List.getElem?_eq_some_iff.mp x3).1
      refine ⟨Nat.le_succ_of_le x1, x2, ?_⟩
      show (r.bs ++ [b])[k]? = _
      rw [List.getElem?_append_left hkl]
      exact x3
    · rw [show f i = r.bs.length by rw [hf, bl1]] at hd
      have hd' : (r.bs ++ [b])[r.bs.length]? = some d := hd
      rw [List.getElem?_append_right (Nat.le_refl _), Nat.sub_self] at hd'
      cases hd'
      rw [cc, if_pos rfl]
/-- a row into the last block -/
theorem HI.putPart (h : HI M L w S T rs f) (hr : rs[i]? = some r) (hf : f i = r.len / S.size) (hw : r.wd = none) (hl : r.len < (whole r).length) (hm : r.len % S.size ≠ 0) {bs0 : List Nat} {l : Nat} (he : r.bs = bs0 ++ [l]) :
    HI M L w (S.setK l (S.k l ++ [rowM M (rowsM M ((whole r).take r.len)) (whole r)[r.len]])) T (rs.set i { r with len := r.len + 1 }) f := by
  have R := h.req i r hr
  have s0 := h.s0
  have bl := R.bpart s0 hm
  have hl0 : bs0.length = f i := by
    rw [he, List.length_append] at bl
    simp at bl
    omega
  have hlast : r.bs[f i]? = some l := by rw [he, ← hl0, List.getElem?_append_right (Nat.le_refl _), Nat.sub_self]; rfl
  obtain ⟨n1, n2, n3⟩ := h.bsnd hr hlast
  have hlm : l < S.many := R.bl l (List.mem_of_getElem? hlast)
  have hbk : l < S.kept.length := by rw [h.lk]; exact hlm
  have nt := occT_zero n2
  generalize hS : S.setK l (S.k l ++ [rowM M (rowsM M ((whole r).take r.len)) (whole r)[r.len]]) = S'
  have esz : S'.size = S.size := by rw [← hS]; rfl
  have emn : S'.many = S.many := by rw [← hS]; rfl
  have cc : ∀ d, S'.c d = S.c d := fun d => by rw [← hS]; rfl
  have kk : ∀ d, S'.k d = if d = l then S.k l ++ [rowM M (rowsM M ((whole r).take r.len)) (whole r)[r.len]] else S.k d := fun d => by rw [← hS, StoreM.k_setK hbk]
  have eo : ∀ d, occR (rs.set i { r with len := r.len + 1 }) d = occR rs d := fun d => by
    have := occR_set d rs i r { r with len := r.len + 1 } hr
    exact Nat.add_right_cancel this
  have e2 := Nat.div_add_mod r.len S.size
  have e3 := Nat.mod_lt r.len s0
  rw [Nat.mul_comm, ← hf] at e2
  refine { net := h.net, s0 := by rw [esz]; exact s0, s8 := by rw [esz]; exact h.s8, m60 := by rw [emn]; exact h.m60, lc := by rw [emn, ← hS]; exact h.lc, lk := by rw [emn, ← hS]; exact (List.length_set ..).trans h.lk, cnt := fun d hd => ?_, zer := fun d hd hz => ?_, pnd := h.pnd, pmem := h.pmem, und := h.und, usd := h.usd, use := h.use, plen := by rw [esz]; exact h.plen, ppre := by rw [esz]; exact h.ppre, pblk := fun q hq => ?_, pinj := h.pinj, req := req_set (fun j x hx hj => ?_) ?_ }
  · rw [emn] at hd
    rw [cc, eo]
    exact h.cnt d hd
  · rw [emn] at hd
    rw [cc] at hz
    by_cases e : d = l
    · rw [e, R.la l hlast] at hz; cases hz
    · rw [kk, if_neg e]
      exact h.zer d hd hz
  · rw [emn, esz, kk, if_neg (nt q hq)]
    exact h.pblk q hq
  · refine (h.req j x hx).to esz emn (fun d hd => ?_) (fun d hd => ?_) fun q hq _ => ⟨hq, rfl⟩
    · rw [kk, if_neg (fun e => n3 j x hx hj (by rw [← e]; exact hd))]
    · rw [cc]
      exact id
  · have erow := take_succ_rows M (whole r) r.len hl
    have hrl : (rowsM M ((whole r).take r.len)).length = r.len := by rw [rowsM_len, List.length_take, Nat.min_eq_left R.le]
    refine { ask := R.ask, txt := R.txt, tl := R.tl, dn := fun z => (z hw).elim, le := hl, bl := fun d hd => by rw [emn]; exact R.bl d hd, n0 := ?_, n1 := ?_, ch := fun k d hk => ?_, f0 := R.f0, f1 := R.f1, fu := fun k hk => ?_, la := fun d hd => by rw [cc]; exact R.la d hd }
    · show r.len + 1 ≤ r.bs.length * S'.size
      rw [esz, bl, ← hf, Nat.succ_mul]
      omega
    · show r.bs.length * S'.size < r.len + 1 + S'.size
      rw [esz]
      have := R.n1
      omega
    · show S'.k d = ((rowsM M ((whole r).take (r.len + 1))).drop (k * S'.size)).take S'.size
      rw [esz, kk, erow]
      have hk' : r.bs[k]? = some d := hk
      by_cases hkf : k = f i
      · subst hkf
        rw [hlast] at hk'
        cases hk'
        have d1 : ((rowsM M ((whole r).take r.len)).drop (f i * S.size)).take S.size = (rowsM M ((whole r).take r.len)).drop (f i * S.size) := List.take_of_length_le (by rw [List.length_drop]; omega)
        rw [if_pos rfl, R.ch _ l hlast, List.drop_append_of_le_length (by omega), d1]
        exact (List.take_of_length_le (by rw [List.length_append, List.length_drop]; show _ + 1 ≤ _; omega)).symm
      · have hkl := (List.getElem?_eq_some_iff.mp hk').1
        have hklt : k < f i := by omega
        have hne : d ≠ l := fun e => by
          rw [e, he, List.getElem?_append_left (by omega)] at hk'
          have h1 := List.count_pos_iff.mpr (List.mem_of_getElem? hk')
          rw [he, List.count_append] at n1
          simp at n1
          omega
        rw [if_neg hne, R.ch k d hk']
        have hle : (k + 1) * S.size ≤ f i * S.size := Nat.mul_le_mul_right _ hklt
        rw [Nat.succ_mul] at hle
        rw [List.drop_append_of_le_length (by omega), List.take_append_of_le_length (by rw [List.length_drop]; omega)]
    · obtain ⟨x1, x2, x3⟩ := R.fu k hk
      rw [esz]
      exact ⟨Nat.le_succ_of_le x1, x2, x3⟩
end
end Sv
end
section
set_option autoImplicit false
set_option linter.all false
set_option maxRecDepth 100000
set_option maxHeartbeats 1000000
/-! The house in plain Lean: a full block goes into the tree, or is exchanged for the tree's; a known block is taken over. -/
namespace Sv
def fset (f : Nat → Nat) (i v : Nat) : Nat → Nat := fun j => if j = i then v else f j
theorem fset_same (f : Nat → Nat) (i v : Nat) : fset f i v i = v := if_pos rfl
theorem fset_ne (f : Nat → Nat) {i j : Nat} (v : Nat) (h : j ≠ i) : fset f i v j = f j := if_neg h
theorem begs_has {T : TreeM} {size : Nat} (hs : 1 ≤ size) {ls : Path} {c : Nat} (h : ∀ k, k < c → (k + 1) * size ≤ ls.length ∧ T.has (ls.take ((k + 1) * size)) = true) : c ≤ (T.begs size ls).length ∧ ∀ k, k < c → ls.take ((k + 1) * size) ∈ T.begs size ls := by
  have hc : c ≤ ls.length + 1 := by
    cases c with
    | zero => exact Nat.zero_le _
    | succ c =>
      have h1 := (h c (Nat.lt_succ_self _)).1
      have := Nat.le_mul_of_pos_right (c + 1) hs
      omega
  have h1 : c ≤ (begM T.has size ls (ls.length + 1) (1 * size)).length := begM_long T.has size hs ls (ls.length + 1) 1 c (fun i hi => by rw [Nat.add_comm 1 i]; exact h i hi) hc
  have h2 := begM_spec T.has size hs ls (ls.length + 1) 1
  rw [Nat.one_mul] at h1 h2
  refine ⟨h1, fun k hk => ?_⟩
  show _ ∈ begM _ _ _ _ _
  rw [h2]
  exact List.mem_map.mpr ⟨k, List.mem_range.mpr (by omega), by rw [Nat.add_comm 1 k]⟩
theorem begs_last {T : TreeM} {size : Nat} (hs : 1 ≤ size) {ls q : Path} {xs : List Path} (h : T.begs size ls = xs ++ [q]) (hl : ls.length ≤ (T.begs size ls).length * size) : q = ls ∧ ls.length = (T.begs size ls).length * size := by
  have h2 := begM_spec T.has size hs ls (ls.length + 1) 1
  rw [Nat.one_mul] at h2
  have h3 := begM_fits T.has size ls (ls.length + 1) size
  have e : begM T.has size ls (ls.length + 1) size = xs ++ [q] := h
  have hl' : ls.length ≤ (begM T.has size ls (ls.length + 1) size).length * size := hl
  have hlen : (T.begs size ls).length = (begM T.has size ls (ls.length + 1) size).length := rfl
  rw [hlen]
  generalize begM T.has size ls (ls.length + 1) size = g at h2 h3 e hl'
  have hg : g.length = xs.length + 1 := by rw [e, List.length_append]; rfl
  have h4 := h3 xs.length (by omega)
  have hm : g.length * size = xs.length * size + size := by rw [hg, Nat.succ_mul]
  have h5 : ls.length = g.length * size := by omega
  have h6 : g[xs.length]? = some q := by rw [e, List.getElem?_append_right (Nat.le_refl _), Nat.sub_self]; rfl
  rw [h2, List.getElem?_map, List.getElem?_range (by omega)] at h6
  have h7 := Option.some.inj h6
  refine ⟨?_, h5⟩
  rw [← h7]
  show ls.take ((1 + xs.length) * size) = ls
  rw [Nat.add_comm, ← hg, ← h5, List.take_length]
section
variable {M : NetM} {L w : Nat} {S : StoreM} {T : TreeM} {rs : List ReqM} {f : Nat → Nat} {i : Nat} {r : ReqM}
theorem take_take_le {α : Type} (l : List α) {a b : Nat} (h : a ≤ b) : (l.take b).take a = l.take a := by rw [List.take_take, Nat.min_eq_left h]
/-- the last full block is put under its path -/
theorem HI.ins (h : HI M L w S T rs f) (hr : rs[i]? = some r) (hl : r.len = (f i + 1) * S.size) {b : Nat} (hb : r.bs[f i]? = some b) (hp : (whole r).take r.len ∉ T.paths) {ps : List Path} (hps : ps.Perm (T.paths ++ [(whole r).take r.len])) :
    HI M L w (S.setC b 2) ((T.ins ((whole r).take r.len) b ps).use ((T.ins ((whole r).take r.len) b ps).begs S.size ((whole r).take r.len))) rs (fset f i (f i + 1)) := by
  have R := h.req i r hr
  have s0 := h.s0
  have hbm : b < S.many := R.bl b (List.mem_of_getElem? hb)
  have hbc : b < S.cts.length := by rw [h.lc]; exact hbm
  have c1 := R.la b hb
  obtain ⟨n1, n2, n3⟩ := h.bsnd hr hb
  have nt := occT_zero n2
  have hlen : ((whole r).take r.len).length = r.len := by rw [List.length_take, Nat.min_eq_left R.le]
  generalize hpe : (whole r).take r.len = p at hp hps hlen ⊢
  have hget : ∀ q, aget (T.ins p b ps).under q = if q = p then some b else aget T.under q := fun q => aget_put _ _ _ _
  have hhas : ∀ q, (T.ins p b ps).has q = (decide (q = p) || T.has q) := fun q => by
    unfold TreeM.has
    rw [hget]
    by_cases e : q = p <;> simp [e]
  have hblk : ∀ q, q ≠ p → (T.ins p b ps).blk q = T.blk q := fun q hq => by
    unfold TreeM.blk
    rw [hget, if_neg hq]
  have hblkp : (T.ins p b ps).blk p = b := by
    unfold TreeM.blk
    rw [hget, if_pos rfl]
    rfl
  have hmem : ∀ q, q ∈ ps ↔ q ∈ T.paths ∨ q = p := fun q => by rw [hps.mem_iff]; simp
  have hpb : p ∈ (T.ins p b ps).begs S.size p := by
    have := (begs_has (T := T.ins p b ps) (size := S.size) s0 (ls := p) (c := f i + 1) fun k hk => ?_).2 (f i) (Nat.lt_succ_self _)
    · rw [← hl, ← hlen, List.take_length] at this
      exact this
    · have hk1 : (k + 1) * S.size ≤ (f i + 1) * S.size := Nat.mul_le_mul_right _ hk
      rw [hlen, hl]
      refine ⟨hk1, ?_⟩
      rw [hhas]
      by_cases e : k = f i
      · rw [e, ← hl, ← hlen, List.take_length]
        simp
      · have hkf : k < f i := by omega
        have := (h.pmem _).mp (R.fu k hkf).2.1
        rw [← hpe, take_take_le _ (by rw [hl]; exact hk1), this]
        simp
  have hbs : ∀ q ∈ (T.ins p b ps).begs S.size p, (T.ins p b ps).has q = true := fun q hq => begM_has _ _ _ _ _ q hq
  have cc : ∀ d, (S.setC b 2).c d = if d = b then 2 else S.c d := fun d => StoreM.c_setC hbc d
  have ot : ∀ d, occT ((T.ins p b ps).use ((T.ins p b ps).begs S.size p)) d = occT T d + (if d = b then 1 else 0) := fun d => by
    show ps.countP (fun q => decide ((T.ins p b ps).blk q = d)) = _
    rw [hps.countP_eq, List.countP_append]
    congr 1
    · refine List.countP_congr fun q hq => ?_
      rw [hblk q (fun e => hp (by rw [← e]; exact hq))]
    · rw [List.countP_singleton, hblkp]
      by_cases e : d = b
      · simp [e]
      · have : ¬ b = d := fun z => e z.symm
        simp [e, this]
  refine { net := h.net, s0 := s0, s8 := h.s8, m60 := h.m60, lc := (List.length_set ..).trans h.lc, lk := h.lk, cnt := fun d hd => ?_, zer := fun d hd hz => ?_, pnd := ?_, pmem := fun q => ?_, und := aput_keys h.und _ _, usd := fold_keys _ _ _ h.usd, use := fun q => ?_, plen := fun q hq => ?_, ppre := fun q hq m m0 hm => ?_, pblk := fun q hq => ?_, pinj := fun q hq q' hq' e => ?_, req := fun j x hx => ?_ }
  · rw [cc, ot]
    have := h.cnt d hd
    by_cases e : d = b
    · subst e
      rw [if_pos rfl, if_pos rfl]
      omega
    · rw [if_neg e, if_neg e]
      omega
  · rw [cc] at hz
    by_cases e : d = b
    · rw [if_pos e] at hz; cases hz
    · rw [if_neg e] at hz
      exact h.zer d hd hz
  · show ps.Nodup
    rw [hps.nodup_iff]
    refine List.nodup_append.mpr ⟨h.pnd, by simp, fun a ha c hc e => ?_⟩
    rw [List.mem_singleton.mp hc] at e
    exact hp (by rw [← e]; exact ha)
  · show q ∈ ps ↔ (T.ins p b ps).has q = true
    rw [hmem, hhas, h.pmem]
    by_cases e : q = p <;> simp [e]
  · show (aget (((T.ins p b ps).begs S.size p).foldl _ T.used) q).isSome = (T.ins p b ps).has q
    rw [fold_get, h.use, hhas]
    by_cases e : q = p
    · subst e
      simp [hpb]
    · have hq := hbs q
      rw [hhas] at hq
      have hd : decide (q = p) = false := decide_eq_false e
      rw [hd] at hq ⊢
      by_cases hm : q ∈ (T.ins p b ps).begs S.size p
      · have := hq hm
        simp at this
        simp [this]
      · simp [hm]
  · rcases (hmem q).mp hq with hq | rfl
    · exact h.plen q hq
    · exact ⟨f i + 1, Nat.succ_pos _, by rw [hlen, hl]; rfl⟩
  · show q.take (m * S.size) ∈ ps
    have hm' : m * S.size ≤ q.length := hm
    rcases (hmem q).mp hq with hq | e
    · exact (hmem _).mpr (.inl (h.ppre q hq m m0 hm'))
    · rw [e] at hm' ⊢
      rw [hlen, hl] at hm'
      have hmf := Nat.le_of_mul_le_mul_right hm' s0
      by_cases z : m = f i + 1
      · refine (hmem _).mpr (.inr ?_)
        rw [z, ← hl, ← hlen, List.take_length]
      · obtain ⟨k, rfl⟩ : ∃ k, m = k + 1 := ⟨m - 1, by omega⟩
        refine (hmem _).mpr (.inl ?_)
        rw [← hpe, take_take_le _ (by rw [hl]; exact hm')]
        exact (R.fu k (by omega)).2.1
  · show (T.ins p b ps).blk q < S.many ∧ S.k ((T.ins p b ps).blk q) = _
    by_cases e : q = p
    · rw [e, hblkp]
      refine ⟨hbm, ?_⟩
      rw [R.ch _ b hb, hpe, hlen, hl, Nat.succ_mul, show (S.setC b 2).size = S.size from rfl, Nat.add_sub_cancel]
      exact List.take_of_length_le (by rw [List.length_drop, rowsM_len, hlen, hl, Nat.succ_mul]; omega)
    · rw [hblk q e]
      rcases (hmem q).mp hq with hq | z
      · exact h.pblk q hq
      · exact (e z).elim
  · have e' : (T.ins p b ps).blk q = (T.ins p b ps).blk q' := e
    rcases (hmem q).mp hq with hq | z <;> rcases (hmem q').mp hq' with hq' | z'
    · rw [hblk q (fun z => hp (by rw [← z]; exact hq)), hblk q' (fun z => hp (by rw [← z]; exact hq'))] at e'
      exact h.pinj q hq q' hq' e'
    · rw [z', hblkp, hblk q (fun z => hp (by rw [← z]; exact hq))] at e'
      exact (nt q hq e').elim
    · rw [z, hblkp, hblk q' (fun z => hp (by rw [← z]; exact hq'))] at e'
      exact (nt q' hq' e'.symm).elim
    · rw [z, z']
  · by_cases e : j = i
    · subst e
      rw [hr] at hx
      cases hx
      rw [fset_same]
      have b2 : r.bs.length = f j + 1 := by
        have := (List.getElem?_eq_some_iff.mp hb).1
        have := R.f1
        omega
      refine { ask := R.ask, txt := R.txt, tl := R.tl, dn := R.dn, le := R.le, bl := R.bl, n0 := R.n0, n1 := R.n1, ch := R.ch, f0 := by omega, f1 := by omega, fu := fun k hk => ?_, la := fun d hd => ?_ }
      · by_cases z : k = f j
        · subst z
          refine ⟨by rw [hl]; exact Nat.le_refl _, ?_, ?_⟩
          · show (whole r).take ((f j + 1) * S.size) ∈ ps
            rw [← hl, hpe]
            exact (hmem p).mpr (.inr rfl)
          · show r.bs[f j]? = some ((T.ins p b ps).blk ((whole r).take ((f j + 1) * S.size)))
            rw [← hl, hpe, hblkp]
            exact hb
        · obtain ⟨x1, x2, x3⟩ := R.fu k (by omega)
          refine ⟨x1, (hmem _).mpr (.inl x2), ?_⟩
          show _ = some ((T.ins p b ps).blk _)
          rw [hblk _ (fun z => hp (by rw [← z]; exact x2))]
          exact x3
      · have := (List.getElem?_eq_some_iff.mp hd).1
        omega
    · rw [fset_ne _ _ e]
      refine (h.req j x hx).to rfl rfl (fun _ _ => rfl) (fun d hd => ?_) fun q hq _ => ⟨(hmem q).mpr (.inl hq), hblk q (fun z => hp (by rw [← z]; exact hq))⟩
      rw [cc, if_neg (fun z => n3 j x hx e (by rw [← z]; exact hd))]
      exact id
end
end Sv
end
section
set_option autoImplicit false
set_option linter.all false
set_option maxRecDepth 100000
set_option maxHeartbeats 1000000
/-! The house in plain Lean: a block exchanged for the tree's, a block taken over, a text written, a request ended, a new request. -/
namespace Sv
section
variable {M : NetM} {L w : Nat} {S : StoreM} {T : TreeM} {rs : List ReqM} {f : Nat → Nat} {i : Nat} {r : ReqM}
theorem HI.exch (h : HI M L w S T rs f) (hr : rs[i]? = some r) (hw : r.wd = none) (hl : r.len = (f i + 1) * S.size) {b : Nat} {bs0 : List Nat} (he : r.bs = bs0 ++ [b]) (h0 : bs0.length = f i) (hp : (whole r).take r.len ∈ T.paths) :
    T.blk ((whole r).take r.len) ≠ b ∧ HI M L w ((S.setC (T.blk ((whole r).take r.len)) (S.c (T.blk ((whole r).take r.len)) + 1)).rel b 1) T (rs.set i { r with bs := bs0 ++ [T.blk ((whole r).take r.len)] }) (fset f i (f i + 1)) := by
  have R := h.req i r hr
  have s0 := h.s0
  have hb : r.bs[f i]? = some b := by rw [he, ← h0, List.getElem?_append_right (Nat.le_refl _), Nat.sub_self]; rfl
  have hbm : b < S.many := R.bl b (List.mem_of_getElem? hb)
  have hbc : b < S.cts.length := by rw [h.lc]; exact hbm
  have hbk : b < S.kept.length := by rw [h.lk]; exact hbm
  have c1 := R.la b hb
  obtain ⟨n1, n2, n3⟩ := h.bsnd hr hb
  have nt := occT_zero n2
  have hlen : ((whole r).take r.len).length = r.len := by rw [List.length_take, Nat.min_eq_left R.le]
  obtain ⟨p1, p2⟩ := h.pblk _ hp
  have hne := nt _ hp
  have hp0 := h.tpos hp
  generalize hg : T.blk ((whole r).take r.len) = g at p1 p2 hne hp0 ⊢
  have hgc : g < S.cts.length := by rw [h.lc]; exact p1
  refine ⟨hne, ?_⟩
  have hb0 : b ∉ bs0 := fun hm => by
    have h1 := List.count_pos_iff.mpr hm
    rw [he, List.count_append] at n1
    simp at n1
    omega
  generalize hS : (S.setC g (S.c g + 1)).rel b 1 = S'
  have esz : S'.size = S.size := by rw [← hS, StoreM.rel_size]; rfl
  have emn : S'.many = S.many := by rw [← hS, StoreM.rel_many]; rfl
  have cc : ∀ d, S'.c d = if d = b then 0 else if d = g then S.c g + 1 else S.c d := fun d => by
    rw [← hS, StoreM.c_rel (by rw [show (S.setC g (S.c g + 1)).cts.length = S.cts.length from List.length_set ..]; exact hbc) Nat.one_pos, StoreM.c_setC hgc]
  have kk : ∀ d, S'.k d = if d = b then [] else S.k d := fun d => by
    rw [← hS, StoreM.k_rel (by exact hbk), StoreM.k_setC]
    by_cases e : d = b <;> simp [e]
  have eo : ∀ d, occR (rs.set i { r with bs := bs0 ++ [g] }) d + (if d = b then 1 else 0) = occR rs d + (if d = g then 1 else 0) := fun d => by
    have := occR_set d rs i r { r with bs := bs0 ++ [g] } hr
    simp only [he, List.count_append, List.count_singleton] at this
    by_cases e1 : d = b
    · have e2 : ¬ d = g := fun z => hne (by rw [← z, e1])
      have x1 : (b == d) = true := by simpa using e1.symm
      have x2 : (g == d) = false := by simpa using fun z => e2 z.symm
      rw [x1, x2] at this
      rw [if_pos e1, if_neg e2]
      simp at this
      omega
    · have x1 : (b == d) = false := by simpa using fun z => e1 z.symm
      rw [x1] at this
      rw [if_neg e1]
      by_cases e2 : d = g
      · have x2 : (g == d) = true := by simpa using e2.symm
        rw [x2] at this
        rw [if_pos e2]
        simp at this
        omega
      · have x2 : (g == d) = false := by simpa using fun z => e2 z.symm
        rw [x2] at this
        rw [if_neg e2]
        simp at this
        omega
  refine { net := h.net, s0 := by rw [esz]; exact s0, s8 := by rw [esz]; exact h.s8, m60 := by rw [emn]; exact h.m60, lc := by rw [emn, ← hS, StoreM.rel_lc]; exact (List.length_set ..).trans h.lc, lk := by rw [emn, ← hS, StoreM.rel_lk]; exact h.lk, cnt := fun d hd => ?_, zer := fun d hd hz => ?_, pnd := h.pnd, pmem := h.pmem, und := h.und, usd := h.usd, use := h.use, plen := by rw [esz]; exact h.plen, ppre := by rw [esz]; exact h.ppre, pblk := fun q hq => ?_, pinj := h.pinj, req := req_set (fun j x hx hj => ?_) ?_ }
  · rw [emn] at hd
    have h1 := eo d
    have h2 := h.cnt d hd
    rw [cc]
    by_cases e1 : d = b
    · have e2 : ¬ d = g := fun z => hne (by rw [← z, e1])
      rw [if_pos e1] at h1 ⊢
      rw [if_neg e2] at h1
      rw [e1] at h1 h2 ⊢
      omega
    · rw [if_neg e1] at h1 ⊢
      by_cases e2 : d = g
      · rw [if_pos e2] at h1 ⊢
        rw [e2] at h1 h2 ⊢
        omega
      · rw [if_neg e2] at h1 ⊢
        omega
  · rw [emn] at hd
    rw [cc] at hz
    rw [kk]
    by_cases e1 : d = b
    · rw [if_pos e1]
    · rw [if_neg e1] at hz ⊢
      by_cases e2 : d = g
      · rw [if_pos e2] at hz; cases hz
      · rw [if_neg e2] at hz
        exact h.zer d hd hz
  · rw [emn, esz, kk, if_neg (nt q hq)]
    exact h.pblk q hq
  · rw [fset_ne _ _ hj]
    refine (h.req j x hx).to esz emn (fun d hd => ?_) (fun d hd h1 => ?_) fun q hq _ => ⟨hq, rfl⟩
    · rw [kk, if_neg (fun e => n3 j x hx hj (by rw [← e]; exact hd))]
    · rw [cc, if_neg (fun e => n3 j x hx hj (by rw [← e]; exact hd))]
      by_cases e2 : d = g
      · exfalso
        have hm : d < S.many := (h.req j x hx).bl d hd
        have h2 := h.cnt d hm
        have h3 := occR_le d rs j x hx
        have h4 := List.count_pos_iff.mpr hd
        have h5 := occT_pos hp
        rw [hg, ← e2] at h5
        omega
      · rw [if_neg e2]
        exact h1
  · rw [fset_same]
    have hbl : r.bs.length = bs0.length + 1 := by rw [he, List.length_append]; rfl
    refine { ask := R.ask, txt := R.txt, tl := R.tl, dn := fun z => (z hw).elim, le := R.le, bl := fun d hd => ?_, n0 := ?_, n1 := ?_, ch := fun k d hk => ?_, f0 := ?_, f1 := ?_, fu := fun k hk => ?_, la := fun d hd => ?_ }
    · rw [emn]
      rcases List.mem_append.mp hd with hd | hd
      · exact R.bl d (by rw [he]; exact List.mem_append_left _ hd)
      · rw [List.mem_singleton.mp hd]; exact p1
    · show r.len ≤ (bs0 ++ [g]).length * S'.size
      rw [esz, List.length_append]
      have := R.n0
      rw [hbl] at this
      exact this
    · show (bs0 ++ [g]).length * S'.size < r.len + S'.size
      rw [esz, List.length_append]
      have := R.n1
      rw [hbl] at this
      exact this
    · show S'.k d = ((rowsM M ((whole r).take r.len)).drop (k * S'.size)).take S'.size
      have hk' : (bs0 ++ [g])[k]? = some d := hk
      rw [esz, kk]
      by_cases hkl : k < bs0.length
      · rw [List.getElem?_append_left hkl] at hk'
        have hne' : d ≠ b := fun e => hb0 (by rw [← e]; exact List.mem_of_getElem? hk')
        rw [if_neg hne']
        exact R.ch k d (by rw [he, List.getElem?_append_left hkl]; exact hk')
      · have hk2 := (List.getElem?_eq_some_iff.mp hk').1
        rw [List.length_append] at hk2
        have ek : k = bs0.length := by
          have : k < bs0.length + 1 := hk2
          omega
        subst ek
        rw [List.getElem?_append_right (Nat.le_refl _), Nat.sub_self] at hk'
        cases hk'
        rw [if_neg hne, p2, hlen, hl, h0, Nat.succ_mul, Nat.add_sub_cancel]
        refine (List.take_of_length_le ?_).symm
        rw [List.length_drop, rowsM_len, List.length_take, ← Nat.succ_mul, ← hl, Nat.min_eq_left R.le, hl, Nat.succ_mul]
        omega
    · show f i + 1 ≤ (bs0 ++ [g]).length
      rw [List.length_append, h0]
      exact Nat.le_refl _
    · show (bs0 ++ [g]).length ≤ f i + 1 + 1
      rw [List.length_append, h0]
      exact Nat.le_succ _
    · show (k + 1) * S'.size ≤ r.len ∧ (whole r).take ((k + 1) * S'.size) ∈ T.paths ∧ (bs0 ++ [g])[k]? = some (T.blk ((whole r).take ((k + 1) * S'.size)))
      rw [esz]
      by_cases z : k = f i
      · rw [z, ← hl]
        refine ⟨Nat.le_refl _, hp, ?_⟩
        rw [← h0, List.getElem?_append_right (Nat.le_refl _), Nat.sub_self, hg]
        rfl
      · obtain ⟨x1, x2, x3⟩ := R.fu k (by omega)
        refine ⟨x1, x2, ?_⟩
        rw [he, List.getElem?_append_left (by omega)] at x3
        rw [List.getElem?_append_left (by omega)]
        exact x3
    · have := (List.getElem?_eq_some_iff.mp (show (bs0 ++ [g])[f i + 1]? = some d from hd)).1
      rw [List.length_append, h0] at this
      exact absurd this (Nat.lt_irrefl _)
theorem HI.known (h : HI M L w S T rs f) (hr : rs[i]? = some r) (hf : f i = r.len / S.size) (hw : r.wd = none) (hm : r.len % S.size = 0) (hle : r.len + S.size ≤ (whole r).length) (hp : (whole r).take (r.len + S.size) ∈ T.paths) :
    HI M L w (S.setC (T.blk ((whole r).take (r.len + S.size))) (S.c (T.blk ((whole r).take (r.len + S.size))) + 1)) T (rs.set i { r with bs := r.bs ++ [T.blk ((whole r).take (r.len + S.size))], len := r.len + S.size }) (fset f i (f i + 1)) := by
  have R := h.req i r hr
  have s0 := h.s0
  obtain ⟨bl1, bl2⟩ := R.bfull s0 hm
  obtain ⟨p1, p2⟩ := h.pblk _ hp
  have hlen : ((whole r).take (r.len + S.size)).length = r.len + S.size := by rw [List.length_take, Nat.min_eq_left hle]
  have h5 := occT_pos hp
  generalize hg : T.blk ((whole r).take (r.len + S.size)) = g at p1 p2 h5 ⊢
  have hgc : g < S.cts.length := by rw [h.lc]; exact p1
  have cc : ∀ d, (S.setC g (S.c g + 1)).c d = if d = g then S.c g + 1 else S.c d := fun d => StoreM.c_setC hgc d
  have eo : ∀ d, occR (rs.set i { r with bs := r.bs ++ [g], len := r.len + S.size }) d = occR rs d + (if d = g then 1 else 0) := fun d => by
    have := occR_set d rs i r { r with bs := r.bs ++ [g], len := r.len + S.size } hr
    simp only [List.count_append, List.count_singleton] at this
    by_cases e2 : d = g
    · have x2 : (g == d) = true := by simpa using e2.symm
      rw [x2] at this
      rw [if_pos e2]
      simp at this
      omega
    · have x2 : (g == d) = false := by simpa using fun z => e2 z.symm
      rw [x2] at this
      rw [if_neg e2]
      simp at this
      omega
  refine { net := h.net, s0 := s0, s8 := h.s8, m60 := h.m60, lc := (List.length_set ..).trans h.lc, lk := h.lk, cnt := fun d hd => ?_, zer := fun d hd hz => ?_, pnd := h.pnd, pmem := h.pmem, und := h.und, usd := h.usd, use := h.use, plen := h.plen, ppre := h.ppre, pblk := h.pblk, pinj := h.pinj, req := req_set (fun j x hx hj => ?_) ?_ }
  · have h2 := h.cnt d hd
    rw [cc, eo]
    by_cases e2 : d = g
    · rw [if_pos e2, if_pos e2, e2]
      rw [e2] at h2
      omega
    · rw [if_neg e2, if_neg e2]
      exact h2
  · rw [cc] at hz
    by_cases e2 : d = g
    · rw [if_pos e2] at hz; cases hz
    · rw [if_neg e2] at hz
      exact h.zer d hd hz
  · rw [fset_ne _ _ hj]
    refine (h.req j x hx).to rfl rfl (fun d hd => rfl) (fun d hd h1 => ?_) fun q hq _ => ⟨hq, rfl⟩
    rw [cc]
    by_cases e2 : d = g
    · exfalso
      have h2 := h.cnt d ((h.req j x hx).bl d hd)
      have h3 := occR_le d rs j x hx
      have h4 := List.count_pos_iff.mpr hd
      rw [← e2] at h5
      omega
    · rw [if_neg e2]
      exact h1
  · rw [fset_same]
    have hrl : ∀ n, n ≤ (whole r).length → (rowsM M ((whole r).take n)).length = n := fun n hn => by rw [rowsM_len, List.length_take, Nat.min_eq_left hn]
    have epre : rowsM M ((whole r).take r.len) = (rowsM M ((whole r).take (r.len + S.size))).take r.len := by rw [← rowsM_take, take_take_le _ (Nat.le_add_right _ _)]
    refine { ask := R.ask, txt := R.txt, tl := R.tl, dn := fun z => (z hw).elim, le := hle, bl := fun d hd => ?_, n0 := ?_, n1 := ?_, ch := fun k d hk => ?_, f0 := ?_, f1 := ?_, fu := fun k hk => ?_, la := fun d hd => ?_ }
    · rcases List.mem_append.mp hd with hd | hd
      · exact R.bl d hd
      · rw [List.mem_singleton.mp hd]; exact p1
    · show r.len + S.size ≤ (r.bs ++ [g]).length * S.size
      rw [List.length_append]
      show _ ≤ (r.bs.length + 1) * S.size
      rw [Nat.succ_mul, bl2]
      exact Nat.le_refl _
    · show (r.bs ++ [g]).length * S.size < r.len + S.size + S.size
      rw [List.length_append]
      show (r.bs.length + 1) * S.size < _
      rw [Nat.succ_mul, bl2]
      omega
    · show S.k d = ((rowsM M ((whole r).take (r.len + S.size))).drop (k * S.size)).take S.size
      have hk' : (r.bs ++ [g])[k]? = some d := hk
      by_cases hkl : k < r.bs.length
      · rw [List.getElem?_append_left hkl] at hk'
        rw [R.ch k d hk', epre]
        have hle2 : (k + 1) * S.size ≤ r.len := by rw [← bl2]; exact Nat.mul_le_mul_right _ hkl
        rw [Nat.succ_mul] at hle2
        rw [List.drop_take, List.take_take, Nat.min_eq_left (by omega)]
      · have hk2 := (List.getElem?_eq_some_iff.mp hk').1
        rw [List.length_append] at hk2
        have ek : k = r.bs.length := by
          have : k < r.bs.length + 1 := hk2
          omega
        subst ek
        rw [List.getElem?_append_right (Nat.le_refl _), Nat.sub_self] at hk'
        cases hk'
        rw [p2, hlen, bl2, Nat.add_sub_cancel]
        refine (List.take_of_length_le ?_).symm
        rw [List.length_drop, hrl _ hle]
        omega
    · show f i + 1 ≤ (r.bs ++ [g]).length
      rw [List.length_append, hf, bl1]
      exact Nat.le_refl _
    · show (r.bs ++ [g]).length ≤ f i + 1 + 1
      rw [List.length_append, hf, bl1]
      exact Nat.le_succ _
    · show (k + 1) * S.size ≤ r.len + S.size ∧ (whole r).take ((k + 1) * S.size) ∈ T.paths ∧ (r.bs ++ [g])[k]? = some (T.blk ((whole r).take ((k + 1) * S.size)))
      by_cases z : k = f i
      · have e1 : (k + 1) * S.size = r.len + S.size := by rw [z, Nat.succ_mul, hf, ← bl1, bl2]
        rw [e1]
        refine ⟨Nat.le_refl _, hp, ?_⟩
        rw [z, hf, ← bl1, List.getElem?_append_right (Nat.le_refl _), Nat.sub_self, hg]
        rfl
      · obtain ⟨x1, x2, x3⟩ := R.fu k (by omega)
        refine ⟨by omega, x2, ?_⟩
        rw [List.getElem?_append_left (by rw [bl1, ← hf]; omega)]
        exact x3
    · have := (List.getElem?_eq_some_iff.mp (show (r.bs ++ [g])[f i + 1]? = some d from hd)).1
      rw [List.length_append, hf, bl1] at this
      exact absurd this (Nat.lt_irrefl _)
/-- a text grows (or a request that holds nothing changes) -/
theorem HI.write (h : HI M L w S T rs f) (hr : rs[i]? = some r) {r' : ReqM} (e1 : r'.ask = r.ask) (e2 : r'.bs = r.bs) (e3 : r'.len = r.len) (hd : r'.wd ≠ none → r.bs = [] ∧ r.len = 0) (hx : ∀ n, n ≤ r.len → (whole r').take n = (whole r).take n) (hle : r.len ≤ (whole r').length)
    (ht : ∀ x ∈ r'.text, 0 ≤ x ∧ x < (L : Int)) (htl : r'.text.length ≤ 8) : HI M L w S T (rs.set i r') f := by
  have R := h.req i r hr
  have eo : ∀ d, occR (rs.set i r') d = occR rs d := fun d => by
    have := occR_set d rs i r r' hr
    rw [e2] at this
    exact Nat.add_right_cancel this
  exact { net := h.net, s0 := h.s0, s8 := h.s8, m60 := h.m60, lc := h.lc, lk := h.lk, cnt := fun d hd => by rw [eo]; exact h.cnt d hd, zer := h.zer, pnd := h.pnd, pmem := h.pmem, und := h.und, usd := h.usd, use := h.use, plen := h.plen, ppre := h.ppre, pblk := h.pblk, pinj := h.pinj
          req := req_set (fun j x hx hj => h.req j x hx) { ask := by rw [e1]; exact R.ask, txt := ht, tl := htl, dn := by rw [e2, e3]; exact hd, le := by rw [e3]; exact hle, bl := by rw [e2]; exact R.bl, n0 := by rw [e2, e3]; exact R.n0, n1 := by rw [e2, e3]; exact R.n1
                                                           ch := by rw [e2, e3, hx _ (Nat.le_refl _)]; exact R.ch, f0 := by rw [e2]; exact R.f0, f1 := by rw [e2]; exact R.f1, la := by rw [e2]; exact R.la
                                                           fu := fun k hk => by
                                                             obtain ⟨x1, x2, x3⟩ := R.fu k hk
                                                             rw [e2, e3, hx _ x1]
                                                             exact ⟨x1, x2, x3⟩ } }
/-- the last block is given back -/
theorem HI.pop (h : HI M L w S T rs f) (hr : rs[i]? = some r) (hw : r.wd = none) {b : Nat} {bs0 : List Nat} (he : r.bs = bs0 ++ [b]) :
    S.cts[b]? = some (S.c b) ∧ 0 < S.c b ∧ HI M L w (S.rel b (S.c b)) T (rs.set i { r with bs := bs0, len := bs0.length * S.size }) (fset f i bs0.length) := by
  have R := h.req i r hr
  have s0 := h.s0
  have hbr : b ∈ r.bs := by rw [he]; simp
  have hbm : b < S.many := R.bl b hbr
  have hbc : b < S.cts.length := by rw [h.lc]; exact hbm
  have hbk : b < S.kept.length := by rw [h.lk]; exact hbm
  have cn := h.cnt b hbm
  have h3 := occR_le b rs i r hr
  have hcb : r.bs.count b = bs0.count b + 1 := by rw [he, List.count_append]; simp
  have hpos : 0 < S.c b := by omega
  refine ⟨StoreM.at_c hbc, hpos, ?_⟩
  have hbl : r.bs.length = bs0.length + 1 := by rw [he, List.length_append]; rfl
  have hfb : bs0.length ≤ f i := by have := R.f1; omega
  have hfl : bs0.length * S.size ≤ r.len := by
    have := R.n1
    rw [hbl, Nat.succ_mul] at this
    omega
  generalize hS : S.rel b (S.c b) = S'
  have esz : S'.size = S.size := by rw [← hS, StoreM.rel_size]
  have emn : S'.many = S.many := by rw [← hS, StoreM.rel_many]
  have cc : ∀ d, S'.c d = if d = b then S.c b - 1 else S.c d := fun d => by rw [← hS, StoreM.c_rel hbc hpos]
  have kk : ∀ d, S'.k d = if d = b ∧ S.c b = 1 then [] else S.k d := fun d => by rw [← hS, StoreM.k_rel hbk]
  have eo : ∀ d, occR (rs.set i { r with bs := bs0, len := bs0.length * S.size }) d + (if d = b then 1 else 0) = occR rs d := fun d => by
    have := occR_set d rs i r { r with bs := bs0, len := bs0.length * S.size } hr
    simp only [he, List.count_append, List.count_singleton] at this
    by_cases e1 : d = b
    · have x1 : (b == d) = true := by simpa using e1.symm
      rw [x1] at this
      rw [if_pos e1]
      simp at this
      omega
    · have x1 : (b == d) = false := by simpa using fun z => e1 z.symm
      rw [x1] at this
      rw [if_neg e1]
      simp at this
      omega
  refine { net := h.net, s0 := by rw [esz]; exact s0, s8 := by rw [esz]; exact h.s8, m60 := by rw [emn]; exact h.m60, lc := by rw [emn, ← hS, StoreM.rel_lc]; exact h.lc, lk := by rw [emn, ← hS, StoreM.rel_lk]; exact h.lk, cnt := fun d hd => ?_, zer := fun d hd hz => ?_, pnd := h.pnd, pmem := h.pmem, und := h.und, usd := h.usd, use := h.use, plen := by rw [esz]; exact h.plen, ppre := by rw [esz]; exact h.ppre, pblk := fun q hq => ?_, pinj := h.pinj, req := req_set (fun j x hx hj => ?_) ?_ }
  · rw [emn] at hd
    have h1 := eo d
    have h2 := h.cnt d hd
    rw [cc]
    by_cases e1 : d = b
    · rw [if_pos e1] at h1 ⊢
      rw [e1] at h1 h2 ⊢
      omega
    · rw [if_neg e1] at h1 ⊢
      omega
  · rw [emn] at hd
    rw [cc] at hz
    rw [kk]
    by_cases e1 : d = b
    · rw [if_pos e1] at hz
      rw [if_pos ⟨e1, by omega⟩]
    · rw [if_neg e1] at hz
      rw [if_neg (fun z => e1 z.1)]
      exact h.zer d hd hz
  · rw [emn, esz, kk, if_neg]
    · exact h.pblk q hq
    · rintro ⟨z1, z2⟩
      have := occT_pos hq
      rw [z1] at this
      omega
  · rw [fset_ne _ _ hj]
    have two : ∀ d ∈ x.bs, d = b → 2 ≤ S.c b := fun d hd e => by
      have h4 := occR_two b rs i j r x hr hx (Ne.symm hj)
      have h5 := List.count_pos_iff.mpr (by rw [← e]; exact hd : b ∈ x.bs)
      omega
    refine (h.req j x hx).to esz emn (fun d hd => ?_) (fun d hd h1 => ?_) fun q hq _ => ⟨hq, rfl⟩
    · rw [kk, if_neg]
      rintro ⟨z1, z2⟩
      have := two d hd z1
      omega
    · rw [cc, if_neg]
      · exact h1
      · intro z
        have := two d hd z
        rw [z] at h1
        omega
  · rw [fset_same]
    have epre : rowsM M ((whole r).take (bs0.length * S.size)) = (rowsM M ((whole r).take r.len)).take (bs0.length * S.size) := by rw [← rowsM_take, take_take_le _ hfl]
    refine { ask := R.ask, txt := R.txt, tl := R.tl, dn := fun z => (z hw).elim, le := Nat.le_trans hfl R.le, bl := fun d hd => by rw [emn]; exact R.bl d (by rw [he]; exact List.mem_append_left _ hd), n0 := by rw [esz]; exact Nat.le_refl _, n1 := by rw [esz]; show bs0.length * S.size < bs0.length * S.size + S.size; omega, ch := fun k d hk => ?_, f0 := Nat.le_refl _, f1 := Nat.le_succ _, fu := fun k hk => ?_, la := fun d hd => ?_ }
    · show S'.k d = ((rowsM M ((whole r).take (bs0.length * S.size))).drop (k * S'.size)).take S'.size
      have hk' : bs0[k]? = some d := hk
      have hkl := (List.getElem?_eq_some_iff.mp hk').1
      have hne : ¬ (d = b ∧ S.c b = 1) := by
        rintro ⟨z1, z2⟩
        have := List.count_pos_iff.mpr (List.mem_of_getElem? hk')
        rw [z1] at this
        omega
      rw [esz, kk, if_neg hne, R.ch k d (by rw [he, List.getElem?_append_left hkl]; exact hk'), epre, List.drop_take, List.take_take]
      have : (k + 1) * S.size ≤ bs0.length * S.size := Nat.mul_le_mul_right _ hkl
      rw [Nat.succ_mul] at this
      rw [Nat.min_eq_left (by omega)]
    · have hk' : k < bs0.length := hk
      obtain ⟨x1, x2, x3⟩ := R.fu k (by omega)
      rw [esz]
      refine ⟨Nat.mul_le_mul_right _ hk', x2, ?_⟩
      rw [he, List.getElem?_append_left hk'] at x3
      exact x3
    · have := (List.getElem?_eq_some_iff.mp (show bs0[bs0.length]? = some d from hd)).1
      exact absurd this (Nat.lt_irrefl _)
end
theorem set_self {rs : List ReqM} {i : Nat} {r : ReqM} (h : rs[i]? = some r) : rs.set i r = rs := by
  refine List.ext_getElem? fun j => ?_
  rw [List.getElem?_set]
  by_cases e : i = j
  · subst e
    rw [if_pos rfl, if_pos (List.getElem?_eq_some_iff.mp h).1, h]
  · rw [if_neg e]
theorem set_set_same {rs : List ReqM} {i : Nat} {a b : ReqM} : (rs.set i a).set i b = rs.set i b := List.set_set ..
/-- all blocks of a request are given back, from the last -/
theorem HI.popAll {M : NetM} {L w : Nat} {T : TreeM} {i : Nat} : ∀ (bs : List Nat) (S : StoreM) (rs : List ReqM) (f : Nat → Nat) (r : ReqM), HI M L w S T rs f → rs[i]? = some r → r.wd = none → r.bs = bs → r.len = 0 ∨ bs ≠ [] →
    S.canRel bs.reverse ∧ HI M L w (S.relAll bs.reverse) T (rs.set i { r with bs := [], len := 0 }) (fset f i 0) := by
  refine snocInd ?_ ?_
  · intro S rs f r h hr hw hb hl
    have hl0 : r.len = 0 := by
      rcases hl with h | h
      · exact h
      · exact (h rfl).elim
    refine ⟨trivial, ?_⟩
    have e : ({ r with bs := [], len := 0 } : ReqM) = r := by
      obtain ⟨a, t, wd, b, l⟩ := r
      simp at hb hl0
      rw [hb, hl0]
    rw [e]
    have e2 : rs.set i r = rs := set_self hr
    have hf : f i = 0 := by have := (h.req i r hr).f0; rw [hb] at this; simpa using this
    have e3 : fset f i 0 = f := by funext j; unfold fset; split; (rename_i z; rw [z, hf]); rfl
    show HI M L w S T _ _
    rw [e2, e3]
    exact h
  · intro bs0 b ih S rs f r h hr hw hb _
    obtain ⟨c1, c2, h2⟩ := h.pop hr hw hb
    have hi : i < rs.length := (List.getElem?_eq_some_iff.mp hr).1
    obtain ⟨d1, d2⟩ := ih (S.rel b (S.c b)) (rs.set i { r with bs := bs0, len := bs0.length * S.size }) (fset f i bs0.length) { r with bs := bs0, len := bs0.length * S.size } h2 (List.getElem?_set_self hi) hw rfl (by
      cases bs0 with
      | nil => exact .inl (Nat.zero_mul _)
      | cons x y => exact .inr (by simp))
    have eg : S.cts.getD b 0 = S.c b := rfl
    rw [List.reverse_append]
    refine ⟨⟨⟨_, c1, c2⟩, by rw [eg]; exact d1⟩, ?_⟩
    show HI M L w ((S.rel b (S.cts.getD b 0)).relAll bs0.reverse) T _ _
    rw [eg]
    rw [set_set_same] at d2
    have e3 : fset (fset f i bs0.length) i 0 = fset f i 0 := by funext j; unfold fset; split <;> rfl
    rw [e3] at d2
    exact d2
theorem HI.add {M : NetM} {L w : Nat} {S : StoreM} {T : TreeM} {rs : List ReqM} {f : Nat → Nat} (h : HI M L w S T rs f) {k : AskM} (ok : AskOk k L) : HI M L w S T (rs ++ [⟨k, [], none, [], 0⟩]) (fset f rs.length 0) := by
  refine { net := h.net, s0 := h.s0, s8 := h.s8, m60 := h.m60, lc := h.lc, lk := h.lk, cnt := fun d hd => by rw [occR_app]; exact h.cnt d hd, zer := h.zer, pnd := h.pnd, pmem := h.pmem, und := h.und, usd := h.usd, use := h.use, plen := h.plen, ppre := h.ppre, pblk := h.pblk, pinj := h.pinj, req := fun j x hx => ?_ }
  by_cases e : j < rs.length
  · rw [List.getElem?_append_left e] at hx
    rw [fset_ne _ _ (Nat.ne_of_lt e)]
    exact h.req j x hx
  · have h1 := (List.getElem?_eq_some_iff.mp hx).1
    rw [List.length_append] at h1
    have e2 : j = rs.length := by
      have : j < rs.length + 1 := h1
      omega
    subst e2
    rw [List.getElem?_append_right (Nat.le_refl _), Nat.sub_self] at hx
    cases hx
    rw [fset_same]
    have s0 := h.s0
    exact { ask := ok, txt := by simp, tl := by simp, dn := fun _ => ⟨rfl, rfl⟩, le := Nat.zero_le _, bl := by simp, n0 := Nat.zero_le _, n1 := by show 0 * S.size < 0 + S.size; omega, ch := by simp, f0 := Nat.le_refl _, f1 := Nat.le_succ _, fu := fun k hk => absurd hk (Nat.not_lt_zero _), la := by simp }
end Sv
end
section
set_option Elab.async false
set_option linter.all false
set_option maxRecDepth 100000
set_option maxHeartbeats 4000000
/-! The walk: House.put_next. -/
namespace Sv
open PySem PySem.Spec PyProof.Rows L2 HotX L2H
theorem div_step {n s : Nat} (hs : 1 ≤ s) (h : (n + 1) % s ≠ 0) : (n + 1) / s = n / s := by
  have e := Nat.div_add_mod n s
  have hlt := Nat.mod_lt n hs
  have hlt2 : n % s + 1 ≠ s := fun z => h (by
    have : n + 1 = s * (n / s) + s := by omega
    rw [this, Nat.mul_comm, ← Nat.succ_mul]
    exact Nat.mul_mod_left _ _)
  refine Nat.div_eq_of_lt_le ?_ ?_
  · rw [Nat.mul_comm]; omega
  · rw [Nat.succ_mul, Nat.mul_comm]; omega
theorem div_full {n s : Nat} (hs : 1 ≤ s) (h : (n + 1) % s = 0) : (n + 1) / s = n / s + 1 ∧ n + 1 = (n / s + 1) * s := by
  have e := Nat.div_add_mod n s
  have hlt := Nat.mod_lt n hs
  have e2 : n % s + 1 = s := by
    apply Classical.byContradiction
    intro z
    have h3 : (n + 1) / s = n / s := by
      refine Nat.div_eq_of_lt_le ?_ ?_
      · rw [Nat.mul_comm]; omega
      · rw [Nat.succ_mul, Nat.mul_comm]; omega
    have h4 := Nat.div_add_mod (n + 1) s
    rw [h, h3] at h4
    omega
  have e3 : n + 1 = (n / s + 1) * s := by rw [Nat.succ_mul, Nat.mul_comm]; omega
  refine ⟨?_, e3⟩
  have h4 := Nat.div_add_mod (n + 1) s
  rw [h, Nat.add_zero, Nat.mul_comm] at h4
  exact Nat.eq_of_mul_eq_mul_right hs (by omega)
theorem HI.putR {M : NetM} {L w : Nat} {S : StoreM} {T : TreeM} {rs : List ReqM} {f : Nat → Nat} {i : Nat} {r : ReqM} (h : HI M L w S T rs f) (hr : rs[i]? = some r) (hf : f i = r.len / S.size) (hw : r.wd = none) (hl : r.len < (whole r).length) {S1 : StoreM} {bs1 : List Nat}
    (hp : PutR S r.bs r.len (rowM M (rowsM M ((whole r).take r.len)) (whole r)[r.len]) S1 bs1) : HI M L w S1 T (rs.set i { r with bs := bs1, len := r.len + 1 }) f ∧ S1.many = S.many ∧ S1.size = S.size ∧ bs1 ≠ [] := by
  rcases hp with ⟨hm, b, hb, rfl, rfl⟩ | ⟨hm, bs0, l, he, rfl, rfl⟩
  · obtain ⟨h1, h2⟩ := freeB_some h.lc hb
    exact ⟨h.putNew hr hf hw hl hm h2 (StoreM.c_at h1), rfl, rfl, by simp⟩
  · exact ⟨h.putPart hr hf hw hl hm he, rfl, rfl, by rw [he]; simp⟩
def p_House_put_next (K : PySem.W.Frag) : P3 := fun a b c H Q => ∃ (hp np p tr rq ca ka ud us pl rp ap tb : Addr) (M : NetM) (L w : Nat) (T : TreeM) (S : StoreM) (rs : List ReqM) (f : Nat → Nat) (i : Nat) (r : ReqM) (hl : r.len < (whole r).length), a = .ref hp ∧ b = .ref rp ∧ HInsAt K H hp np p tr rq ∧ StoreAt K H p ca ka S ∧ TreeAt K H tr ud us pl p T ∧
  ReqAt K H rp ap tb r.text r.wd ∧ AskAt K H ap r.ask ∧ TableAt K H tb p r.bs r.len ∧ At H c (dRow (rowM M (rowsM M ((whole r).take r.len)) (whole r)[r.len])) ∧ pl ∉ [ca, ka] ∧ HI M L w S T rs f ∧ rs[i]? = some r ∧ f i = r.len / S.size ∧ r.wd = none ∧
  (∀ S' T' pl' bs', HI M L w S' T' (rs.set i { r with bs := bs', len := r.len + 1 }) (fset f i ((r.len + 1) / S.size)) → S'.many = S.many → S'.size = S.size → ∀ H', Fr [ca, ka, tr, ud, us, tb] H H' → (pl' = pl ∨ H pl' = none) → pl' ∉ [ca, ka] → StoreAt K H' p ca ka S' → TreeAt K H' tr ud us pl' p T' → TableAt K H' tb p bs' (r.len + 1) → Q (.bl true) H') ∧
  (∀ S' T' pl', HI M L w S' T' rs f → S'.many = S.many → S'.size = S.size → r.len % S.size = 0 → freeB S' = none → candM S' T' = [] → ∀ H', Fr [ca, ka, tr, ud, us, tb] H H' → (pl' = pl ∨ H pl' = none) → pl' ∉ [ca, ka] → StoreAt K H' p ca ka S' → TreeAt K H' tr ud us pl' p T' → TableAt K H' tb p r.bs r.len → Q (.bl false) H')
theorem req_tree {K : PySem.W.Frag} {H : Hp} {rp ap tb tr ud us pl p2 : Addr} {t : List Int} {wd : Option Wd} {T : TreeM} (q : ReqAt K H rp ap tb t wd) (r : TreeAt K H tr ud us pl p2 T) : rp ≠ tr ∧ rp ≠ ud ∧ rp ≠ us ∧ rp ≠ pl := by
  obtain ⟨_, _, _, _, h1, _⟩ := q.ex
  obtain ⟨_, _, g1, g2, _, g4, g5⟩ := r.ex
  refine ⟨ne_kind h1 g1 fun e => ?_, ne_kind h1 g4 nofun, ne_kind h1 g5 nofun, ne_kind h1 g2 nofun⟩
  have := congrArg List.length (HO.ins.inj e).2.2
  simp at this
section
variable {P : Program} {w : World} {K : PySem.W.Frag} {mg : Str → Option Value} {base : Heap}
abbrev N_House_put_next : List Str := ["self", "request", "row", "table", "block"]
theorem sc_House_put_next : FnScope N_House_put_next ["self", "request", "row"] (defScope s_House_put_next) := ⟨rfl, rfl, rfl, by decide +kernel, rfl, by decide +kernel, by decide +kernel⟩
theorem ok_House_put_next (T : Txt K mg) : MFn P w K mg base 8 (He.ga K "House") "put_next" ["self", "request", "row"] (Sp3 (p_House_put_next K)) := by
  refine mfn T.d_House_put_next T.m_House_put_next sc_House_put_next (fun _ _ _ _ _ _ us hl => match us, hl with | [_, _, _], _ => rfl) len3 fun cdv A outer s H vs Q E hr h => ?_
  obtain ⟨a0, a1, v, rfl, hp, np, p, tr, rq, ca, ka, ud, us, pl, rp, ap, tb, M, L, W, U, S, rs, f, i, r, hl, rfl, rfl, ho, st, ta, ra, aa, tt, hv, npl, hi, hri, hfi, hw, q1, q2⟩ := h
  refine ⟨_, pss_cons (ps_set (i := 3) sc_House_put_next.nd rfl (Or.inl rfl) (pe_fld (pv 1) rfl))
      (pss_cons (ps_if (pt_not (pt_val (pe_m (ok_House_has_put T) T.cl_House (hr.mono (by decide)) (pv 0) (pa_cons (pv 3) (pa_cons (pv 2) pa_nil))))) (pss_one (ps_ret (pe_bl))) (pss_nil))
      (pss_cons (ps_if (pt_cmpR op_eq (pe_op op_mod (pe_fld (pv 3) rfl) (pe_fld (pe_fld (pv 0) rfl) rfl)) (pe_int) (nomark _)) (pss_cons (ps_set (i := 4) sc_House_put_next.nd rfl (Or.inl rfl) (pe_m (ok_Tree_put T) T.cl_Tree (hr.mono (by decide)) (pe_fld (pv 0) rfl) (pa_cons (pe_slice sl_tupA (pe_m0 (ok_Request_whole T) T.cl_Request (hr.mono (by decide)) (pv 1)) po_none (po_some (pe_fld (pv 3) rfl))) (pa_cons (pe_ix ix_tup (pe_fld (pv 3) rfl) (pe_un un_neg (pe_int)) (fun _ _ => rfl)) pa_nil))))
      (pss_one (ps_if (pt_cmpR op_ne (pv 4) (pe_ix ix_tup (pe_fld (pv 3) rfl) (pe_un un_neg (pe_int)) (fun _ _ => rfl)) (nomark _)) (pss_one (ps_expr (pe_m (ok_Table_exchange_last T) T.cl_Table (hr.mono (by decide)) (pv 3) (pa_cons (pv 4) pa_nil)))) (pss_nil)))) (pss_nil))
      (pss_one (ps_ret (pe_bl))))), ?_⟩
  obtain ⟨dx, rm, h1⟩ := id ho
  obtain ⟨rdx, vt, bg, gv, r1, r2⟩ := id ra.ex
  have R := hi.req i r hri
  have s0 := hi.s0
  obtain ⟨z1, z2, z3, z4⟩ := tab_tree tt ta
  have ntb : tb ≠ ca ∧ tb ≠ ka := by simpa using tab_ne tt st
  obtain ⟨m1, m2, m3, m4, m5, m6⟩ := tree_store ta st
  obtain ⟨w1, w2, w3⟩ := hins_tree ho ta
  obtain ⟨w4, w5⟩ := hins_store ho st
  have w6 := hins_tab ho tt
  obtain ⟨y1, y2, y3⟩ := req_ne ra st tt
  obtain ⟨y4, y5, y6, _⟩ := req_tree ra ta
  have hbl : r.bs.length ≤ 100 := by
    have := R.n1
    have h60 := R.le
    have hwl : (whole r).length ≤ 18 := by
      unfold whole
      rw [List.length_append]
      have := R.ask.p1
      have := R.tl
      omega
    have := Nat.le_mul_of_pos_right r.bs.length s0
    have := hi.s8
    omega
  refine ⟨_, rfl, rp, _, rdx, _, _, rfl, r1, T.cl_Request, T.n_Request_table, rfl, ?_⟩
  refine ⟨_, rfl, hp, dx, _, rfl, h1, rfl, _, rfl, _, rfl, ?_⟩
  refine ⟨_, _, _, rfl, hp, np, p, tr, rq, ca, ka, ud, us, pl, tb, U, S, r.bs, r.len, _, (fun S' T' => HI M L W S' T' rs f ∧ S'.many = S.many ∧ S'.size = S.size), rfl, rfl, hv, ho, st, ta, tt, npl, hbl, ⟨hi, rfl, rfl⟩, fun S' T' j => ?_, fun S' T' q j hq => ?_, fun S' T' pl' S1 bs1 j hpr H1 f1 hpl1 npl1 st1 ta1 tt1 => ?_, fun S' T' pl' j c1 hn hc H1 f1 hpl1 npl1 st1 ta1 tt1 => ?_⟩
  · exact j.1.pre hri (by rw [j.2.2]; exact hfi)
  · exact ⟨j.1.drop hq, (StoreM.rel_many ..).trans j.2.1, (StoreM.rel_size ..).trans j.2.2⟩
  · obtain ⟨jh, jm, js⟩ := j
    obtain ⟨h2, e1, e2, hne⟩ := jh.putR hri (by rw [js]; exact hfi) hw hl hpr
    have emn : S1.many = S.many := e1.trans jm
    have esz : S1.size = S.size := e2.trans js
    refine ⟨true, rfl, ?_⟩
    obtain ⟨tdx, vb, t1, t2⟩ := id tt1.ex
    have ho1 := ho.keep f1 (by simp; exact ⟨w4, w5, w1, w2, w3, w6⟩)
    obtain ⟨dx1, rm1, h11⟩ := id ho1
    obtain ⟨sdx, ks, s1, _⟩ := id st1.ex
    refine ⟨_, rfl, tb, _, tdx, _, _, rfl, t1, T.cl_Table, T.n_Table_length, rfl, _, rfl, hp, _, dx1, _, _, rfl, h11, T.cl_House, T.n_House_store, rfl, p, _, sdx, _, _, rfl, s1, T.cl_Store, T.n_Store_size, rfl, _, _, rfl, rfl, by show (0 : Int) < (S1.size : Int); rw [esz]; omega, rfl, _, rfl, ?_⟩
    have e0 : ((r.len + 1 : Nat) : Int) % ((S1.size : Nat) : Int) = (((r.len + 1) % S1.size : Nat) : Int) := rfl
    by_cases c1 : (r.len + 1) % S1.size = 0
    · rw [dec_t (show V.int (((r.len + 1 : Nat) : Int) % ((S1.size : Nat) : Int)) = V.int 0 by rw [e0, c1]; rfl)]
      rw [esz] at c1
      obtain ⟨d1, d2⟩ := div_full s0 c1
      rw [← hfi] at d1 d2
      rcases List.eq_nil_or_concat bs1 with e | ⟨bs0, b1, e⟩
      · exact (hne e).elim
      rw [List.concat_eq_append] at e
      subst e
      have hi' : i < rs.length := (List.getElem?_eq_some_iff.mp hri).1
      have hr1 : (rs.set i { r with bs := bs0 ++ [b1], len := r.len + 1 })[i]? = some { r with bs := bs0 ++ [b1], len := r.len + 1 } := List.getElem?_set_self hi'
      have R1 := h2.req i _ hr1
      have s01 := h2.s0
      have d2' : r.len + 1 = (f i + 1) * S1.size := by rw [esz]; exact d2
      have hb0 : bs0.length = f i := by
        have n0 : r.len + 1 ≤ (bs0 ++ [b1]).length * S1.size := R1.n0
        have n1 : (bs0 ++ [b1]).length * S1.size < r.len + 1 + S1.size := R1.n1
        rw [esz, d2] at n0 n1
        have a1 := Nat.le_of_mul_le_mul_right n0 s0
        rw [← Nat.succ_mul] at n1
        have a2 := Nat.lt_of_mul_lt_mul_right n1
        rw [List.length_append] at a1 a2
        have a1' : f i + 1 ≤ bs0.length + 1 := a1
        have a2' : bs0.length + 1 < f i + 1 + 1 := a2
        omega
      have hbf : (bs0 ++ [b1])[f i]? = some b1 := by rw [← hb0, List.getElem?_append_right (Nat.le_refl _), Nat.sub_self]; rfl
      have hc1 := R1.la b1 hbf
      have hbm : b1 < S1.many := R1.bl b1 (List.mem_of_getElem? hbf)
      have hct : S1.cts[b1]? = some 1 := by rw [StoreM.at_c (by rw [h2.lc]; exact hbm), hc1]
      have hwe : whole ({ r with bs := bs0 ++ [b1], len := r.len + 1 } : ReqM) = whole r := rfl
      have hle1 : r.len + 1 ≤ (whole r).length := hl
      have hpl2 : ((whole r).take (r.len + 1)).length = r.len + 1 := by rw [List.length_take, Nat.min_eq_left hle1]
      have hw18 : (whole r).length ≤ 18 := by
        unfold whole
        rw [List.length_append]
        have := R.ask.p1
        have := R.tl
        omega
      have hbl1 : bs0.length ≤ 100 := by
        have := Nat.le_mul_of_pos_right (f i + 1) s0
        omega
      obtain ⟨ydx, vs, yy1, _⟩ := id ta1.ex
      have ra1 := ra.keep f1 (by simp; exact ⟨y1, y2, y4, y5, y6, y3⟩)
      obtain ⟨rdx1, vt1, bg1, gv1, rr1, rr2⟩ := id ra1.ex
      refine ⟨_, rfl, hp, _, dx1, _, _, rfl, h11, T.cl_House, T.n_House_tree, rfl, tr, ydx, _, rfl, yy1, rfl, _, rfl, rp, rdx1, _, rfl, rr1, rfl, _, rfl, rp, ap, tb, r.ask, r.text, r.wd, rfl, ra1, aa.keep f1.t, ?_, fun H2 c w2 hc => ?_⟩
      · have : (whole r).length ≤ 18 := hw18
        unfold whole at this
        rw [List.length_append] at this
        omega
      obtain ⟨tdx2, vb2, t12, t22⟩ := id (tt1.up w2).ex
      obtain ⟨cb, rfl, hcb⟩ := id t22.nsI
      have hlast : atI ((bs0 ++ [b1]).map vN) (-1) = some (vN b1) := by rw [List.map_append]; exact atI_last _ _
      refine ⟨_, rfl, tb, _, tdx2, _, _, rfl, t12, T.cl_Table, T.n_Table_length, rfl, ((r.len + 1 : Nat) : Int), rfl, ?_⟩
      dsimp only
      refine slA_at (K := K) hc fun H3 c3 w3 hc3 => ?_
      rw [cut_take, ← List.map_take] at hc3
      have w23 := w2.trans w3
      refine ⟨_, rfl, tb, _, tdx2, _, _, rfl, w3 _ _ t12, T.cl_Table, T.n_Table_blocks, rfl, _, rfl, cb, _, _, _, rfl, rfl, SqT.of (w3 _ _ hcb), hlast, ?_⟩
      refine ⟨_, _, _, rfl, tr, ud, us, pl', p, ca, ka, c3, T', S1, (whole r).take (r.len + 1), b1, 1, rfl, rfl, rfl, ta1.up w23, st1.up w23, hc3, by omega, ?_, hct, Nat.one_pos, npl1, by have := h2.slen; omega, by have := h2.pcount; have := h2.m60; omega, by have := h2.ulen; omega, fun x hx => ?_, fun hpi H4 pl4 ps4 f4 hpl4 hperm st4 ta4 => ?_, fun hpi H4 f4 st4 ta4 => ?_⟩
      · rw [hpl2, esz, d2]
        exact Nat.le_mul_of_pos_left _ (Nat.succ_pos _)
      · obtain ⟨m, m0, hm⟩ := h2.plen x hx
        intro z
        rw [z] at hm
        have := Nat.mul_pos m0 s01
        simp at hm
        omega
      · have hnp : T'.has ((whole r).take (r.len + 1)) = false := by
          unfold TreeM.putIn at hpi
          cases z : T'.has ((whole r).take (r.len + 1)) with
          | false => rfl
          | true => rw [z] at hpi; cases hpi
        have hnm : (whole r).take (r.len + 1) ∉ T'.paths := fun hm => by
          rw [(h2.pmem _).mp hm] at hnp
          cases hnp
        have eget : (aget (T'.ins ((whole r).take (r.len + 1)) b1 ps4).under ((whole r).take (r.len + 1))).getD b1 = b1 := by
          show (aget (aput T'.under _ b1) _).getD b1 = b1
          rw [aget_put, if_pos rfl]
          rfl
        rw [eget]
        have tt4 := (tt1.up w23).keep f4 (by simp; exact ⟨ntb.1, ntb.2, z1, z2, z3⟩)
        obtain ⟨tdx4, vb4, t14, t24⟩ := id tt4.ex
        obtain ⟨cb4, rfl, hcb4⟩ := id t24.nsI
        refine ⟨_, rfl, _, rfl, tb, _, tdx4, _, _, rfl, t14, T.cl_Table, T.n_Table_blocks, rfl, _, rfl, cb4, _, _, _, rfl, rfl, SqT.of hcb4, hlast, rfl, _, rfl, ?_⟩
        rw [show decide (V.int ((b1 : Nat) : Int) = vN b1) = true from decide_eq_true rfl]
        have hins := h2.ins hr1 d2' hbf hnm hperm
        refine q1 (S1.setC b1 2) _ pl4 (bs0 ++ [b1]) ?_ emn esz H4 (f1.trans ((Fr.same w23).trans (f4.sub (by simp)))) ?_ ?_ st4 ta4 tt4
        · rw [d1]
          exact hins
        · right
          have e3 : H1 pl4 = none := by
            cases z : H1 pl4 with
            | none => rfl
            | some u => rw [w23 _ _ z] at hpl4; cases hpl4
          refine f1.fresh e3 fun x hx => ?_
          obtain ⟨_, _, _, c2, c3, _⟩ := st1.ex
          obtain ⟨_, _, x2, _, _, x4, x5⟩ := ta1.ex
          simp at hx
          rcases hx with e | e | e | e | e | e
          · rw [e, c2]; simp
          · rw [e, c3]; simp
          · rw [e, x2]; simp
          · rw [e, x4]; simp
          · rw [e, x5]; simp
          · rw [e, t1]; simp
        · obtain ⟨_, _, _, c2, c3, _⟩ := (st1.up w23).ex
          simp
          constructor
          · intro z; rw [z, c2] at hpl4; cases hpl4
          · intro z; rw [z, c3] at hpl4; cases hpl4
      · have hhp : T'.has ((whole r).take (r.len + 1)) = true := by
          cases z : T'.has ((whole r).take (r.len + 1)) with
          | true => rfl
          | false =>
            exfalso
            unfold TreeM.putIn at hpi
            rw [z, hpl2, esz, d2, Nat.succ_mul, Nat.add_sub_cancel] at hpi
            cases hfz : f i with
            | zero =>
              rw [hfz, Nat.zero_mul] at hpi
              simp at hpi
            | succ k =>
              have hfu : (whole r).take ((k + 1) * S1.size) ∈ T'.paths := (R1.fu k (by omega)).2.1
              have e5 : ((whole r).take (r.len + 1)).take (f i * S.size) = (whole r).take ((k + 1) * S1.size) := by
                rw [take_take_le _ (by rw [d2, Nat.succ_mul]; omega), esz, hfz]
              rw [← Nat.succ_mul, ← d2, e5, (h2.pmem _).mp hfu] at hpi
              simp at hpi
        have hpm : (whole r).take (r.len + 1) ∈ T'.paths := (h2.pmem _).mpr hhp
        obtain ⟨hgb, hex⟩ := h2.exch hr1 hw d2' rfl hb0 hpm
        have eget : (aget T'.under ((whole r).take (r.len + 1))).getD b1 = T'.blk ((whole r).take (r.len + 1)) := by rw [TreeM.some_blk hhp]; rfl
        rw [eget]
        have tt4 := (tt1.up w23).keep f4 (by simp; exact ⟨z1, z3⟩)
        obtain ⟨tdx4, vb4, t14, t24⟩ := id tt4.ex
        obtain ⟨cb4, rfl, hcb4⟩ := id t24.nsI
        refine ⟨_, rfl, _, rfl, tb, _, tdx4, _, _, rfl, t14, T.cl_Table, T.n_Table_blocks, rfl, _, rfl, cb4, _, _, _, rfl, rfl, SqT.of hcb4, hlast, rfl, _, rfl, ?_⟩
        have hgb' : T'.blk ((whole r).take (r.len + 1)) ≠ b1 := hgb
        rw [show decide (V.int ((T'.blk ((whole r).take (r.len + 1)) : Nat) : Int) = vN b1) = false from decide_eq_false fun z => hgb' (by have := V.int.inj z; omega)]
        refine ⟨_, rfl, tb, tdx4, _, rfl, t14, rfl, _, rfl, ?_⟩
        obtain ⟨p1, p2⟩ := h2.pblk _ hpm
        have p3 := h2.tpos hpm
        refine ⟨_, _, rfl, tb, p, ca, ka, S1, bs0, b1, r.len + 1, T'.blk ((whole r).take (r.len + 1)), S1.c (T'.blk ((whole r).take (r.len + 1))), 1, rfl, rfl, st4, tt4, StoreM.at_c (by rw [h2.lc]; exact p1), p3, ?_, Nat.one_pos, hbl1, fun H5 f5 st5 tt5 => ?_⟩
        · rw [StoreM.at_c (by rw [show (S1.setC _ _).cts.length = S1.cts.length from List.length_set ..]; rw [h2.lc]; exact hbm), StoreM.c_setC (by rw [h2.lc]; exact p1), if_neg (fun z => hgb' z.symm), hc1]
        · have z4' := (tab_tree tt4 ta4).2.2.2
          have ta5 := ta4.keep f5 (by simp; exact ⟨m1, m2, Ne.symm z1⟩) (by simp; exact ⟨m3, m4, Ne.symm z2⟩) (by simp; exact ⟨m5, m6, Ne.symm z3⟩) (by simp at npl1 ⊢; exact ⟨npl1.1, npl1.2, Ne.symm z4'⟩)
          refine q1 ((S1.setC (T'.blk ((whole r).take (r.len + 1))) (S1.c (T'.blk ((whole r).take (r.len + 1))) + 1)).rel b1 1) _ pl' (bs0 ++ [T'.blk ((whole r).take (r.len + 1))]) ?_ ((StoreM.rel_many ..).trans emn) ((StoreM.rel_size ..).trans esz) H5 (f1.trans ((Fr.same w23).trans ((f4.sub (by simp)).trans (f5.sub (by simp))))) hpl1 npl1 st5 ta5 tt5
          rw [d1]
          rw [set_set_same] at hex
          refine hex.used fun q hq => begs_mem h2 _ q (by rw [esz]; rw [← esz]; exact hq)
    · rw [dec_f (show V.int (((r.len + 1 : Nat) : Int) % ((S1.size : Nat) : Int)) ≠ V.int 0 from fun z => c1 (by have := V.int.inj z; rw [e0] at this; omega))]
      refine q1 S1 T' pl' bs1 ?_ emn esz H1 f1 hpl1 npl1 st1 ta1 tt1
      rw [esz] at c1
      rw [div_step s0 c1, ← hfi, show fset f i (f i) = f from by funext j; unfold fset; split; (rename_i z; rw [z]); rfl]
      exact h2
  · refine ⟨false, rfl, ?_⟩
    exact q2 S' T' pl' j.1 j.2.1 j.2.2 (by rw [← j.2.2]; exact c1) hn hc H1 f1 hpl1 npl1 st1 ta1 tt1
end
end Sv
end
section
set_option autoImplicit false
set_option linter.all false
set_option maxRecDepth 100000
set_option maxHeartbeats 1000000
/-! The house in plain Lean: the table's rows, the next text, what an advance makes. -/
namespace Sv
theorem chunks {α : Type} (l : List α) (s : Nat) : ∀ n : Nat, ((List.range n).map fun k => (l.drop (k * s)).take s).flatten = l.take (n * s)
  | 0 => by simp
  | n + 1 => by
    rw [List.range_succ, List.map_append, List.flatten_append, chunks l s n, Nat.succ_mul]
    simp only [List.map_cons, List.map_nil, List.flatten_cons, List.flatten_nil, List.append_nil]
    rw [List.take_add]
section
variable {M : NetM} {L w : Nat} {S : StoreM} {T : TreeM} {rs : List ReqM} {f : Nat → Nat} {i : Nat} {r : ReqM}
theorem RI.rows {fk : Nat} (h : RI M L S T r fk) : tabRows S r.bs r.len = rowsM M ((whole r).take r.len) := by
  unfold tabRows
  have e : r.bs.map (fun b => S.kept.getD b []) = (List.range r.bs.length).map fun k => ((rowsM M ((whole r).take r.len)).drop (k * S.size)).take S.size := by
    refine List.ext_getElem? fun k => ?_
    rw [List.getElem?_map, List.getElem?_map]
    by_cases hk : k < r.bs.length
    · rw [List.getElem?_eq_getElem hk, List.getElem?_range hk]
      exact congrArg some (h.ch k _ (List.getElem?_eq_getElem hk))
    · rw [List.getElem?_eq_none (by omega), List.getElem?_eq_none (by rw [List.length_range]; omega)]
      rfl
  have hl : (rowsM M ((whole r).take r.len)).length = r.len := by rw [rowsM_len, List.length_take, Nat.min_eq_left h.le]
  rw [e, chunks, List.take_take, Nat.min_eq_left h.n0, List.take_of_length_le (by omega)]
def wts (M : NetM) (ls : List Int) : List Int := ((rowsM M ls).getLast?.map (·.2)).getD []
theorem wts_snoc (M : NetM) (a : List Int) (l : Int) : wts M (a ++ [l]) = (rowM M (rowsM M a) l).2 := by
  unfold wts
  rw [rowsM_snoc, List.getLast?_append]
  rfl
/-- the text behind one more letter -/
theorem nextM_cases (fin : Option Int) (a : AskM) (t ws : List Int) {L : Nat} {p : Int} (hl : ws.length = L) (h : ∀ x ∈ ws, 1 ≤ x ∧ x ≤ p) (ht : ∀ x ∈ t, 0 ≤ x ∧ x < (L : Int)) :
    (∀ x ∈ (nextM fin a t ws).1, 0 ≤ x ∧ x < (L : Int)) ∧ (nextM fin a t ws).1.length ≤ t.length + 1 ∧ ((nextM fin a t ws).2 = none → ∃ l, (nextM fin a t ws).1 = t ++ [l] ∧ ((t.length + 1 : Nat) : Int) ≠ a.most) := by
  unfold nextM
  cases e : choiceM a ws t with
  | none => exact ⟨ht, Nat.le_succ _, fun z => by cases z⟩
  | some l =>
    have hc := choiceM_in (a := a) (t := t) hl h e
    have h2 : ∀ x ∈ t ++ [l], 0 ≤ x ∧ x < (L : Int) := fun x hx => by
      rcases List.mem_append.mp hx with hx | hx
      · exact ht x hx
      · rw [List.mem_singleton.mp hx]; exact hc
    have h3 : (t ++ [l]).length = t.length + 1 := by rw [List.length_append]; rfl
    dsimp only
    split
    · exact ⟨ht, Nat.le_succ _, fun z => by cases z⟩
    · split
      · exact ⟨fun x hx => h2 x (List.mem_of_mem_take hx), by rw [List.length_take]; omega, fun z => by cases z⟩
      · refine ⟨h2, Nat.le_of_eq h3, fun z => ⟨l, rfl, ?_⟩⟩
        intro e2
        rw [h3, if_pos e2] at z
        cases z
/-- what an advance makes of a request -/
def AdvR (M : NetM) (S' : StoreM) (T' : TreeM) (r r' : ReqM) : Prop :=
  r'.ask = r.ask ∧ ((r' = r ∧ r.len % S'.size = 0 ∧ freeB S' = none ∧ candM S' T' = []) ∨ (r'.text = r.text ∧ r'.wd = none ∧ r.len < r'.len ∧ r'.len < (whole r).length) ∨
    (r'.text = (nextM M.fin r.ask r.text (wts M (whole r))).1 ∧ r'.wd = (nextM M.fin r.ask r.text (wts M (whole r))).2 ∧ (r'.wd = none → r.len < r'.len ∧ r'.len < (whole r').length)))
theorem HI.canRel (h : HI M L w S T rs f) (hr : rs[i]? = some r) (hw : r.wd = none) (hl : 0 < r.len) : S.canRel r.bs.reverse ∧ HI M L w (S.relAll r.bs.reverse) T (rs.set i { r with bs := [], len := 0 }) (fset f i 0) := by
  refine h.popAll r.bs S rs f r hr hw rfl (.inr fun e => ?_)
  have := (h.req i r hr).n0
  rw [e] at this
  simp at this
  omega
theorem relAll_same : ∀ (bs : List Nat) (S : StoreM), (S.relAll bs).many = S.many ∧ (S.relAll bs).size = S.size
  | [], S => ⟨rfl, rfl⟩
  | b :: bs, S => by
    obtain ⟨h1, h2⟩ := relAll_same bs (S.rel b (S.cts.getD b 0))
    exact ⟨h1.trans (StoreM.rel_many ..), h2.trans (StoreM.rel_size ..)⟩
end
end Sv
end
section
set_option Elab.async false
set_option linter.all false
set_option maxRecDepth 100000
set_option maxHeartbeats 4000000
/-! The walk: House.advance (its src is printed by mk20.py). -/
namespace Sv
open PySem PySem.Spec PyProof.Rows L2 HotX L2H
def p_House_advance (K : PySem.W.Frag) : P2 := fun a b H Q => ∃ (hp np p tr rq ca ka ud us pl rp ap tb : Addr) (M : NetM) (L w : Nat) (T : TreeM) (S : StoreM) (rs : List ReqM) (f : Nat → Nat) (i : Nat) (r : ReqM), a = .ref hp ∧ b = .ref rp ∧ HInsAt K H hp np p tr rq ∧ NetAt K H np M ∧ StoreAt K H p ca ka S ∧ TreeAt K H tr ud us pl p T ∧
  ReqAt K H rp ap tb r.text r.wd ∧ AskAt K H ap r.ask ∧ TableAt K H tb p r.bs r.len ∧ pl ∉ [ca, ka] ∧ HI M L w S T rs f ∧ rs[i]? = some r ∧ f i = r.len / S.size ∧ r.wd = none ∧ r.len < (whole r).length ∧ r.text.length < 8 ∧
  ∀ S' T' pl' r', HI M L w S' T' (rs.set i r') (fset f i (r'.len / S.size)) → S'.many = S.many → S'.size = S.size → AdvR M S' T' r r' → ∀ H', Fr [hp, ca, ka, tr, ud, us, tb, rp] H H' → (pl' = pl ∨ H pl' = none) → pl' ∉ [ca, ka] → HInsAt K H' hp np p tr rq → StoreAt K H' p ca ka S' → TreeAt K H' tr ud us pl' p T' →
    ReqAt K H' rp ap tb r'.text r'.wd → TableAt K H' tb p r'.bs r'.len → Q .non H'
theorem hins_req {K : PySem.W.Frag} {H : Hp} {hp np p tr rq rp ap tb : Addr} {t : List Int} {wd : Option Wd} (h : HInsAt K H hp np p tr rq) (s : ReqAt K H rp ap tb t wd) : hp ≠ rp := by
  obtain ⟨_, _, h1⟩ := h
  obtain ⟨_, _, _, _, g1, _⟩ := s.ex
  refine ne_kind h1 g1 fun e => ?_
  have := congrArg List.length (HO.ins.inj e).2.2
  simp at this
theorem fset_fset (f : Nat → Nat) (i a b : Nat) : fset (fset f i a) i b = fset f i b := by funext j; unfold fset; split <;> rfl
theorem HI.bpos {M : NetM} {L w : Nat} {S : StoreM} {T : TreeM} {rs : List ReqM} {f : Nat → Nat} {i : Nat} {r : ReqM} (h : HI M L w S T rs f) (hr : rs[i]? = some r) : ∀ b ∈ r.bs, ∃ n, S.cts[b]? = some n ∧ 0 < n := fun b hb => by
  have hm := (h.req i r hr).bl b hb
  refine ⟨_, StoreM.at_c (by rw [h.lc]; exact hm), ?_⟩
  have := h.cnt b hm
  have := occR_le b rs i r hr
  have := List.count_pos_iff.mpr hb
  omega
theorem RI.short {M : NetM} {L : Nat} {S : StoreM} {T : TreeM} {r : ReqM} {fk : Nat} (h : RI M L S T r fk) (s0 : 1 ≤ S.size) (s8 : S.size ≤ 8) : (whole r).length ≤ 18 ∧ r.bs.length ≤ 30 := by
  have h1 : (whole r).length ≤ 18 := by
    unfold whole
    rw [List.length_append]
    have := h.ask.p1
    have := h.tl
    omega
  have := h.n1
  have := h.le
  have := Nat.le_mul_of_pos_right r.bs.length s0
  exact ⟨h1, by omega⟩
section
variable {P : Program} {w : World} {K : PySem.W.Frag} {mg : Str → Option Value} {base : Heap}
abbrev N_House_advance : List Str := ["self", "request", "table", "letters", "row"]
theorem sc_House_advance : FnScope N_House_advance ["self", "request"] (defScope s_House_advance) := ⟨rfl, rfl, rfl, by decide +kernel, rfl, by decide +kernel, by decide +kernel⟩
theorem ok_House_advance (T : Txt K mg) : MFn P w K mg base 9 (He.ga K "House") "advance" ["self", "request"] (Sp2 (p_House_advance K)) := by
  refine mfn T.d_House_advance T.m_House_advance sc_House_advance (fun _ _ _ _ _ _ us hl => match us, hl with | [_, _], _ => rfl) len2 fun cdv A outer s H vs Q E hr h => ?_
  obtain ⟨a0, a1, rfl, hp, np, p, tr, rq, ca, ka, ud, us, pl, rp, ap, tb, M, L, W, U, S, rs, f, i, r, rfl, rfl, ho, N, st, ta, ra, aa, tt, npl, hi, hri, hfi, hw, hl, ht8, q⟩ := h
  refine ⟨_, pss_cons (ps_set (i := 2) sc_House_advance.nd rfl (Or.inl rfl) (pe_fld (pv 1) rfl))
      (pss_cons (ps_set (i := 3) sc_House_advance.nd rfl (Or.inl rfl) (pe_m0 (ok_Request_whole T) T.cl_Request (hr.mono (by decide)) (pv 1)))
      (pss_cons (ps_if (pt_not (pt_val (pe_m (ok_House_take_known T) T.cl_House (hr.mono (by decide)) (pv 0) (pa_cons (pv 1) (pa_cons (pe_callB call_len_seq (by rfl) T.b_len PySem.boot_len (pa_cons (pv 3) pa_nil)) pa_nil))))) (pss_cons (ps_set (i := 4) sc_House_advance.nd rfl (Or.inl rfl) (pe_m (ok_Net_row T) T.cl_Net (hr.mono (by decide)) (pe_fld (pv 0) rfl) (pa_cons (pe_m0 (ok_Table_rows T) T.cl_Table (hr.mono (by decide)) (pv 2)) (pa_cons (pe_ix ix_tup (pv 3) (pe_fld (pv 2) rfl) (fun _ _ => rfl)) pa_nil))))
      (pss_cons (ps_if (pt_not (pt_val (pe_m (ok_House_put_next T) T.cl_House (hr.mono (by decide)) (pv 0) (pa_cons (pv 1) (pa_cons (pv 4) pa_nil))))) (pss_one (ps_retN)) (pss_nil))
      (pss_one (ps_fldaug (pv 0) (pe_int) in_add)))) (pss_nil))
      (pss_one (ps_if (pt_cmpR op_eq (pe_fld (pv 2) rfl) (pe_callB call_len_seq (by rfl) T.b_len PySem.boot_len (pa_cons (pv 3) pa_nil)) (nomark _)) (pss_one (ps_expr (pe_m (ok_Request_write T) T.cl_Request (hr.mono (by decide)) (pv 1) (pa_cons (pe_fld (pv 0) rfl) (pa_cons (pe_ix ix_tup (pe_ix ix_tup (pe_m0 (ok_Table_rows T) T.cl_Table (hr.mono (by decide)) (pv 2)) (pe_un un_neg (pe_int)) (fun _ _ => rfl)) (pe_int) (fun _ _ => rfl)) pa_nil))))) (pss_nil))))), ?_⟩
  obtain ⟨dx, rm, h1⟩ := id ho
  obtain ⟨rdx, vt, bg, gv, r1, r2⟩ := id ra.ex
  have R := hi.req i r hri
  have s0 := hi.s0
  have hp1 := hi.net.p1
  obtain ⟨z1, z2, z3, z4⟩ := tab_tree tt ta
  have ntb : tb ≠ ca ∧ tb ≠ ka := by simpa using tab_ne tt st
  obtain ⟨m1, m2, m3, m4, m5, m6⟩ := tree_store ta st
  obtain ⟨w1, w2, w3⟩ := hins_tree ho ta
  obtain ⟨w4, w5⟩ := hins_store ho st
  have w6 := hins_tab ho tt
  have w7 := hins_req ho ra
  obtain ⟨y1, y2, y3⟩ := req_ne ra st tt
  obtain ⟨y4, y5, y6, _⟩ := req_tree ra ta
  obtain ⟨hw18, hb30⟩ := R.short s0 hi.s8
  have hi' : i < rs.length := (List.getElem?_eq_some_iff.mp hri).1
  have hwl : (whole r).length = r.ask.prompt.length + r.text.length := by unfold whole; rw [List.length_append]
  have hlet : ∀ x ∈ whole r, 0 ≤ x ∧ x < (L : Int) := fun x hx => by
    rcases List.mem_append.mp hx with hx | hx
    · exact R.ask.pl x hx
    · exact R.txt x hx
  refine ⟨_, rfl, rp, _, rdx, _, _, rfl, r1, T.cl_Request, T.n_Request_table, rfl, ?_⟩
  refine ⟨_, rfl, rp, rdx, _, rfl, r1, rfl, _, rfl, rp, ap, tb, r.ask, r.text, r.wd, rfl, ra, aa, by omega, fun H1 c w1' hc => ?_⟩
  have hc' : H1 c = some (.tup ((whole r).map V.int)) := hc
  have ho1 := ho.keep (Fr.same (S := []) w1') (by simp)
  obtain ⟨dx1, rm1, h11⟩ := id ho1
  refine ⟨_, rfl, hp, dx1, _, rfl, h11, rfl, _, rfl, _, rfl, c, _, rfl, .inr (SqT.of hc'), ?_⟩
  rw [List.length_map]
  refine ⟨_, _, _, rfl, hp, np, p, tr, rq, ca, ka, ud, us, pl, rp, ap, tb, U, S, r.ask, r.text, r.wd, r.bs, r.len, (whole r).length, rfl, rfl, rfl, ho1, st.up w1', ta.up w1', ra.up w1', aa.keep w1'.tups, tt.up w1', npl, by omega, by have := hi.slen; omega, by omega, fun x hx => ?_, fun hno => ?_, fun k1 k2 k3 H2 f2 ta2 => ?_, fun k1 k2 k3 xs x n kb kn H2 f2 st2 tt2 ta2 => ?_⟩
  · have hx' := (hi.pmem x).mpr hx
    exact ⟨_, StoreM.at_c (by rw [hi.lc]; exact (hi.pblk x hx').1), hi.tpos hx'⟩
  · have fc9 : Tups H1 H1 := Tups.refl _
    have hnx : True := trivial
    have hoX := ho.keep (Fr.same (S := [ca, ka, tr, ud, us]) w1') (by simp; exact ⟨w4, w5, w1, w2, w3⟩)
    obtain ⟨dxX, rmX, hX1⟩ := id hoX
    obtain ⟨tdxX, vbX, tX1, _⟩ := id ((tt.up w1')).ex
    have hcX := (fc9) _ _ rfl hc'
    have hb1 := (hi).bpos hri
    have erow := ((hi).req i r hri).rows
    refine ⟨false, rfl, _, rfl, hp, _, dxX, _, _, rfl, hX1, T.cl_House, T.n_House_net, rfl, ?_⟩
    have NX := N.keep ((Fr.same (S := [ca, ka, tr, ud, us]) w1')).t
    obtain ⟨ndx, nve, nvs, nvl, nvo, nvf, nn, _⟩ := id NX.ex
    refine ⟨np, ndx, _, rfl, nn, rfl, _, rfl, tb, tdxX, _, rfl, tX1, rfl, _, rfl, tb, p, ca, ka, S, r.bs, r.len, rfl, (st.up w1'), (tt.up w1'), hb1, by omega, fun H4 v w4' hv => ?_⟩
    rw [erow] at hv
    obtain ⟨cv, xsv, rfl, hcv, _⟩ := id hv.tupI
    have hlx : (whole r)[r.len]? = some (whole r)[r.len] := List.getElem?_eq_getElem hl
    obtain ⟨l0, l1⟩ := hlet _ (List.getElem_mem hl)
    refine ⟨_, rfl, _, rfl, tb, _, tdxX, _, _, rfl, w4' _ _ tX1, T.cl_Table, T.n_Table_length, rfl, c, _, _, _, rfl, rfl, SqT.of (w4' _ _ hcX), atI_nat (getMap hlx), ?_⟩
    refine ⟨_, _, _, rfl, np, M, L, W, cv, rowsM M ((whole r).take r.len), _, rfl, rfl, rfl, NX.up w4', hi.net, hv, rowsM_ok hi.net _ (fun x hx => hlet x (List.mem_of_mem_take hx)), ?_, l0, l1, fun H5 v5 w5' hv5 => ?_⟩
    · rw [rowsM_len, List.length_take]; omega
    have wX := w4'.trans w5'
    have hoY := hoX.keep (Fr.same (S := []) wX) (by simp)
    obtain ⟨dxY, rmY, hY1⟩ := id hoY
    have f5 : Fr [ca, ka, tr, ud, us, tb] H H5 := (((Fr.same (S := [ca, ka, tr, ud, us]) w1')).sub (by simp)).trans (Fr.same wX)
    refine ⟨_, rfl, hp, dxY, _, rfl, hY1, rfl, _, rfl, _, rfl, ?_⟩
    refine ⟨_, _, _, rfl, hp, np, p, tr, rq, ca, ka, ud, us, pl, rp, ap, tb, M, L, W, U, S, rs, f, i, r, hl, rfl, rfl, hoY, ((st.up w1')).up wX, ((ta.up w1')).up wX, ((ra.up w1')).up wX, aa.keep f5.t, ((tt.up w1')).up wX, hv5, npl, hi, hri, hfi, hw, fun S6 T6 pl6 bs6 hi6 em6 es6 H6 f6 hpl6 npl6 st6 ta6 tt6 => ?_, fun S6 T6 pl6 hi6 em6 es6 c6 hn6 hc6 H6 f6 hpl6 npl6 st6 ta6 tt6 => ?_⟩
    · have f16 := f5.trans f6
      have ho6 := hoY.keep f6 (by simp; exact ⟨w4, w5, w1, w2, w3, w6⟩)
      obtain ⟨dx6, rm6, h61⟩ := id ho6
      have hpl16 : pl6 = pl ∨ H pl6 = none := by
        rcases hpl6 with e | e
        · exact .inl e
        · right
          cases z : H pl6 with
          | none => rfl
          | some u =>
            exfalso
            have z2 : H5 pl6 ≠ none := by
              by_cases hm : pl6 ∈ [ca, ka, tr, ud, us, tb]
              · obtain ⟨_, _, _, c2, c3, _⟩ := (((st.up w1')).up wX).ex
                obtain ⟨_, _, x2, _, _, x4, x5⟩ := (((ta.up w1')).up wX).ex
                obtain ⟨_, _, x6, _⟩ := (((tt.up w1')).up wX).ex
                simp at hm
                rcases hm with e | e | e | e | e | e
                · rw [e, c2]; simp
                · rw [e, c3]; simp
                · rw [e, x2]; simp
                · rw [e, x4]; simp
                · rw [e, x5]; simp
                · rw [e, x6]; simp
              · rw [f5.k _ _ hm z]; simp
            exact z2 e
      refine ⟨true, rfl, ?_⟩
      refine ⟨_, rfl, hp, _, dx6, _, _, rfl, h61, T.cl_House, T.n_House_rows_made, rfl, _, _, rfl, rfl, dx6, _, h61, by show 5 < 1000; omega, ?_⟩
      generalize hG : upd H6 hp _ = H7
      obtain ⟨f7, e7⟩ := gen_ins [hp] h61 hG (.head _)
      have ho7 : HInsAt K H7 hp np p tr rq := ⟨dx6, _, e7⟩
      have nplh : pl6 ≠ hp := by
        obtain ⟨_, _, _, x7, _⟩ := ta6.ex
        exact ne_kind x7 h61 nofun
      have st7 := st6.keep f7 (by simp; exact Ne.symm w4) (by simp; exact Ne.symm w5)
      have ta7 := ta6.keep f7 (by simp; exact Ne.symm w1) (by simp; exact Ne.symm w2) (by simp; exact Ne.symm w3) (by simp; exact nplh)
      have tt7 := tt6.keep f7 (by simp; exact Ne.symm w6)
      have ra7 := (((((ra.up w1')).up wX).keep f6 (by simp; exact ⟨y1, y2, y4, y5, y6, y3⟩)).keep f7 (by simp; exact Ne.symm w7))
      have f17 : Fr [hp, ca, ka, tr, ud, us, tb] H H7 := (f16.sub (by simp)).trans (f7.sub (by simp))
      have hcT : H7 c = some (.tup ((whole r).map V.int)) := (wX.tups.trans (f6.t.trans f7.t)) _ _ rfl hc'
      obtain ⟨tdxT, vbT, tT1, tT2⟩ := id (tt7).ex
      refine ⟨_, rfl, tb, _, tdxT, _, _, rfl, tT1, T.cl_Table, T.n_Table_length, rfl, _, rfl, c, _, rfl, .inr (SqT.of hcT), rfl, _, rfl, ?_⟩
      rw [List.length_map]
      have hri1 : (rs.set i ({ r with bs := bs6, len := (r.len + 1) } : ReqM))[i]? = some { r with bs := bs6, len := (r.len + 1) } := List.getElem?_set_self hi'
      have hset2 : ∀ x : ReqM, (rs.set i ({ r with bs := bs6, len := (r.len + 1) } : ReqM)).set i x = rs.set i x := fun x => set_set_same
      by_cases cT : (r.len + 1) = (whole r).length
      · rw [dec_t (show V.int (((r.len + 1) : Nat) : Int) = V.int ((whole r).length : Nat) by rw [cT])]
        have RT := (hi6).req i _ hri1
        have erT : tabRows S6 bs6 (r.len + 1) = rowsM M (whole r) := by
          have e2 : (whole r).take ((r.len + 1)) = whole r := by rw [cT, List.take_length]
          exact RT.rows.trans (congrArg (rowsM M) e2)
        have hbT := (hi6).bpos hri1
        have hbsh := RT.short (hi6).s0 (hi6).s8
        obtain ⟨rdxT, vtT, bgT, gvT, rT1, rT2⟩ := id (ra7).ex
        obtain ⟨dxT, rmT, hT1⟩ := id ho7
        refine ⟨_, rfl, rp, rdxT, _, rfl, rT1, rfl, _, rfl, hp, _, dxT, _, _, rfl, hT1, T.cl_House, T.n_House_net, rfl, _, rfl, tb, tdxT, _, rfl, tT1, rfl, ?_⟩
        refine ⟨_, rfl, tb, p, ca, ka, S6, bs6, (r.len + 1), rfl, st7, tt7, hbT, by have : (bs6).length ≤ 30 := hbsh.2; omega, fun HT v wT hv => ?_⟩
        rw [erT] at hv
        obtain ⟨cr, xr, rfl, hcr, hxr⟩ := id hv.tupI
        rcases List.eq_nil_or_concat (whole r) with eN | ⟨wh, lt, eW⟩
        · rw [eN] at hl; simp at hl
        rw [List.concat_eq_append] at eW
        have eRows : rowsM M (whole r) = rowsM M wh ++ [rowM M (rowsM M wh) lt] := by rw [eW, rowsM_snoc]
        have eWts : wts M (whole r) = (rowM M (rowsM M wh) lt).2 := by rw [eW, wts_snoc]
        rw [eRows, List.map_append] at hxr
        have hlen2 := hxr.len
        rcases List.eq_nil_or_concat xr with eX | ⟨xs0, xl, eX⟩
        · rw [eX] at hlen2; simp at hlen2
        rw [List.concat_eq_append] at eX
        subst eX
        have hlen3 : xs0.length = ((rowsM M wh).map dRow).length := by simpa using hlen2
        obtain ⟨dl, edl, hdl⟩ := hxr.get (i := xs0.length) (v := xl) (by rw [List.getElem?_append_right (Nat.le_refl _), Nat.sub_self]; rfl)
        rw [hlen3, List.getElem?_append_right (Nat.le_refl _), Nat.sub_self] at edl
        cases edl
        obtain ⟨c5, x5, rfl, hc5, hx5⟩ := id hdl.tupI
        cases hx5 with
        | cons g1 hx5 => ?_
        cases hx5 with
        | cons g2 hx5 => ?_
        cases hx5
        obtain ⟨c6, rfl, hc6⟩ := g2.vecI
        refine ⟨_, rfl, cr, _, _, _, rfl, rfl, SqT.of hcr, atI_last _ _, c5, _, _, _, rfl, rfl, SqT.of hc5, atI_nat (j := 1) rfl, ?_⟩
        have rok : RowOk M L W (rowM M (rowsM M wh) lt) := rowsM_ok hi.net (whole r) hlet _ (by rw [eRows]; simp)
        obtain ⟨cr1, cr2⟩ := (hi6).canRel hri1 hw (by show 0 < (r.len + 1); omega)
        obtain ⟨nx1, nx2, nx3⟩ := nextM_cases M.fin r.ask r.text (wts M (whole r)) (L := L) (p := 97) (by rw [eWts]; exact rok.l) (fun x hx => by rw [eWts] at hx; have := rok.ws x hx; omega) R.txt
        rw [← eWts] at hc6
        refine ⟨_, _, _, rfl, rp, ap, tb, p, ca, ka, np, c6, M, r.ask, L, r.text, wts M (whole r), S6, bs6, (r.len + 1), rfl, rfl, rfl, ?_, N.keep ((f17).trans (Fr.same wT)).t, aa.keep ((f17).trans (Fr.same wT)).t, R.ask, (st7).up wT, (tt7).up wT, cr1, by rw [eWts]; exact rok.l, by have := hi.net.l1; omega, hc6, fun x hx => ?_, R.txt, by omega, fun e HU fU rU => ?_, fun x e HU fU rU sU tU => ?_⟩
        · have := (ra7).up wT
          rw [hw] at this
          exact this
        · rw [eWts] at hx
          have := rok.ws x hx
          omega
        · -- no word yet
          obtain ⟨lt2, e2, _⟩ := nx3 e
          have eWh : whole ({ r with bs := bs6, len := (r.len + 1), text := (nextM M.fin r.ask r.text (wts M (whole r))).1 } : ReqM) = whole r ++ [lt2] := by
            show r.ask.prompt ++ (nextM M.fin r.ask r.text (wts M (whole r))).1 = _
            rw [e2, ← List.append_assoc]
            rfl
          have hUi := (hi6).write hri1 (r' := { r with bs := bs6, len := (r.len + 1), text := (nextM M.fin r.ask r.text (wts M (whole r))).1 }) rfl rfl rfl (fun z => (z hw).elim) (fun n hn => by
            rw [eWh]
            show _ = (whole r).take n
            have hn' : n ≤ (r.len + 1) := hn
            rw [List.take_append_of_le_length (by omega)]) (by rw [eWh, List.length_append]; show (r.len + 1) ≤ _; omega) nx1 (by show (nextM M.fin r.ask r.text (wts M (whole r))).1.length ≤ 8; omega)
          rw [hset2] at hUi
          have z4' := (tab_tree tt7 ta7).2.2.2
          refine q S6 T6 pl6 _ hUi em6 es6 ⟨rfl, .inr (.inr ⟨rfl, by rw [e]; exact hw, fun _ => ⟨?_, ?_⟩⟩)⟩ HU (((f17).sub (by simp)).trans ((Fr.same wT).trans (fU.sub (by simp)))) hpl16 npl6 ?_ (((st7).up wT).keep fU (by simp; exact Ne.symm y1) (by simp; exact Ne.symm y2)) (((ta7).up wT).keep fU (by simp; exact Ne.symm y4) (by simp; exact Ne.symm y5) (by simp; exact Ne.symm y6) (by simp; exact Ne.symm (req_tree ra7 ta7).2.2.2)) ?_ (((tt7).up wT).keep fU (by simp; exact Ne.symm y3))
          · show r.len < (r.len + 1)
            exact (by omega)
          · show (r.len + 1) < (whole _).length
            rw [eWh, List.length_append]
            show (r.len + 1) < (whole r).length + 1
            omega
          · exact (HInsAt.keep ho7 (Fr.same (S := []) wT) (by simp)).keep fU (by simp; exact w7)
          · show ReqAt K HU rp ap tb _ r.wd
            rw [hw]
            exact rU
        · -- a word
          have hUi := cr2.write (i := i) (r' := { r with bs := [], len := 0, text := (nextM M.fin r.ask r.text (wts M (whole r))).1, wd := some x }) (List.getElem?_set_self (by rw [List.length_set]; exact hi')) rfl rfl rfl (fun _ => ⟨rfl, rfl⟩) (fun n hn => by
            have hn' : n ≤ 0 := hn
            obtain rfl : n = 0 := by omega
            rfl) (Nat.zero_le _) nx1 (by show (nextM M.fin r.ask r.text (wts M (whole r))).1.length ≤ 8; omega)
          rw [hset2, set_set_same] at hUi
          rw [fset_fset] at hUi
          obtain ⟨rm1', rs1'⟩ := relAll_same (bs6).reverse S6
          have z4' := (tab_tree tt7 ta7).2.2.2
          refine q _ T6 pl6 { r with bs := [], len := 0, text := (nextM M.fin r.ask r.text (wts M (whole r))).1, wd := some x } (by
            show HI M L W _ _ _ (fset f i (0 / S.size))
            rw [Nat.zero_div]
            exact hUi) (rm1'.trans em6) (rs1'.trans es6) ⟨rfl, .inr (.inr ⟨rfl, e.symm, fun z => by cases z⟩)⟩ HU (((f17).sub (by simp)).trans ((Fr.same wT).trans (fU.sub (by simp)))) hpl16 npl6 ?_ sU (((ta7).up wT).keep fU (by simp; exact ⟨m1, m2, Ne.symm z1, Ne.symm y4⟩) (by simp; exact ⟨m3, m4, Ne.symm z2, Ne.symm y5⟩) (by simp; exact ⟨m5, m6, Ne.symm z3, Ne.symm y6⟩) (by
            have := npl6
            simp at this ⊢
            exact ⟨this.1, this.2, Ne.symm z4', Ne.symm (req_tree ra7 ta7).2.2.2⟩)) rU tU
          exact (HInsAt.keep ho7 (Fr.same (S := []) wT) (by simp)).keep fU (by simp; exact ⟨w4, w5, w6, w7⟩)
      · rw [dec_f (show V.int (((r.len + 1) : Nat) : Int) ≠ V.int ((whole r).length : Nat) from fun z => cT (by have := V.int.inj z; omega))]
        refine q S6 T6 pl6 _ hi6 em6 es6 ⟨rfl, .inr (.inl ⟨rfl, hw, ?_, ?_⟩)⟩ H7 ((f17).sub (by simp)) hpl16 npl6 ho7 st7 ta7 ra7 tt7
        · show r.len < (r.len + 1)
          exact (by omega)
        · show (r.len + 1) < (whole r).length
          have hle : (r.len + 1) ≤ (whole r).length := (by show r.len + 1 ≤ _; omega)
          omega
    · refine ⟨false, rfl, ?_⟩
      have f16 := f5.trans f6
      have ho6 := hoY.keep f6 (by simp; exact ⟨w4, w5, w1, w2, w3, w6⟩)
      have hpl16 : pl6 = pl ∨ H pl6 = none := by
        rcases hpl6 with e | e
        · exact .inl e
        · right
          cases z : H pl6 with
          | none => rfl
          | some u =>
            exfalso
            have z2 : H5 pl6 ≠ none := by
              by_cases hm : pl6 ∈ [ca, ka, tr, ud, us, tb]
              · obtain ⟨_, _, _, c2, c3, _⟩ := (((st.up w1')).up wX).ex
                obtain ⟨_, _, x2, _, _, x4, x5⟩ := (((ta.up w1')).up wX).ex
                obtain ⟨_, _, x6, _⟩ := (((tt.up w1')).up wX).ex
                simp at hm
                rcases hm with e | e | e | e | e | e
                · rw [e, c2]; simp
                · rw [e, c3]; simp
                · rw [e, x2]; simp
                · rw [e, x4]; simp
                · rw [e, x5]; simp
                · rw [e, x6]; simp
              · rw [f5.k _ _ hm z]; simp
            exact z2 e
      have hset : rs.set i r = rs := set_self hri
      have hfs : fset f i (r.len / S.size) = f := by rw [← hfi]; funext j; unfold fset; split; (rename_i z; rw [z]); rfl
      exact q S6 T6 pl6 r (by rw [hset, hfs]; exact hi6) em6 es6 ⟨rfl, .inl ⟨rfl, by rw [es6]; exact c6, hn6, hc6⟩⟩ H6 (f16.sub (by simp)) hpl16 npl6 ho6 st6 ta6 ((((ra.up w1')).up wX).keep f6 (by simp; exact ⟨y1, y2, y4, y5, y6, y3⟩)) tt6
  · have fc9 : Tups H1 H2 := f2.t
    have hi2 := hi.used (ps := U.begs S.size ((whole r).take (r.len + S.size))) fun x hx => begs_mem hi _ x hx
    have hoX := ho.keep ((Fr.same (S := [ca, ka, tr, ud, us]) w1').trans (f2.sub (by simp))) (by simp; exact ⟨w4, w5, w1, w2, w3⟩)
    obtain ⟨dxX, rmX, hX1⟩ := id hoX
    obtain ⟨tdxX, vbX, tX1, _⟩ := id (((tt.up w1').keep f2 (by simp; exact ⟨z1, z3⟩))).ex
    have hcX := (fc9) _ _ rfl hc'
    have hb1 := (hi2).bpos hri
    have erow := ((hi2).req i r hri).rows
    refine ⟨false, rfl, _, rfl, hp, _, dxX, _, _, rfl, hX1, T.cl_House, T.n_House_net, rfl, ?_⟩
    have NX := N.keep (((Fr.same (S := [ca, ka, tr, ud, us]) w1').trans (f2.sub (by simp)))).t
    obtain ⟨ndx, nve, nvs, nvl, nvo, nvf, nn, _⟩ := id NX.ex
    refine ⟨np, ndx, _, rfl, nn, rfl, _, rfl, tb, tdxX, _, rfl, tX1, rfl, _, rfl, tb, p, ca, ka, S, r.bs, r.len, rfl, ((st.up w1').keep f2 (by simp; exact ⟨Ne.symm m1, Ne.symm m5⟩) (by simp; exact ⟨Ne.symm m2, Ne.symm m6⟩)), ((tt.up w1').keep f2 (by simp; exact ⟨z1, z3⟩)), hb1, by omega, fun H4 v w4' hv => ?_⟩
    rw [erow] at hv
    obtain ⟨cv, xsv, rfl, hcv, _⟩ := id hv.tupI
    have hlx : (whole r)[r.len]? = some (whole r)[r.len] := List.getElem?_eq_getElem hl
    obtain ⟨l0, l1⟩ := hlet _ (List.getElem_mem hl)
    refine ⟨_, rfl, _, rfl, tb, _, tdxX, _, _, rfl, w4' _ _ tX1, T.cl_Table, T.n_Table_length, rfl, c, _, _, _, rfl, rfl, SqT.of (w4' _ _ hcX), atI_nat (getMap hlx), ?_⟩
    refine ⟨_, _, _, rfl, np, M, L, W, cv, rowsM M ((whole r).take r.len), _, rfl, rfl, rfl, NX.up w4', hi.net, hv, rowsM_ok hi.net _ (fun x hx => hlet x (List.mem_of_mem_take hx)), ?_, l0, l1, fun H5 v5 w5' hv5 => ?_⟩
    · rw [rowsM_len, List.length_take]; omega
    have wX := w4'.trans w5'
    have hoY := hoX.keep (Fr.same (S := []) wX) (by simp)
    obtain ⟨dxY, rmY, hY1⟩ := id hoY
    have f5 : Fr [ca, ka, tr, ud, us, tb] H H5 := ((((Fr.same (S := [ca, ka, tr, ud, us]) w1').trans (f2.sub (by simp)))).sub (by simp)).trans (Fr.same wX)
    refine ⟨_, rfl, hp, dxY, _, rfl, hY1, rfl, _, rfl, _, rfl, ?_⟩
    refine ⟨_, _, _, rfl, hp, np, p, tr, rq, ca, ka, ud, us, pl, rp, ap, tb, M, L, W, (U.use (U.begs S.size ((whole r).take (r.len + S.size)))), S, rs, f, i, r, hl, rfl, rfl, hoY, (((st.up w1').keep f2 (by simp; exact ⟨Ne.symm m1, Ne.symm m5⟩) (by simp; exact ⟨Ne.symm m2, Ne.symm m6⟩))).up wX, (ta2).up wX, (((ra.up w1').keep f2 (by simp; exact ⟨y4, y6⟩))).up wX, aa.keep f5.t, (((tt.up w1').keep f2 (by simp; exact ⟨z1, z3⟩))).up wX, hv5, npl, hi2, hri, hfi, hw, fun S6 T6 pl6 bs6 hi6 em6 es6 H6 f6 hpl6 npl6 st6 ta6 tt6 => ?_, fun S6 T6 pl6 hi6 em6 es6 c6 hn6 hc6 H6 f6 hpl6 npl6 st6 ta6 tt6 => ?_⟩
    · have f16 := f5.trans f6
      have ho6 := hoY.keep f6 (by simp; exact ⟨w4, w5, w1, w2, w3, w6⟩)
      obtain ⟨dx6, rm6, h61⟩ := id ho6
      have hpl16 : pl6 = pl ∨ H pl6 = none := by
        rcases hpl6 with e | e
        · exact .inl e
        · right
          cases z : H pl6 with
          | none => rfl
          | some u =>
            exfalso
            have z2 : H5 pl6 ≠ none := by
              by_cases hm : pl6 ∈ [ca, ka, tr, ud, us, tb]
              · obtain ⟨_, _, _, c2, c3, _⟩ := ((((st.up w1').keep f2 (by simp; exact ⟨Ne.symm m1, Ne.symm m5⟩) (by simp; exact ⟨Ne.symm m2, Ne.symm m6⟩))).up wX).ex
                obtain ⟨_, _, x2, _, _, x4, x5⟩ := ((ta2).up wX).ex
                obtain ⟨_, _, x6, _⟩ := ((((tt.up w1').keep f2 (by simp; exact ⟨z1, z3⟩))).up wX).ex
                simp at hm
                rcases hm with e | e | e | e | e | e
                · rw [e, c2]; simp
                · rw [e, c3]; simp
                · rw [e, x2]; simp
                · rw [e, x4]; simp
                · rw [e, x5]; simp
                · rw [e, x6]; simp
              · rw [f5.k _ _ hm z]; simp
            exact z2 e
      refine ⟨true, rfl, ?_⟩
      refine ⟨_, rfl, hp, _, dx6, _, _, rfl, h61, T.cl_House, T.n_House_rows_made, rfl, _, _, rfl, rfl, dx6, _, h61, by show 5 < 1000; omega, ?_⟩
      generalize hG : upd H6 hp _ = H7
      obtain ⟨f7, e7⟩ := gen_ins [hp] h61 hG (.head _)
      have ho7 : HInsAt K H7 hp np p tr rq := ⟨dx6, _, e7⟩
      have nplh : pl6 ≠ hp := by
        obtain ⟨_, _, _, x7, _⟩ := ta6.ex
        exact ne_kind x7 h61 nofun
      have st7 := st6.keep f7 (by simp; exact Ne.symm w4) (by simp; exact Ne.symm w5)
      have ta7 := ta6.keep f7 (by simp; exact Ne.symm w1) (by simp; exact Ne.symm w2) (by simp; exact Ne.symm w3) (by simp; exact nplh)
      have tt7 := tt6.keep f7 (by simp; exact Ne.symm w6)
      have ra7 := ((((((ra.up w1').keep f2 (by simp; exact ⟨y4, y6⟩))).up wX).keep f6 (by simp; exact ⟨y1, y2, y4, y5, y6, y3⟩)).keep f7 (by simp; exact Ne.symm w7))
      have f17 : Fr [hp, ca, ka, tr, ud, us, tb] H H7 := (f16.sub (by simp)).trans (f7.sub (by simp))
      have hcT : H7 c = some (.tup ((whole r).map V.int)) := (f2.t.trans (wX.tups.trans (f6.t.trans f7.t))) _ _ rfl hc'
      obtain ⟨tdxT, vbT, tT1, tT2⟩ := id (tt7).ex
      refine ⟨_, rfl, tb, _, tdxT, _, _, rfl, tT1, T.cl_Table, T.n_Table_length, rfl, _, rfl, c, _, rfl, .inr (SqT.of hcT), rfl, _, rfl, ?_⟩
      rw [List.length_map]
      have hri1 : (rs.set i ({ r with bs := bs6, len := (r.len + 1) } : ReqM))[i]? = some { r with bs := bs6, len := (r.len + 1) } := List.getElem?_set_self hi'
      have hset2 : ∀ x : ReqM, (rs.set i ({ r with bs := bs6, len := (r.len + 1) } : ReqM)).set i x = rs.set i x := fun x => set_set_same
      by_cases cT : (r.len + 1) = (whole r).length
      · rw [dec_t (show V.int (((r.len + 1) : Nat) : Int) = V.int ((whole r).length : Nat) by rw [cT])]
        have RT := (hi6).req i _ hri1
        have erT : tabRows S6 bs6 (r.len + 1) = rowsM M (whole r) := by
          have e2 : (whole r).take ((r.len + 1)) = whole r := by rw [cT, List.take_length]
          exact RT.rows.trans (congrArg (rowsM M) e2)
        have hbT := (hi6).bpos hri1
        have hbsh := RT.short (hi6).s0 (hi6).s8
        obtain ⟨rdxT, vtT, bgT, gvT, rT1, rT2⟩ := id (ra7).ex
        obtain ⟨dxT, rmT, hT1⟩ := id ho7
        refine ⟨_, rfl, rp, rdxT, _, rfl, rT1, rfl, _, rfl, hp, _, dxT, _, _, rfl, hT1, T.cl_House, T.n_House_net, rfl, _, rfl, tb, tdxT, _, rfl, tT1, rfl, ?_⟩
        refine ⟨_, rfl, tb, p, ca, ka, S6, bs6, (r.len + 1), rfl, st7, tt7, hbT, by have : (bs6).length ≤ 30 := hbsh.2; omega, fun HT v wT hv => ?_⟩
        rw [erT] at hv
        obtain ⟨cr, xr, rfl, hcr, hxr⟩ := id hv.tupI
        rcases List.eq_nil_or_concat (whole r) with eN | ⟨wh, lt, eW⟩
        · rw [eN] at hl; simp at hl
        rw [List.concat_eq_append] at eW
        have eRows : rowsM M (whole r) = rowsM M wh ++ [rowM M (rowsM M wh) lt] := by rw [eW, rowsM_snoc]
        have eWts : wts M (whole r) = (rowM M (rowsM M wh) lt).2 := by rw [eW, wts_snoc]
        rw [eRows, List.map_append] at hxr
        have hlen2 := hxr.len
        rcases List.eq_nil_or_concat xr with eX | ⟨xs0, xl, eX⟩
        · rw [eX] at hlen2; simp at hlen2
        rw [List.concat_eq_append] at eX
        subst eX
        have hlen3 : xs0.length = ((rowsM M wh).map dRow).length := by simpa using hlen2
        obtain ⟨dl, edl, hdl⟩ := hxr.get (i := xs0.length) (v := xl) (by rw [List.getElem?_append_right (Nat.le_refl _), Nat.sub_self]; rfl)
        rw [hlen3, List.getElem?_append_right (Nat.le_refl _), Nat.sub_self] at edl
        cases edl
        obtain ⟨c5, x5, rfl, hc5, hx5⟩ := id hdl.tupI
        cases hx5 with
        | cons g1 hx5 => ?_
        cases hx5 with
        | cons g2 hx5 => ?_
        cases hx5
        obtain ⟨c6, rfl, hc6⟩ := g2.vecI
        refine ⟨_, rfl, cr, _, _, _, rfl, rfl, SqT.of hcr, atI_last _ _, c5, _, _, _, rfl, rfl, SqT.of hc5, atI_nat (j := 1) rfl, ?_⟩
        have rok : RowOk M L W (rowM M (rowsM M wh) lt) := rowsM_ok hi.net (whole r) hlet _ (by rw [eRows]; simp)
        obtain ⟨cr1, cr2⟩ := (hi6).canRel hri1 hw (by show 0 < (r.len + 1); omega)
        obtain ⟨nx1, nx2, nx3⟩ := nextM_cases M.fin r.ask r.text (wts M (whole r)) (L := L) (p := 97) (by rw [eWts]; exact rok.l) (fun x hx => by rw [eWts] at hx; have := rok.ws x hx; omega) R.txt
        rw [← eWts] at hc6
        refine ⟨_, _, _, rfl, rp, ap, tb, p, ca, ka, np, c6, M, r.ask, L, r.text, wts M (whole r), S6, bs6, (r.len + 1), rfl, rfl, rfl, ?_, N.keep ((f17).trans (Fr.same wT)).t, aa.keep ((f17).trans (Fr.same wT)).t, R.ask, (st7).up wT, (tt7).up wT, cr1, by rw [eWts]; exact rok.l, by have := hi.net.l1; omega, hc6, fun x hx => ?_, R.txt, by omega, fun e HU fU rU => ?_, fun x e HU fU rU sU tU => ?_⟩
        · have := (ra7).up wT
          rw [hw] at this
          exact this
        · rw [eWts] at hx
          have := rok.ws x hx
          omega
        · -- no word yet
          obtain ⟨lt2, e2, _⟩ := nx3 e
          have eWh : whole ({ r with bs := bs6, len := (r.len + 1), text := (nextM M.fin r.ask r.text (wts M (whole r))).1 } : ReqM) = whole r ++ [lt2] := by
            show r.ask.prompt ++ (nextM M.fin r.ask r.text (wts M (whole r))).1 = _
            rw [e2, ← List.append_assoc]
            rfl
          have hUi := (hi6).write hri1 (r' := { r with bs := bs6, len := (r.len + 1), text := (nextM M.fin r.ask r.text (wts M (whole r))).1 }) rfl rfl rfl (fun z => (z hw).elim) (fun n hn => by
            rw [eWh]
            show _ = (whole r).take n
            have hn' : n ≤ (r.len + 1) := hn
            rw [List.take_append_of_le_length (by omega)]) (by rw [eWh, List.length_append]; show (r.len + 1) ≤ _; omega) nx1 (by show (nextM M.fin r.ask r.text (wts M (whole r))).1.length ≤ 8; omega)
          rw [hset2] at hUi
          have z4' := (tab_tree tt7 ta7).2.2.2
          refine q S6 T6 pl6 _ hUi em6 es6 ⟨rfl, .inr (.inr ⟨rfl, by rw [e]; exact hw, fun _ => ⟨?_, ?_⟩⟩)⟩ HU (((f17).sub (by simp)).trans ((Fr.same wT).trans (fU.sub (by simp)))) hpl16 npl6 ?_ (((st7).up wT).keep fU (by simp; exact Ne.symm y1) (by simp; exact Ne.symm y2)) (((ta7).up wT).keep fU (by simp; exact Ne.symm y4) (by simp; exact Ne.symm y5) (by simp; exact Ne.symm y6) (by simp; exact Ne.symm (req_tree ra7 ta7).2.2.2)) ?_ (((tt7).up wT).keep fU (by simp; exact Ne.symm y3))
          · show r.len < (r.len + 1)
            exact (by omega)
          · show (r.len + 1) < (whole _).length
            rw [eWh, List.length_append]
            show (r.len + 1) < (whole r).length + 1
            omega
          · exact (HInsAt.keep ho7 (Fr.same (S := []) wT) (by simp)).keep fU (by simp; exact w7)
          · show ReqAt K HU rp ap tb _ r.wd
            rw [hw]
            exact rU
        · -- a word
          have hUi := cr2.write (i := i) (r' := { r with bs := [], len := 0, text := (nextM M.fin r.ask r.text (wts M (whole r))).1, wd := some x }) (List.getElem?_set_self (by rw [List.length_set]; exact hi')) rfl rfl rfl (fun _ => ⟨rfl, rfl⟩) (fun n hn => by
            have hn' : n ≤ 0 := hn
            obtain rfl : n = 0 := by omega
            rfl) (Nat.zero_le _) nx1 (by show (nextM M.fin r.ask r.text (wts M (whole r))).1.length ≤ 8; omega)
          rw [hset2, set_set_same] at hUi
          rw [fset_fset] at hUi
          obtain ⟨rm1', rs1'⟩ := relAll_same (bs6).reverse S6
          have z4' := (tab_tree tt7 ta7).2.2.2
          refine q _ T6 pl6 { r with bs := [], len := 0, text := (nextM M.fin r.ask r.text (wts M (whole r))).1, wd := some x } (by
            show HI M L W _ _ _ (fset f i (0 / S.size))
            rw [Nat.zero_div]
            exact hUi) (rm1'.trans em6) (rs1'.trans es6) ⟨rfl, .inr (.inr ⟨rfl, e.symm, fun z => by cases z⟩)⟩ HU (((f17).sub (by simp)).trans ((Fr.same wT).trans (fU.sub (by simp)))) hpl16 npl6 ?_ sU (((ta7).up wT).keep fU (by simp; exact ⟨m1, m2, Ne.symm z1, Ne.symm y4⟩) (by simp; exact ⟨m3, m4, Ne.symm z2, Ne.symm y5⟩) (by simp; exact ⟨m5, m6, Ne.symm z3, Ne.symm y6⟩) (by
            have := npl6
            simp at this ⊢
            exact ⟨this.1, this.2, Ne.symm z4', Ne.symm (req_tree ra7 ta7).2.2.2⟩)) rU tU
          exact (HInsAt.keep ho7 (Fr.same (S := []) wT) (by simp)).keep fU (by simp; exact ⟨w4, w5, w6, w7⟩)
      · rw [dec_f (show V.int (((r.len + 1) : Nat) : Int) ≠ V.int ((whole r).length : Nat) from fun z => cT (by have := V.int.inj z; omega))]
        refine q S6 T6 pl6 _ hi6 em6 es6 ⟨rfl, .inr (.inl ⟨rfl, hw, ?_, ?_⟩)⟩ H7 ((f17).sub (by simp)) hpl16 npl6 ho7 st7 ta7 ra7 tt7
        · show r.len < (r.len + 1)
          exact (by omega)
        · show (r.len + 1) < (whole r).length
          have hle : (r.len + 1) ≤ (whole r).length := (by show r.len + 1 ≤ _; omega)
          omega
    · refine ⟨false, rfl, ?_⟩
      have f16 := f5.trans f6
      have ho6 := hoY.keep f6 (by simp; exact ⟨w4, w5, w1, w2, w3, w6⟩)
      have hpl16 : pl6 = pl ∨ H pl6 = none := by
        rcases hpl6 with e | e
        · exact .inl e
        · right
          cases z : H pl6 with
          | none => rfl
          | some u =>
            exfalso
            have z2 : H5 pl6 ≠ none := by
              by_cases hm : pl6 ∈ [ca, ka, tr, ud, us, tb]
              · obtain ⟨_, _, _, c2, c3, _⟩ := ((((st.up w1').keep f2 (by simp; exact ⟨Ne.symm m1, Ne.symm m5⟩) (by simp; exact ⟨Ne.symm m2, Ne.symm m6⟩))).up wX).ex
                obtain ⟨_, _, x2, _, _, x4, x5⟩ := ((ta2).up wX).ex
                obtain ⟨_, _, x6, _⟩ := ((((tt.up w1').keep f2 (by simp; exact ⟨z1, z3⟩))).up wX).ex
                simp at hm
                rcases hm with e | e | e | e | e | e
                · rw [e, c2]; simp
                · rw [e, c3]; simp
                · rw [e, x2]; simp
                · rw [e, x4]; simp
                · rw [e, x5]; simp
                · rw [e, x6]; simp
              · rw [f5.k _ _ hm z]; simp
            exact z2 e
      have hset : rs.set i r = rs := set_self hri
      have hfs : fset f i (r.len / S.size) = f := by rw [← hfi]; funext j; unfold fset; split; (rename_i z; rw [z]); rfl
      exact q S6 T6 pl6 r (by rw [hset, hfs]; exact hi6) em6 es6 ⟨rfl, .inl ⟨rfl, by rw [es6]; exact c6, hn6, hc6⟩⟩ H6 (f16.sub (by simp)) hpl16 npl6 ho6 st6 ta6 (((((ra.up w1').keep f2 (by simp; exact ⟨y4, y6⟩))).up wX).keep f6 (by simp; exact ⟨y1, y2, y4, y5, y6, y3⟩)) tt6
  · -- a known block is taken over
    have hle : r.len + S.size ≤ (whole r).length := k2
    have hls : ((whole r).take (r.len + S.size)).length = r.len + S.size := by rw [List.length_take, Nat.min_eq_left hle]
    have kb' : U.begs S.size ((whole r).take (r.len + S.size)) = xs ++ [x] := kb
    obtain ⟨ex, _⟩ := begs_last s0 kb' (by rw [hls]; exact k3)
    have hxp : (whole r).take (r.len + S.size) ∈ U.paths := by
      rw [← ex]
      exact begs_mem hi _ x (by rw [kb']; simp)
    subst ex
    have en : n = S.c (U.blk ((whole r).take (r.len + S.size))) := by
      have := StoreM.c_at kn
      exact this.symm
    subst en
    have hkn := hi.known hri hfi hw k1 hle hxp
    have hdv : (r.len + S.size) / S.size = f i + 1 := by rw [Nat.add_div_right _ s0, hfi]
    have hi6 := hkn.used (ps := U.begs S.size ((whole r).take (r.len + S.size))) fun x hx => begs_mem hi _ x hx
    rw [← hdv] at hi6
    have ho6 := ho1.keep f2 (by simp; exact ⟨w4, w5, w6, w1, w3⟩)
    have ra6 := (ra.up w1').keep f2 (by simp; exact ⟨y1, y2, y3, y4, y6⟩)
    have f16 : Fr [hp, ca, ka, tr, ud, us, tb] H H2 := (Fr.same w1').trans (f2.sub (by simp))
    have fcT : Tups H1 H2 := f2.t
    have em6 : (S.setC (U.blk ((whole r).take (r.len + S.size))) (S.c (U.blk ((whole r).take (r.len + S.size))) + 1)).many = S.many := rfl
    have es6 : (S.setC (U.blk ((whole r).take (r.len + S.size))) (S.c (U.blk ((whole r).take (r.len + S.size))) + 1)).size = S.size := rfl
    refine ⟨true, rfl, ?_⟩
    have hcT : H2 c = some (.tup ((whole r).map V.int)) := fcT _ _ rfl hc'
    obtain ⟨tdxT, vbT, tT1, tT2⟩ := id (tt2).ex
    refine ⟨_, rfl, tb, _, tdxT, _, _, rfl, tT1, T.cl_Table, T.n_Table_length, rfl, _, rfl, c, _, rfl, .inr (SqT.of hcT), rfl, _, rfl, ?_⟩
    rw [List.length_map]
    have hri1 : (rs.set i ({ r with bs := (r.bs ++ [U.blk ((whole r).take (r.len + S.size))]), len := (r.len + S.size) } : ReqM))[i]? = some { r with bs := (r.bs ++ [U.blk ((whole r).take (r.len + S.size))]), len := (r.len + S.size) } := List.getElem?_set_self hi'
    have hset2 : ∀ x : ReqM, (rs.set i ({ r with bs := (r.bs ++ [U.blk ((whole r).take (r.len + S.size))]), len := (r.len + S.size) } : ReqM)).set i x = rs.set i x := fun x => set_set_same
    by_cases cT : (r.len + S.size) = (whole r).length
    · rw [dec_t (show V.int (((r.len + S.size) : Nat) : Int) = V.int ((whole r).length : Nat) by rw [cT])]
      have RT := (hi6).req i _ hri1
      have erT : tabRows (S.setC (U.blk ((whole r).take (r.len + S.size))) (S.c (U.blk ((whole r).take (r.len + S.size))) + 1)) (r.bs ++ [U.blk ((whole r).take (r.len + S.size))]) (r.len + S.size) = rowsM M (whole r) := by
        have e2 : (whole r).take ((r.len + S.size)) = whole r := by rw [cT, List.take_length]
        exact RT.rows.trans (congrArg (rowsM M) e2)
      have hbT := (hi6).bpos hri1
      have hbsh := RT.short (hi6).s0 (hi6).s8
      obtain ⟨rdxT, vtT, bgT, gvT, rT1, rT2⟩ := id (ra6).ex
      obtain ⟨dxT, rmT, hT1⟩ := id ho6
      refine ⟨_, rfl, rp, rdxT, _, rfl, rT1, rfl, _, rfl, hp, _, dxT, _, _, rfl, hT1, T.cl_House, T.n_House_net, rfl, _, rfl, tb, tdxT, _, rfl, tT1, rfl, ?_⟩
      refine ⟨_, rfl, tb, p, ca, ka, (S.setC (U.blk ((whole r).take (r.len + S.size))) (S.c (U.blk ((whole r).take (r.len + S.size))) + 1)), (r.bs ++ [U.blk ((whole r).take (r.len + S.size))]), (r.len + S.size), rfl, st2, tt2, hbT, by have : ((r.bs ++ [U.blk ((whole r).take (r.len + S.size))])).length ≤ 30 := hbsh.2; omega, fun HT v wT hv => ?_⟩
      rw [erT] at hv
      obtain ⟨cr, xr, rfl, hcr, hxr⟩ := id hv.tupI
      rcases List.eq_nil_or_concat (whole r) with eN | ⟨wh, lt, eW⟩
      · rw [eN] at hl; simp at hl
      rw [List.concat_eq_append] at eW
      have eRows : rowsM M (whole r) = rowsM M wh ++ [rowM M (rowsM M wh) lt] := by rw [eW, rowsM_snoc]
      have eWts : wts M (whole r) = (rowM M (rowsM M wh) lt).2 := by rw [eW, wts_snoc]
      rw [eRows, List.map_append] at hxr
      have hlen2 := hxr.len
      rcases List.eq_nil_or_concat xr with eX | ⟨xs0, xl, eX⟩
      · rw [eX] at hlen2; simp at hlen2
      rw [List.concat_eq_append] at eX
      subst eX
      have hlen3 : xs0.length = ((rowsM M wh).map dRow).length := by simpa using hlen2
      obtain ⟨dl, edl, hdl⟩ := hxr.get (i := xs0.length) (v := xl) (by rw [List.getElem?_append_right (Nat.le_refl _), Nat.sub_self]; rfl)
      rw [hlen3, List.getElem?_append_right (Nat.le_refl _), Nat.sub_self] at edl
      cases edl
      obtain ⟨c5, x5, rfl, hc5, hx5⟩ := id hdl.tupI
      cases hx5 with
      | cons g1 hx5 => ?_
      cases hx5 with
      | cons g2 hx5 => ?_
      cases hx5
      obtain ⟨c6, rfl, hc6⟩ := g2.vecI
      refine ⟨_, rfl, cr, _, _, _, rfl, rfl, SqT.of hcr, atI_last _ _, c5, _, _, _, rfl, rfl, SqT.of hc5, atI_nat (j := 1) rfl, ?_⟩
      have rok : RowOk M L W (rowM M (rowsM M wh) lt) := rowsM_ok hi.net (whole r) hlet _ (by rw [eRows]; simp)
      obtain ⟨cr1, cr2⟩ := (hi6).canRel hri1 hw (by show 0 < (r.len + S.size); omega)
      obtain ⟨nx1, nx2, nx3⟩ := nextM_cases M.fin r.ask r.text (wts M (whole r)) (L := L) (p := 97) (by rw [eWts]; exact rok.l) (fun x hx => by rw [eWts] at hx; have := rok.ws x hx; omega) R.txt
      rw [← eWts] at hc6
      refine ⟨_, _, _, rfl, rp, ap, tb, p, ca, ka, np, c6, M, r.ask, L, r.text, wts M (whole r), (S.setC (U.blk ((whole r).take (r.len + S.size))) (S.c (U.blk ((whole r).take (r.len + S.size))) + 1)), (r.bs ++ [U.blk ((whole r).take (r.len + S.size))]), (r.len + S.size), rfl, rfl, rfl, ?_, N.keep ((f16).trans (Fr.same wT)).t, aa.keep ((f16).trans (Fr.same wT)).t, R.ask, (st2).up wT, (tt2).up wT, cr1, by rw [eWts]; exact rok.l, by have := hi.net.l1; omega, hc6, fun x hx => ?_, R.txt, by omega, fun e HU fU rU => ?_, fun x e HU fU rU sU tU => ?_⟩
      · have := (ra6).up wT
        rw [hw] at this
        exact this
      · rw [eWts] at hx
        have := rok.ws x hx
        omega
      · -- no word yet
        obtain ⟨lt2, e2, _⟩ := nx3 e
        have eWh : whole ({ r with bs := (r.bs ++ [U.blk ((whole r).take (r.len + S.size))]), len := (r.len + S.size), text := (nextM M.fin r.ask r.text (wts M (whole r))).1 } : ReqM) = whole r ++ [lt2] := by
          show r.ask.prompt ++ (nextM M.fin r.ask r.text (wts M (whole r))).1 = _
          rw [e2, ← List.append_assoc]
          rfl
        have hUi := (hi6).write hri1 (r' := { r with bs := (r.bs ++ [U.blk ((whole r).take (r.len + S.size))]), len := (r.len + S.size), text := (nextM M.fin r.ask r.text (wts M (whole r))).1 }) rfl rfl rfl (fun z => (z hw).elim) (fun n hn => by
          rw [eWh]
          show _ = (whole r).take n
          have hn' : n ≤ (r.len + S.size) := hn
          rw [List.take_append_of_le_length (by omega)]) (by rw [eWh, List.length_append]; show (r.len + S.size) ≤ _; omega) nx1 (by show (nextM M.fin r.ask r.text (wts M (whole r))).1.length ≤ 8; omega)
        rw [hset2] at hUi
        have z4' := (tab_tree tt2 ta2).2.2.2
        refine q (S.setC (U.blk ((whole r).take (r.len + S.size))) (S.c (U.blk ((whole r).take (r.len + S.size))) + 1)) (U.use (U.begs S.size ((whole r).take (r.len + S.size)))) pl _ hUi em6 es6 ⟨rfl, .inr (.inr ⟨rfl, by rw [e]; exact hw, fun _ => ⟨?_, ?_⟩⟩)⟩ HU (((f16).sub (by simp)).trans ((Fr.same wT).trans (fU.sub (by simp)))) (.inl rfl) npl ?_ (((st2).up wT).keep fU (by simp; exact Ne.symm y1) (by simp; exact Ne.symm y2)) (((ta2).up wT).keep fU (by simp; exact Ne.symm y4) (by simp; exact Ne.symm y5) (by simp; exact Ne.symm y6) (by simp; exact Ne.symm (req_tree ra6 ta2).2.2.2)) ?_ (((tt2).up wT).keep fU (by simp; exact Ne.symm y3))
        · show r.len < (r.len + S.size)
          exact (show r.len < r.len + S.size by omega)
        · show (r.len + S.size) < (whole _).length
          rw [eWh, List.length_append]
          show (r.len + S.size) < (whole r).length + 1
          omega
        · exact (HInsAt.keep ho6 (Fr.same (S := []) wT) (by simp)).keep fU (by simp; exact w7)
        · show ReqAt K HU rp ap tb _ r.wd
          rw [hw]
          exact rU
      · -- a word
        have hUi := cr2.write (i := i) (r' := { r with bs := [], len := 0, text := (nextM M.fin r.ask r.text (wts M (whole r))).1, wd := some x }) (List.getElem?_set_self (by rw [List.length_set]; exact hi')) rfl rfl rfl (fun _ => ⟨rfl, rfl⟩) (fun n hn => by
          have hn' : n ≤ 0 := hn
          obtain rfl : n = 0 := by omega
          rfl) (Nat.zero_le _) nx1 (by show (nextM M.fin r.ask r.text (wts M (whole r))).1.length ≤ 8; omega)
        rw [hset2, set_set_same] at hUi
        rw [fset_fset] at hUi
        obtain ⟨rm1', rs1'⟩ := relAll_same ((r.bs ++ [U.blk ((whole r).take (r.len + S.size))])).reverse (S.setC (U.blk ((whole r).take (r.len + S.size))) (S.c (U.blk ((whole r).take (r.len + S.size))) + 1))
        have z4' := (tab_tree tt2 ta2).2.2.2
        refine q _ (U.use (U.begs S.size ((whole r).take (r.len + S.size)))) pl { r with bs := [], len := 0, text := (nextM M.fin r.ask r.text (wts M (whole r))).1, wd := some x } (by
          show HI M L W _ _ _ (fset f i (0 / S.size))
          rw [Nat.zero_div]
          exact hUi) (rm1'.trans em6) (rs1'.trans es6) ⟨rfl, .inr (.inr ⟨rfl, e.symm, fun z => by cases z⟩)⟩ HU (((f16).sub (by simp)).trans ((Fr.same wT).trans (fU.sub (by simp)))) (.inl rfl) npl ?_ sU (((ta2).up wT).keep fU (by simp; exact ⟨m1, m2, Ne.symm z1, Ne.symm y4⟩) (by simp; exact ⟨m3, m4, Ne.symm z2, Ne.symm y5⟩) (by simp; exact ⟨m5, m6, Ne.symm z3, Ne.symm y6⟩) (by
          have := npl
          simp at this ⊢
          exact ⟨this.1, this.2, Ne.symm z4', Ne.symm (req_tree ra6 ta2).2.2.2⟩)) rU tU
        exact (HInsAt.keep ho6 (Fr.same (S := []) wT) (by simp)).keep fU (by simp; exact ⟨w4, w5, w6, w7⟩)
    · rw [dec_f (show V.int (((r.len + S.size) : Nat) : Int) ≠ V.int ((whole r).length : Nat) from fun z => cT (by have := V.int.inj z; omega))]
      refine q (S.setC (U.blk ((whole r).take (r.len + S.size))) (S.c (U.blk ((whole r).take (r.len + S.size))) + 1)) (U.use (U.begs S.size ((whole r).take (r.len + S.size)))) pl _ hi6 em6 es6 ⟨rfl, .inr (.inl ⟨rfl, hw, ?_, ?_⟩)⟩ H2 ((f16).sub (by simp)) (.inl rfl) npl ho6 st2 ta2 ra6 tt2
      · show r.len < (r.len + S.size)
        exact (show r.len < r.len + S.size by omega)
      · show (r.len + S.size) < (whole r).length
        have hle : (r.len + S.size) ≤ (whole r).length := hle
        omega
end
end Sv
end
section
set_option autoImplicit false
set_option linter.all false
set_option maxRecDepth 100000
set_option maxHeartbeats 1000000
/-! The house in plain Lean: texts that are reached; where room is for all, a row is always put. -/
namespace Sv
inductive Reach (M : NetM) (a : AskM) : List Int → Option Wd → Prop
  | start : Reach M a [] none
  | step {t : List Int} : Reach M a t none → Reach M a (nextM M.fin a t (wts M (a.prompt ++ t))).1 (nextM M.fin a t (wts M (a.prompt ++ t))).2
theorem nextM_none {fin : Option Int} {a : AskM} {t ws : List Int} (h : (nextM fin a t ws).2 = none) : ∃ l, choiceM a ws t = some l ∧ (nextM fin a t ws).1 = t ++ [l] ∧ ((t.length + 1 : Nat) : Int) ≠ a.most := by
  unfold nextM at h ⊢
  cases e : choiceM a ws t with
  | none => rw [e] at h; cases h
  | some l =>
    rw [e] at h
    dsimp only at h ⊢
    have h3 : (t ++ [l]).length = t.length + 1 := by rw [List.length_append]; rfl
    split at h
    · cases h
    · rename_i h1
      rw [if_neg h1]
      split at h
      · cases h
      · rename_i h2
        rw [if_neg h2]
        refine ⟨l, rfl, rfl, fun e2 => ?_⟩
        rw [h3, if_pos e2] at h
        cases h
theorem reach_lt {M : NetM} {a : AskM} (h1 : 1 ≤ a.most) {t : List Int} {wd : Option Wd} (h : Reach M a t wd) : wd = none → (t.length : Int) < a.most := by
  induction h with
  | start => intro _; show ((0 : Nat) : Int) < _; omega
  | step _ ih =>
    intro e
    obtain ⟨l, _, e2, e3⟩ := nextM_none e
    rw [e2, List.length_append]
    have := ih rfl
    show ((_ + 1 : Nat) : Int) < _
    omega
/-- the house between two steps -/
structure HGood (M : NetM) (L w : Nat) (D : HouseM) : Prop where
  ex : ∃ f, HI M L w D.S D.T D.rs f ∧ ∀ (i : Nat) (r : ReqM), D.rs[i]? = some r → f i = r.len / D.S.size
  go : ∀ (i : Nat) (r : ReqM), D.rs[i]? = some r → r.wd = none → r.len < (whole r).length
  re : ∀ (i : Nat) (r : ReqM), D.rs[i]? = some r → Reach M r.ask r.text r.wd
theorem AdvR.good {M : NetM} {L w : Nat} {D : HouseM} (g : HGood M L w D) {i : Nat} {r r' : ReqM} {S' : StoreM} {T' : TreeM} {f : Nat → Nat} (hf : ∀ (j : Nat) (x : ReqM), D.rs[j]? = some x → f j = x.len / D.S.size) (hr : D.rs[i]? = some r) (hw : r.wd = none) (hs : S'.size = D.S.size)
    (h : HI M L w S' T' (D.rs.set i r') (fset f i (r'.len / D.S.size))) (a : AdvR M S' T' r r') : HGood M L w ⟨S', T', D.rs.set i r'⟩ := by
  refine ⟨⟨_, h, req_set (P := fun j x => fset f i (r'.len / D.S.size) j = x.len / S'.size) (fun j x hx hj => ?_) ?_⟩, req_set (P := fun j x => x.wd = none → x.len < (whole x).length) (fun j x hx hj => g.go j x hx) ?_, req_set (P := fun j x => Reach M x.ask x.text x.wd) (fun j x hx hj => g.re j x hx) ?_⟩
  · rw [fset_ne _ _ hj, hs]; exact hf j x hx
  · rw [fset_same, hs]
  · obtain ⟨e, a | a | a⟩ := a
    · rw [a.1]; exact g.go i r hr
    · intro _
      have : whole r' = whole r := by unfold whole; rw [e, a.1]
      rw [this]
      exact a.2.2.2
    · intro z
      exact (a.2.2 z).2
  · obtain ⟨e, a | a | a⟩ := a
    · rw [a.1]; exact g.re i r hr
    · rw [e, a.1, a.2.1, ← hw]; exact g.re i r hr
    · rw [e, a.1, a.2.1]
      have := g.re i r hr
      rw [hw] at this
      exact this.step
/-! ### room -/
def needR (size : Nat) (r : ReqM) : Nat := (r.ask.prompt.length + r.ask.most.toNat + size - 2) / size
def needM (D : HouseM) : Nat := (D.rs.map (needR D.S.size)).sum
section
variable {M : NetM} {L w : Nat} {S : StoreM} {T : TreeM} {rs : List ReqM} {f : Nat → Nat} {i : Nat} {r : ReqM}
theorem maxLen (ps : List Path) : ∃ B, ∀ q ∈ ps, q.length ≤ B := by
  induction ps with
  | nil => exact ⟨0, by simp⟩
  | cons p ps ih =>
    obtain ⟨B, hB⟩ := ih
    refine ⟨max p.length B, fun q hq => ?_⟩
    rcases List.mem_cons.mp hq with rfl | hq
    · exact Nat.le_max_left _ _
    · exact Nat.le_trans (hB q hq) (Nat.le_max_right _ _)
theorem HI.leaf (h : HI M L w S T rs f) {q : Path} (hq : q ∈ T.paths) : ∃ q' ∈ endsM S.size T.paths, q'.take q.length = q := by
  obtain ⟨B, hB⟩ := maxLen T.paths
  have key : ∀ (n : Nat) (p : Path), p ∈ T.paths → B - p.length ≤ n → ∃ q' ∈ endsM S.size T.paths, q'.take p.length = p := by
    intro n
    induction n with
    | zero =>
      intro p hp hn
      refine ⟨p, List.mem_filter.mpr ⟨hp, ?_⟩, List.take_length⟩
      cases e : (T.paths.map (ahM S.size)).contains p with
      | false => rfl
      | true =>
        obtain ⟨x, hx, hxe⟩ := List.mem_map.mp (List.contains_iff_mem.mp e)
        obtain ⟨m, m0, hm⟩ := h.plen x hx
        have h1 := hB x hx
        have h2 := Nat.le_mul_of_pos_left S.size m0
        have h3 := h.s0
        unfold ahM at hxe
        have h4 := congrArg List.length hxe
        rw [List.length_take] at h4
        omega
    | succ n ih =>
      intro p hp hn
      cases e : (T.paths.map (ahM S.size)).contains p with
      | false => exact ⟨p, List.mem_filter.mpr ⟨hp, by rw [e]; rfl⟩, List.take_length⟩
      | true =>
        obtain ⟨x, hx, hxe⟩ := List.mem_map.mp (List.contains_iff_mem.mp e)
        obtain ⟨m, m0, hm⟩ := h.plen x hx
        have h1 := hB x hx
        have h2 := Nat.le_mul_of_pos_left S.size m0
        have h3 := h.s0
        unfold ahM at hxe
        have h4 := congrArg List.length hxe
        rw [List.length_take] at h4
        obtain ⟨q', hq', e'⟩ := ih x hx (by omega)
        refine ⟨q', hq', ?_⟩
        have h5 : p.length = x.length - S.size := by omega
        rw [← hxe, ← e', List.length_take, List.take_take]
        have h6 : x.length ≤ q'.length := by
          have := congrArg List.length e'
          rw [List.length_take] at this
          omega
        congr 1
        simp only [List.length_take]
        omega
  exact key _ q hq (Nat.le_refl _)
theorem HI.allHeld (h : HI M L w S T rs f) (hc : candM S T = []) {q : Path} (hq : q ∈ T.paths) : 0 < occR rs (T.blk q) := by
  obtain ⟨q', hq', e⟩ := h.leaf hq
  have hqp := (List.mem_filter.mp hq').1
  have hb := h.pblk q' hqp
  have hcn : S.c (T.blk q') ≠ 1 := fun z => by
    have : q' ∈ candM S T := List.mem_filter.mpr ⟨hq', beq_iff_eq.mpr z⟩
    rw [hc] at this
    cases this
  have hot : occT T (T.blk q') ≤ 1 := by
    unfold occT
    have : T.paths.filter (fun x => decide (T.blk x = T.blk q')) = T.paths.filter (fun x => decide (x = q')) := by
      refine List.filter_congr fun x hx => ?_
      by_cases z : x = q'
      · simp [z]
      · have : T.blk x ≠ T.blk q' := fun w => z (h.pinj x hx q' hqp w)
        simp [z, this]
    rw [List.countP_eq_length_filter, this]
    have := countP_filter_ne (fun _ => true) q' T.paths h.pnd hqp
    have h2 : (T.paths.filter fun x => decide (x = q')).length = (T.paths.filter fun x => decide (x = q')).countP (fun _ => true) := by simp
    have h3 : ∀ l : List Path, l.Nodup → (l.filter fun x => decide (x = q')).length ≤ 1 := by
      intro l
      induction l with
      | nil => intro _; exact Nat.zero_le _
      | cons x l ih =>
        intro hn
        have hn' := List.nodup_cons.mp hn
        by_cases z : x = q'
        · rw [List.filter_cons_of_pos (by simp [z])]
          have : l.filter (fun x => decide (x = q')) = [] := List.filter_eq_nil_iff.mpr fun y hy => by
            have : y ≠ q' := fun w => hn'.1 (by rw [z, ← w]; exact hy)
            simp [this]
          rw [this]
          exact Nat.le_refl _
        · rw [List.filter_cons_of_neg (by simp [z])]
          exact ih hn'.2
    exact h3 _ h.pnd
  have hcn2 := h.cnt _ hb.1
  have hpos := h.tpos hqp
  have hor : 0 < occR rs (T.blk q') := by omega
  -- a request that holds it
  have hex : ∃ (j : Nat) (x : ReqM), rs[j]? = some x ∧ T.blk q' ∈ x.bs := by
    apply Classical.byContradiction
    intro hno
    have : ∀ (l : List ReqM), (∀ x ∈ l, T.blk q' ∉ x.bs) → occR l (T.blk q') = 0 := by
      intro l
      induction l with
      | nil => intro _; rfl
      | cons x l ih =>
        intro hl
        have h1 := ih fun y hy => hl y (List.mem_cons_of_mem _ hy)
        have h2 := List.count_eq_zero.mpr (hl x List.mem_cons_self)
        unfold occR at h1 ⊢
        rw [List.map_cons, List.sum_cons, h1, h2]
    have := this rs fun x hx hm => hno (by
      obtain ⟨j, hj⟩ := List.mem_iff_getElem?.mp hx
      exact ⟨j, x, hj, hm⟩)
    omega
  obtain ⟨j, x, hx, hm⟩ := hex
  have R := h.req j x hx
  obtain ⟨k, hk⟩ := List.mem_iff_getElem?.mp hm
  have hkf : k < f j := by
    have h1 := (List.getElem?_eq_some_iff.mp hk).1
    have h2 := R.f1
    by_cases z : k = f j
    · subst z
      exact (hcn (R.la _ hk)).elim
    · omega
  obtain ⟨a1, a2, a3⟩ := R.fu k hkf
  rw [hk] at a3
  have e2 := h.pinj _ hqp _ a2 (Option.some.inj a3)
  obtain ⟨m, m0, hml⟩ := h.plen q hq
  obtain ⟨n, rfl⟩ : ∃ n, m = n + 1 := ⟨m - 1, by omega⟩
  have hle : q.length ≤ (k + 1) * S.size := by
    have h1 := congrArg List.length e
    rw [List.length_take] at h1
    have h2 := congrArg List.length e2
    rw [List.length_take] at h2
    omega
  rw [hml] at hle
  have hnk := Nat.le_of_mul_le_mul_right hle h.s0
  obtain ⟨b1, b2, b3⟩ := R.fu n (by omega)
  have e3 : (whole x).take ((n + 1) * S.size) = q := by
    rw [← e, hml, e2, take_take_le _ (Nat.mul_le_mul_right _ hnk)]
  rw [e3] at b3
  have := occR_le (T.blk q) rs j x hx
  have := List.count_pos_iff.mpr (List.mem_of_getElem? b3)
  omega
theorem sum_lt : ∀ (rs : List ReqM) (g h : ReqM → Nat) (i : Nat) (r : ReqM), rs[i]? = some r → (∀ x ∈ rs, g x ≤ h x) → g r < h r → (rs.map g).sum < (rs.map h).sum
  | [], _, _, i, r, hr, _, _ => by simp at hr
  | x :: rs, g, h, 0, r, hr, hl, hlt => by
    cases hr
    have : ∀ l : List ReqM, (∀ x ∈ l, g x ≤ h x) → (l.map g).sum ≤ (l.map h).sum := by
      intro l
      induction l with
      | nil => intro _; exact Nat.le_refl _
      | cons y l ih =>
        intro hl
        have h1 := ih fun z hz => hl z (List.mem_cons_of_mem _ hz)
        have h2 := hl y List.mem_cons_self
        simp only [List.map_cons, List.sum_cons]
        omega
    have h1 := this rs fun z hz => hl z (List.mem_cons_of_mem _ hz)
    simp only [List.map_cons, List.sum_cons]
    omega
  | x :: rs, g, h, i + 1, r, hr, hl, hlt => by
    have h1 := sum_lt rs g h i r (by simpa using hr) (fun z hz => hl z (List.mem_cons_of_mem _ hz)) hlt
    have h2 := hl x List.mem_cons_self
    simp only [List.map_cons, List.sum_cons]
    omega
theorem freeB_none (hl : S.cts.length = S.many) (h : freeB S = none) : ∀ b, b < S.many → S.c b ≠ 0 := fun b hb z => by
  have := List.find?_eq_none.mp h b (List.mem_range.mpr hb)
  exact this (beq_iff_eq.mpr z)
/-- no room for a row: the needs are more than the blocks -/
theorem HI.noRoom (h : HI M L w S T rs f) (hr : rs[i]? = some r) (hw : r.wd = none) (hm : r.len % S.size = 0) (hfr : freeB S = none) (hc : candM S T = []) (hgo : ∀ (j : Nat) (x : ReqM), rs[j]? = some x → x.wd = none → x.len < (whole x).length ∧ (x.text.length : Int) < x.ask.most) :
    S.many < (rs.map (needR S.size)).sum := by
  have s0 := h.s0
  have occ : ∀ b, b < S.many → 0 < occR rs b := fun b hb => by
    have h1 := freeB_none h.lc hfr b hb
    have h2 := h.cnt b hb
    by_cases z : occT T b = 0
    · omega
    · obtain ⟨q, hq, e⟩ := List.countP_pos_iff.mp (show 0 < occT T b by omega)
      have e' : T.blk q = b := by simpa using e
      rw [← e']
      exact h.allHeld hc hq
  have h1 : S.many ≤ (rs.map fun x => x.bs.length).sum := by
    have hfl : ((rs.map (·.bs)).flatten).length = (rs.map fun x => x.bs.length).sum := by
      rw [List.length_flatten, List.map_map]
      rfl
    rw [← hfl]
    have key : ∀ (a b : List Nat), a.Nodup → (∀ x ∈ a, x ∈ b) → a.length ≤ b.length := by
      intro a
      induction a with
      | nil => intro b _ _; exact Nat.zero_le _
      | cons x a ih =>
        intro b hn hs
        have hn' := List.nodup_cons.mp hn
        have hx : x ∈ b := hs x List.mem_cons_self
        have h1 := ih (b.erase x) hn'.2 fun y hy => by
          have hne : y ≠ x := fun e => hn'.1 (by rw [← e]; exact hy)
          exact (List.mem_erase_of_ne hne).mpr (hs y (List.mem_cons_of_mem _ hy))
        rw [List.length_erase_of_mem hx] at h1
        have := List.length_pos_of_mem hx
        rw [List.length_cons]
        omega
    have := key (List.range S.many) ((rs.map (·.bs)).flatten) List.nodup_range fun b hb => by
      have hb' := occ b (List.mem_range.mp hb)
      rw [List.mem_flatten]
      apply Classical.byContradiction
      intro hno
      have hz : ∀ (l : List ReqM), (∀ x ∈ l, b ∉ x.bs) → occR l b = 0 := by
        intro l
        induction l with
        | nil => intro _; rfl
        | cons x l ih =>
          intro hl
          have h1 := ih fun y hy => hl y (List.mem_cons_of_mem _ hy)
          have h2 := List.count_eq_zero.mpr (hl x List.mem_cons_self)
          unfold occR at h1 ⊢
          rw [List.map_cons, List.sum_cons, h1, h2]
      have := hz rs fun x hx hm => hno ⟨x.bs, List.mem_map.mpr ⟨x, hx, rfl⟩, hm⟩
      omega
    rwa [List.length_range] at this
  refine Nat.lt_of_le_of_lt h1 (sum_lt rs _ _ i r hr (fun x hx => ?_) ?_)
  · obtain ⟨j, hj⟩ := List.mem_iff_getElem?.mp hx
    have R := h.req j x hj
    unfold needR
    refine (Nat.le_div_iff_mul_le s0).mpr ?_
    have h2 := R.n1
    cases e : x.wd with
    | some y =>
      obtain ⟨e1, _⟩ := R.dn (by rw [e]; simp)
      rw [e1]
      simp
    | none =>
      obtain ⟨h3, h4⟩ := hgo j x hj e
      unfold whole at h3
      rw [List.length_append] at h3
      omega
  · have R := h.req i r hr
    obtain ⟨b1, b2⟩ := R.bfull s0 hm
    obtain ⟨h3, h4⟩ := hgo i r hr hw
    unfold whole at h3
    rw [List.length_append] at h3
    unfold needR
    refine (Nat.le_div_iff_mul_le s0).mpr ?_
    show (r.bs.length + 1) * S.size ≤ _
    rw [Nat.succ_mul, b2]
    omega
end
end Sv
end
section
set_option Elab.async false
set_option linter.all false
set_option maxRecDepth 100000
set_option maxHeartbeats 4000000
/-! The walk: House.step. -/
namespace Sv
open PySem PySem.Spec PyProof.Rows L2 HotX L2H
/-! ### a walk over a list or a tuple, whichever stands there -/
def itSq (K : PySem.W.Frag) (k : Bool) (a : Addr) : It := cond k (Itt K a) (Itl K a)
def iSq (K : PySem.W.Frag) (tl : TE) : TI := fun σ H R => tl σ H fun x H1 => ∃ a k, x = .ref a ∧ (∃ xs, SqK K k H1 a xs) ∧ R (itSq K k a) H1
theorem pi_sq {X : Cx} {tg l : Expr} {tl : TE} (hl : PE X l tl) : PI X tg l (iSq X.K tl) := by
  refine ⟨fun pins s σ H R I h => ?_⟩
  refine thn (hl.run pins s σ H _ I h) fun v s1 ⟨x, H1, I1, r1, a, k, e, ⟨xs, hq⟩, q⟩ => ?_
  subst e
  cases r1
  cases k with
  | false =>
    obtain ⟨its, rv, p, hz⟩ := I1.list (show SqL X.K H1 a xs from hq)
    refine wpAny_pyIter_list p.isList ⟨s1.heap.objs.size, [s1.heap.objs.size], _, _, H1, rfl, I1.kept (t' := s1.toks) fun b o e => Heap.get?_push_of_some _ e, turn_list a _, ⟨_, Heap.get?_push_size _ rfl, rfl, rfl⟩, fun b hb => ?_, q⟩
    obtain rfl : b = s1.heap.objs.size := by simpa using hb
    exact I1.fpOk (Nat.le_refl _) (I1.hok.fresh (Nat.le_refl _))
  | true =>
    obtain ⟨its, rv, p, hz⟩ := I1.tuple (show SqT X.K H1 a xs from hq)
    refine wpAny_pyIter_tuple (show s1.heap.IsTuple a its.toArray from p) ⟨s1.heap.objs.size, [s1.heap.objs.size], _, _, H1, rfl, I1.kept (t' := s1.toks) fun b o e => Heap.get?_push_of_some _ e, turn_tuple a _, ⟨_, Heap.get?_push_size _ rfl, rfl, rfl⟩, fun b hb => ?_, q⟩
    obtain rfl : b = s1.heap.objs.size := by simpa using hb
    exact I1.fpOk (Nat.le_refl _) (I1.hok.fresh (Nat.le_refl _))
theorem for_sq {K : PySem.W.Frag} {k : Bool} {a : Addr} {xs : List V} {g : TG} {tb : TS} {D : Ends} {σ : L2.St} {H : Hp} (Pv : Nat → L2.St → Hp → Prop) (h0 : Pv 0 σ H) (hl : ∀ i σ H, i ≤ xs.length → Pv i σ H → SqK K k H a xs)
    (hs : ∀ i x σ H, xs[i]? = some x → Pv i σ H → g x σ H fun σ2 H2 => tb { D with nx := Pv (i + 1), ct := Pv (i + 1), bk := D.nx } σ2 H2) (hd : ∀ σ H, Pv xs.length σ H → D.nx σ H) :
    ∃ W : Nat → Nat → L2.St → Hp → Prop, (∃ m, W 0 m σ H) ∧ ∀ i m σ H, W i m σ H →
      ((itSq K k a).stop i H ∧ D.nx σ H) ∨ ((itSq K k a).go i H ∧ ∃ N : L2.St → Hp → Prop, (∀ σ' H', N σ' H' → ∃ m', m' < m ∧ W (i + 1) m' σ' H') ∧ ∀ x H', (itSq K k a).yld i H x H' → g x σ H' fun σ2 H2 => tb { D with nx := N, ct := N, bk := D.nx } σ2 H2) := by
  cases k with
  | false => exact for_list (K := K) Pv h0 hl hs hd
  | true => exact for_tup (K := K) Pv h0 hl hs hd
/-! ### what a step keeps -/
structure StepR (D D' : HouseM) : Prop where
  many : D'.S.many = D.S.many
  size : D'.S.size = D.S.size
  ask : D'.rs.map (·.ask) = D.rs.map (·.ask)
  wd : ∀ (i : Nat) (r : ReqM), D.rs[i]? = some r → r.wd ≠ none → D'.rs[i]? = some r
theorem StepR.refl (D : HouseM) : StepR D D := ⟨rfl, rfl, rfl, fun _ _ h _ => h⟩
theorem StepR.trans {D D1 D2 : HouseM} (a : StepR D D1) (b : StepR D1 D2) : StepR D D2 := ⟨b.many.trans a.many, b.size.trans a.size, b.ask.trans a.ask, fun i r h n => b.wd i r (a.wd i r h n) n⟩
theorem StepR.len {D D' : HouseM} (a : StepR D D') : D'.rs.length = D.rs.length := by
  have := congrArg List.length a.ask
  simpa using this
theorem StepR.need {D D' : HouseM} (a : StepR D D') : needM D' = needM D := by
  have key : ∀ (s : Nat) (l : List ReqM), l.map (needR s) = (l.map (·.ask)).map fun k => (k.prompt.length + k.most.toNat + s - 2) / s := fun s l => by rw [List.map_map]; rfl
  unfold needM
  rw [key, key, a.ask, a.size]
theorem StepR.get {D D' : HouseM} (a : StepR D D') {i : Nat} {r : ReqM} (h : D.rs[i]? = some r) : ∃ r', D'.rs[i]? = some r' ∧ r'.ask = r.ask := by
  have h1 := congrArg (fun l => l[i]?) a.ask
  simp only [List.getElem?_map, h] at h1
  cases e : D'.rs[i]? with
  | none => rw [e] at h1; cases h1
  | some x => rw [e] at h1; exact ⟨x, rfl, Option.some.inj h1⟩
theorem AdvR.stepR {M : NetM} {D : HouseM} {i : Nat} {r r' : ReqM} {S' : StoreM} {T' : TreeM} (hr : D.rs[i]? = some r) (hw : r.wd = none) (hm : S'.many = D.S.many) (hs : S'.size = D.S.size) (a : AdvR M S' T' r r') : StepR D ⟨S', T', D.rs.set i r'⟩ := by
  refine ⟨hm, hs, ?_, fun j x hx hn => ?_⟩
  · apply List.ext_getElem?
    intro j
    show ((D.rs.set i r').map (·.ask))[j]? = _
    rw [List.getElem?_map, List.getElem?_map, List.getElem?_set]
    split
    · rename_i e
      subst e
      rw [hr]
      split
      · exact congrArg some a.1
      · rename_i h
        exact (h (List.getElem?_eq_some_iff.mp hr).1).elim
    · rfl
  · show (D.rs.set i r')[j]? = _
    rw [List.getElem?_set]
    split
    · rename_i e
      subst e
      rw [hr] at hx
      cases hx
      exact (hn hw).elim
    · exact hx
theorem HGood.noRoom {M : NetM} {L w : Nat} {D : HouseM} (g : HGood M L w D) {i : Nat} {r : ReqM} (hr : D.rs[i]? = some r) (hw : r.wd = none) (hm : r.len % D.S.size = 0) (hfr : freeB D.S = none) (hc : candM D.S D.T = []) : D.S.many < needM D := by
  obtain ⟨f, h, hf⟩ := g.ex
  refine h.noRoom hr hw hm hfr hc fun j x hx hn => ⟨g.go j x hx hn, ?_⟩
  have := g.re j x hx
  exact reach_lt (h.req j x hx).ask.m0 this hn
theorem HGood.text {M : NetM} {L w : Nat} {D : HouseM} (g : HGood M L w D) {i : Nat} {r : ReqM} (hr : D.rs[i]? = some r) (hw : r.wd = none) : r.text.length < 8 ∧ (whole r).length ≤ 18 := by
  obtain ⟨f, h, hf⟩ := g.ex
  have R := h.req i r hr
  have := reach_lt R.ask.m0 (g.re i r hr) hw
  have := R.ask.m1
  exact ⟨by omega, (R.short h.s0 h.s8).1⟩
/-! ### the house behind an advance -/
def HouseA.mut (A : HouseA) : List Addr := [A.hp, A.ca, A.ka, A.tr, A.ud, A.us] ++ A.ra.map (·.rp) ++ A.ra.map (·.tb)
theorem HouseA.mut_all (A : HouseA) : ∀ x ∈ A.mut, x ∈ A.all := fun x hx => by
  rcases List.mem_append.mp hx with h | h
  · rcases List.mem_append.mp h with h | h
    · refine List.mem_append_left _ (List.mem_append_left _ ?_)
      simp only [List.mem_cons, List.not_mem_nil, or_false] at h ⊢
      rcases h with h | h | h | h | h | h <;> simp [h]
    · exact List.mem_append_left _ (List.mem_append_right _ h)
  · exact List.mem_append_right _ h
theorem house_adv {K : PySem.W.Frag} {H H' : Hp} {A : HouseA} {M : NetM} {D : HouseM} (h : HouseAt K H A M D) {i : Nat} {a : ReqA} {r r' : ReqM} (ha : A.ra[i]? = some a) (hr : D.rs[i]? = some r) (hask : r'.ask = r.ask) {S' : StoreM} {T' : TreeM} {pl' : Addr}
    (f : Fr [A.hp, A.ca, A.ka, A.tr, A.ud, A.us, a.tb, a.rp] H H') (hpl : pl' = A.pl ∨ H pl' = none) (npl : pl' ∉ [A.ca, A.ka]) (ho : HInsAt K H' A.hp A.np A.p A.tr A.rq) (st : StoreAt K H' A.p A.ca A.ka S') (tr : TreeAt K H' A.tr A.ud A.us pl' A.p T')
    (rq : ReqAt K H' a.rp a.ap a.tb r'.text r'.wd) (tb : TableAt K H' a.tb A.p r'.bs r'.len) : HouseAt K H' { A with pl := pl' } M ⟨S', T', D.rs.set i r'⟩ ∧ Fr A.mut H H' := by
  have hR := h.rs i a r ha hr
  obtain ⟨dx, rm, h1⟩ := h.ins
  have hrq := h.rq
  have mem : ∀ {j : Nat} {x : ReqA}, A.ra[j]? = some x → ∃ y, D.rs[j]? = some y ∧ RAt K H A.p x y := fun {j x} hx => by
    have hl : j < D.rs.length := by rw [← h.len]; exact (List.getElem?_eq_some_iff.mp hx).1
    exact ⟨_, List.getElem?_eq_getElem hl, h.rs j x _ hx (List.getElem?_eq_getElem hl)⟩
  have nod : ∀ (g : ReqA → Addr), (A.ra.map g).Nodup → ∀ {j : Nat} {x : ReqA}, A.ra[j]? = some x → j ≠ i → g x ≠ g a := fun g hn {j x} hx hj e => by
    have hl := (List.getElem?_eq_some_iff.mp hx).1
    refine hj ((List.getElem?_inj (l := A.ra.map g) (by simpa using hl) hn).mp ?_)
    rw [List.getElem?_map, List.getElem?_map, hx, ha]
    exact congrArg some e
  obtain ⟨_, _, h2, _⟩ := hR.tab.ex
  obtain ⟨_, _, _, _, h3, _⟩ := hR.rq.ex
  obtain ⟨_, _, h4, h5, _, h6, h7⟩ := h.tr.ex
  have q1 := ne_kind hrq h1 nofun
  have q2 := ne_kind hrq h2 nofun
  have q3 := ne_kind hrq h3 nofun
  have q4 := ne_kind hrq h4 nofun
  have q5 := ne_kind hrq h6 nofun
  have q6 := ne_kind hrq h7 nofun
  have q7 := h.nrq
  refine ⟨⟨ho, h.net.keep f.t, st, tr, f.k _ _ (fun z => ?_) hrq, by show A.ra.length = (D.rs.set i r').length; rw [List.length_set]; exact h.len, fun j x y hx hy => ?_, npl, ?_, h.nrp, h.ntb⟩, f.sub fun x hx => ?_⟩
  · simp at z q7
    simp [*] at z
  · have hy : (D.rs.set i r')[j]? = some y := hy
    by_cases e : j = i
    · subst e
      have hx : A.ra[j]? = some x := hx
      rw [ha] at hx
      cases hx
      rw [List.getElem?_set_self (List.getElem?_eq_some_iff.mp hr).1] at hy
      cases hy
      exact ⟨rq, by rw [hask]; exact hR.ask.keep f.t, tb⟩
    · rw [List.getElem?_set_ne (Ne.symm e)] at hy
      have R := h.rs j x y hx hy
      have n1 := nod (·.rp) h.nrp hx e
      have n2 := nod (·.tb) h.ntb hx e
      obtain ⟨t1, t2, t3, _⟩ := req_tree R.rq h.tr
      obtain ⟨u1, u2, u3⟩ := req_ne R.rq h.st hR.tab
      obtain ⟨v1, v2, v3, _⟩ := tab_tree R.tab h.tr
      have v4 := tab_ne R.tab h.st
      have w1 := hins_req h.ins R.rq
      have w2 := (req_ne hR.rq h.st R.tab).2.2
      obtain ⟨_, _, k2, _⟩ := R.tab.ex
      have w3 : x.tb ≠ A.hp := ne_kind k2 h1 fun e => by
        have := congrArg List.length (HO.ins.inj e).2.2
        simp at this
      refine R.keep f ?_ ?_
      · simp
        exact ⟨Ne.symm w1, u1, u2, t1, t2, t3, u3, n1⟩
      · simp at v4 ⊢
        exact ⟨w3, v4.1, v4.2, v1, v2, v3, n2, Ne.symm w2⟩
  · show A.rq ∉ [A.ca, A.ka, pl']
    simp at q7 ⊢
    refine ⟨q7.1, q7.2.1, ?_⟩
    rcases hpl with rfl | hpl
    · exact q7.2.2
    · intro z
      rw [← z, hrq] at hpl
      cases hpl
  · simp only [List.mem_cons, List.not_mem_nil, or_false] at hx
    have hm := List.mem_of_getElem? ha
    rcases hx with rfl | rfl | rfl | rfl | rfl | rfl | rfl | rfl
    · simp [HouseA.mut]
    · simp [HouseA.mut]
    · simp [HouseA.mut]
    · simp [HouseA.mut]
    · simp [HouseA.mut]
    · simp [HouseA.mut]
    · exact List.mem_append_right _ (List.mem_map.mpr ⟨a, hm, rfl⟩)
    · exact List.mem_append_left _ (List.mem_append_right _ (List.mem_map.mpr ⟨a, hm, rfl⟩))
theorem SqK.at {K : PySem.W.Frag} {k : Bool} {H H' : Hp} {a : Addr} {xs : List V} (h : SqK K k H a xs) (e : ∀ o, H a = some o → H' a = some o) : SqK K k H' a xs := by
  cases k with
  | false =>
    rcases (show SqL K H a xs from h) with (h | ⟨o, h⟩) | h
    · exact .inl (.inl (e _ h))
    · exact .inl (.inr ⟨o, e _ h⟩)
    · exact .inr h
  | true =>
    rcases (show SqT K H a xs from h) with (h | ⟨o, h⟩) | h
    · exact .inl (.inl (e _ h))
    · exact .inl (.inr ⟨o, e _ h⟩)
    · exact .inr h
section
variable {P : Program} {w : World} {K : PySem.W.Frag} {mg : Str → Option Value} {base : Heap}
def dPlan (plan : List (Nat × Nat)) : List PyData := plan.map fun q => dVec [(q.1 : Int), (q.2 : Int)]
def p_House_step (K : PySem.W.Frag) : P2 := fun a b H Q => ∃ (A : HouseA) (M : NetM) (L w : Nat) (D : HouseM) (k : Bool) (c : Addr) (xs : List V) (plan : List (Nat × Nat)), a = .ref A.hp ∧ b = .ref c ∧ HouseAt K H A M D ∧ HGood M L w D ∧ SqK K k H c xs ∧ AtAll H xs (dPlan plan) ∧ c ∉ A.all ∧ (∀ q ∈ plan, q.1 < D.rs.length ∧ q.2 ≤ 60) ∧ plan.length ≤ 100 ∧ A.ra.length ≤ 100 ∧
  ∀ H' D' pl' e, Fr A.mut H H' → (pl' = A.pl ∨ H pl' = none) → HouseAt K H' { A with pl := pl' } M D' → HGood M L w D' → StepR D D' → (needM D ≤ D.S.many → ∀ q ∈ plan, 20 ≤ q.2 → ∀ r, D'.rs[q.1]? = some r → r.wd ≠ none) → Q (.ref e) H'
abbrev N_House_step : List Str := ["self", "plan", "ended", "ticket", "many", "request", "_"]
theorem sc_House_step : FnScope N_House_step ["self", "plan"] (defScope s_House_step) := ⟨rfl, rfl, rfl, by decide +kernel, rfl, by decide +kernel, by decide +kernel⟩
theorem ok_House_step (T : Txt K mg) : MFn P w K mg base 10 (He.ga K "House") "step" ["self", "plan"] (Sp2 (p_House_step K)) := by
  refine mfn T.d_House_step T.m_House_step sc_House_step (fun _ _ _ _ _ _ us hl => match us, hl with | [_, _], _ => rfl) len2 fun cdv A outer s H vs Q E hr h => ?_
  obtain ⟨a0, a1, rfl, h⟩ := h
  refine ⟨_, pss_cons (ps_for PassesOwn.never rfl (pi_sq (pv 1)) (pg_tup rfl (pgs_cons (pg_name (i := 3) sc_House_step.nd rfl (Or.inl rfl)) (pgs_cons (pg_name (i := 4) sc_House_step.nd rfl (Or.inl rfl)) pgs_nil)))
      (pss_one (ps_expr (pe_m (ok_House_request T) T.cl_House (hr.mono (by decide)) (pv 0) (pa_cons (pv 3) pa_nil)))))
      (pss_cons (ps_for PassesOwn.never rfl (pi_sq (pv 1)) (pg_tup rfl (pgs_cons (pg_name (i := 3) sc_House_step.nd rfl (Or.inl rfl)) (pgs_cons (pg_name (i := 4) sc_House_step.nd rfl (Or.inl rfl)) pgs_nil)))
      (pss_one (ps_if (pt_not (pt_val (pe_g (ok_is_between T) (hr.mono (by decide)) (pa_cons (pv 4) (pa_cons (pe_int) (pa_cons (pe_glob (v := .int 60) (by rfl) (T.i_MOST_STEPS).choose_spec ⟨_, rfl⟩) pa_nil)))))) (pss_one (ps_never)) (pss_nil))))
      (pss_cons (ps_set (i := 2) sc_House_step.nd rfl (Or.inl rfl) (pe_lst pa_nil))
      (pss_cons (ps_for PassesOwn.never rfl (pi_sq (pv 1)) (pg_tup rfl (pgs_cons (pg_name (i := 3) sc_House_step.nd rfl (Or.inl rfl)) (pgs_cons (pg_name (i := 4) sc_House_step.nd rfl (Or.inl rfl)) pgs_nil)))
      (pss_cons (ps_set (i := 5) sc_House_step.nd rfl (Or.inl rfl) (pe_ix ix_list (pe_fld (pv 0) rfl) (pv 3) (fun _ _ => rfl)))
      (pss_one (ps_for PassesOwn.never rfl (pi_range1 (by rfl) T.b_range (pa_cons (pv 4) pa_nil)) (pg_name (i := 6) sc_House_step.nd rfl (Or.inl rfl))
      (pss_one (ps_if (pt_val (pe_m0 (ok_Request_is_in T) T.cl_Request (hr.mono (by decide)) (pv 5))) (pss_cons (ps_expr (pe_m (ok_House_advance T) T.cl_House (hr.mono (by decide)) (pv 0) (pa_cons (pv 5) pa_nil)))
      (pss_one (ps_if (pt_cmp (pc_notN (pe_fld (pv 5) rfl))) (pss_one (ps_expr (pe_bm PySem.F.plainAttrs_list PySem.F.slot_list_append PySem.F.type_list_append mt_append (pv 2) (pa_cons (pv 3) pa_nil)))) (pss_nil)))) (pss_nil)))))))
      (pss_one (ps_ret (pe_callTy call_tuple_of (by rfl) T.b_tuple (by decide +kernel) (pa_cons (pv 2) pa_nil))))))), ?_⟩
  obtain ⟨A, M, L, w', D, k, c, xs, plan, rfl, rfl, h, g, hq, hxs, hca, hpl, hp1, hr1, q⟩ := h
  have hlen := hxs.len
  have item : ∀ {i : Nat} {x : V} {H' : Hp}, Tups H H' → xs[i]? = some x → ∃ (t n : Nat) (e : Addr), plan[i]? = some (t, n) ∧ x = .ref e ∧ H' e = some (.tup [.int t, .int n]) ∧ t < D.rs.length ∧ n ≤ 60 := fun {i x H'} s hx => by
    obtain ⟨d, e1, e2⟩ := hxs.get hx
    obtain ⟨⟨t, n⟩, e3, e4⟩ := map_get e1
    subst e4
    obtain ⟨e, e5, e6⟩ := e2.vecI
    obtain ⟨q1, q2⟩ := hpl _ (List.mem_of_getElem? e3)
    exact ⟨t, n, e, e3, e5, s _ _ rfl e6, q1, q2⟩
  refine ⟨_, rfl, c, k, rfl, ⟨_, hq⟩, for_sq (K := K) (k := k) (a := c) (xs := xs) (fun i σ H' => ∃ v3 v4, σ = [some (.ref A.hp), some (.ref c), none, v3, v4, none, none] ∧ H = H') ⟨_, _, rfl, rfl⟩ (fun i σ H' _ ⟨_, _, _, e⟩ => by rw [← e]; exact hq) ?_ ?_⟩
  · rintro i x σ H' hx ⟨v3, v4, rfl, rfl⟩
    obtain ⟨t, n, e, e1, rfl, e2, e3, e4⟩ := item (Tups.refl _) hx
    have ht : t < A.ra.length := by rw [h.len]; exact e3
    obtain ⟨dx, rm, h1⟩ := id h.ins
    exact ⟨e, _, rfl, SqT.of e2, rfl, _, _, rfl, _, _, rfl, rfl, _, rfl, A.hp, dx, _, rfl, h1, rfl, _, rfl, _, _, rfl, A, M, D, t, _, rfl, rfl, h, List.getElem?_eq_getElem ht, _, _, rfl, rfl⟩
  rintro σ H' ⟨v3, v4, rfl, rfl⟩
  refine ⟨_, rfl, c, k, rfl, ⟨_, hq⟩, for_sq (K := K) (k := k) (a := c) (xs := xs) (fun i σ H' => ∃ v3 v4, σ = [some (.ref A.hp), some (.ref c), none, v3, v4, none, none] ∧ H = H') ⟨_, _, rfl, rfl⟩ (fun i σ H' _ ⟨_, _, _, e⟩ => by rw [← e]; exact hq) ?_ ?_⟩
  · rintro i x σ H' hx ⟨v3, v4, rfl, rfl⟩
    obtain ⟨t, n, e, e1, rfl, e2, e3, e4⟩ := item (Tups.refl _) hx
    have hdec : decide ((0 : Int) ≤ (n : Int) ∧ (n : Int) ≤ 60) = true := by simp; omega
    refine ⟨e, _, rfl, SqT.of e2, rfl, _, _, rfl, _, _, rfl, rfl, _, rfl, _, _, _, rfl, _, _, _, rfl, rfl, rfl, ?_⟩
    rw [hdec]
    exact ⟨true, rfl, _, _, rfl, rfl⟩
  rintro σ H' ⟨v3, v4, rfl, rfl⟩
  refine ⟨ll0, fun e he => ?_⟩
  generalize hG : L2.upd H e (HO.lst []) = H1
  obtain ⟨s1, he1⟩ := gen_new he hG
  have hem : ∀ x ∈ A.all, x ≠ e := fun x hx z => by rw [z] at hx; exact h.there e hx he
  have nem : e ∉ A.mut := fun z => hem e (A.mut_all e z) rfl
  have ncm : c ∉ A.mut := fun z => hca (A.mut_all c z)
  refine ⟨_, rfl, c, k, rfl, ⟨_, hq.up s1⟩, for_sq (K := K) (k := k) (a := c) (xs := xs) (fun i σ H' => ∃ v3 v4 v5 v6 ys D' pl', σ = [some (.ref A.hp), some (.ref c), some (.ref e), v3, v4, v5, v6] ∧ Fr A.mut H H' ∧ H' e = some (.lst ys) ∧ ys.length ≤ i * 60 ∧ (pl' = A.pl ∨ H pl' = none) ∧ pl' ≠ e ∧
    HouseAt K H' { A with pl := pl' } M D' ∧ HGood M L w' D' ∧ StepR D D' ∧ (needM D ≤ D.S.many → ∀ q ∈ plan.take i, 20 ≤ q.2 → ∀ r, D'.rs[q.1]? = some r → r.wd ≠ none))
    ⟨v3, v4, none, none, [], D, A.pl, rfl, Fr.same s1, he1, Nat.zero_le _, .inl rfl, hem _ (by simp [HouseA.all]), h.up s1, g, StepR.refl D, fun _ q hq => by simp at hq⟩ (fun i σ H' _ ⟨_, _, _, _, _, _, _, _, f, _⟩ => hq.at fun o z => f.k _ _ ncm z) ?_ ?_⟩
  · rintro i x σ H2 hx ⟨v3, v4, v5, v6, ys, D2, pl2, rfl, f2, he2, hys, hp2, hn2, h2, g2, sr2, rm2⟩
    obtain ⟨t, n, e0, e1, rfl, e2, e3, e4⟩ := item f2.t hx
    obtain ⟨dx, rm, h1⟩ := id h2.ins
    have htl : t < D2.rs.length := by rw [sr2.len]; exact e3
    obtain ⟨a, ha, _⟩ := h2.get (List.getElem?_eq_getElem htl)
    refine ⟨e0, _, rfl, SqT.of e2, rfl, _, _, rfl, _, _, rfl, rfl, _, rfl, A.hp, _, dx, _, _, rfl, h1, T.cl_House, T.n_House_requests, rfl, _, rfl, A.rq, _, _, _, rfl, rfl, SqL.of h2.rq, atI_nat (getMap ha), ?_⟩
    refine ⟨_, rfl, (n : Int), rfl, by omega, by omega, for_range (lo := 0) (n := n) (fun j σ H' => ∃ v6 ys' D' pl', σ = [some (.ref A.hp), some (.ref c), some (.ref e), some (.int (t : Nat)), some (.int (n : Nat)), some (.ref a.rp), v6] ∧ Fr A.mut H H' ∧ H' e = some (.lst ys') ∧ ys'.length ≤ i * 60 + j ∧ (pl' = A.pl ∨ H pl' = none) ∧ pl' ≠ e ∧
      HouseAt K H' { A with pl := pl' } M D' ∧ HGood M L w' D' ∧ StepR D2 D' ∧ (needM D ≤ D.S.many → ∀ r, D'.rs[t]? = some r → r.wd = none → j ≤ r.len))
      ⟨v6, ys, D2, pl2, rfl, f2, he2, hys, hp2, hn2, h2, g2, StepR.refl D2, fun _ r _ _ => Nat.zero_le _⟩ ?_ ?_⟩
    · rintro j σ H3 hj ⟨v6, ys3, D3, pl3, rfl, f3, he3, hys3, hp3, hn3, h3, g3, sr3, rm3⟩
      have sr := sr2.trans sr3
      have htl3 : t < D3.rs.length := by rw [sr.len]; exact e3
      obtain ⟨a', ha', R⟩ := h3.get (List.getElem?_eq_getElem htl3)
      have ha' : A.ra[t]? = some a' := ha'
      rw [show A.ra[t]? = some a from ha] at ha'
      cases ha'
      have hr3 : D3.rs[t]? = some D3.rs[t] := List.getElem?_eq_getElem htl3
      generalize D3.rs[t] = r at R hr3
      obtain ⟨dx3, rm3', h13⟩ := id h3.ins
      obtain ⟨rdx, vt, bg, gv, r1, r2⟩ := id R.rq.ex
      refine ⟨_, rfl, a.rp, rdx, _, rfl, r1, rfl, _, rfl, a.rp, a.ap, a.tb, r.text, r.wd, rfl, R.rq, _, rfl, ?_⟩
      cases hw : r.wd with
      | some y =>
        exact ⟨_, ys3, D3, pl3, rfl, f3, he3, by omega, hp3, hn3, h3, g3, sr3, fun _ r' hr' hn => by rw [hr3] at hr'; cases hr'; rw [hw] at hn; cases hn⟩
      | none =>
        obtain ⟨fl, hi, hf⟩ := g3.ex
        have hgo := g3.go t r hr3 hw
        obtain ⟨tl1, tl2⟩ := g3.text hr3 hw
        have plc : pl3 ∉ [A.ca, A.ka] := h3.npl
        refine ⟨_, rfl, A.hp, dx3, _, rfl, h13, rfl, _, rfl, _, _, rfl, A.hp, A.np, A.p, A.tr, A.rq, A.ca, A.ka, A.ud, A.us, pl3, a.rp, a.ap, a.tb, M, L, w', D3.T, D3.S, D3.rs, fl, t, r, rfl, rfl, h3.ins, h3.net, h3.st, h3.tr, R.rq, R.ask, R.tab, plc, hi, hr3, hf t r hr3, hw, hgo, tl1, ?_⟩
        intro S' T' pl' r' hi4 em es ad H4 f4 hp4 np4 ho4 st4 tr4 rq4 tb4
        obtain ⟨h4, f4'⟩ := house_adv h3 (a := a) ha hr3 ad.1 f4 hp4 np4 ho4 st4 tr4 rq4 tb4
        have g4 := ad.good g3 hf hr3 hw es hi4
        have sr4 := ad.stepR hr3 hw em es
        have f4a : Fr A.mut H3 H4 := f4'
        have hp4' : pl' = A.pl ∨ H pl' = none := by
          rcases hp4 with rfl | z
          · exact hp3
          · refine .inr ?_
            cases ee : H pl' with
            | none => rfl
            | some o =>
              have ha4 : pl' ∉ A.mut := fun m => h3.there pl' (({ A with pl := pl3 } : HouseA).mut_all pl' m) z
              rw [f3.k _ _ ha4 ee] at z
              cases z
        have he4 := f4a.k _ _ nem he3
        have hn4 : pl' ≠ e := by
          rcases hp4 with rfl | z
          · exact hn3
          · intro z'
            rw [z', he3] at z
            cases z
        obtain ⟨rdx4, vt4, bg4, gv4, k1, k2⟩ := id rq4.ex
        have hrt : (D3.rs.set t r')[t]? = some r' := List.getElem?_set_self htl3
        have rm4 : needM D ≤ D.S.many → ∀ x, (D3.rs.set t r')[t]? = some x → x.wd = none → j + 1 ≤ x.len := fun hroom x hx hn => by
          rw [hrt] at hx
          cases hx
          have := rm3 hroom r hr3 hw
          obtain ⟨_, z | z | z⟩ := ad
          · have hlt := g4.noRoom (i := t) (r := r') hrt hn (by rw [z.1]; exact z.2.1) z.2.2.1 z.2.2.2
            rw [(sr.trans sr4).need, (sr.trans sr4).many] at hlt
            omega
          · omega
          · have := (z.2.2 hn).1
            omega
        refine ⟨_, rfl, a.rp, _, rdx4, _, _, rfl, k1, T.cl_Request, T.n_Request_word, rfl, ?_⟩
        refine ⟨_, rfl, ?_⟩
        cases hw4 : r'.wd with
        | none => exact ⟨_, ys3, _, pl', rfl, f3.trans f4a, he4, by omega, hp4', hn4, h4, g4, sr3.trans sr4, rm4⟩
        | some y =>
          refine ⟨_, rfl, ty_l he4, _, rfl, e, ys3, _, rfl, rfl, he4, ?_, ?_⟩
          · show ys3.length < 16777216
            have h1 := (List.getElem?_eq_some_iff.mp hx).1
            rw [hlen] at h1
            unfold dPlan at h1
            rw [List.length_map] at h1
            omega
          generalize hG : L2.upd H4 e _ = H5
          obtain ⟨f5, e5⟩ := gen_lst [e] he4 hG (.head _)
          refine ⟨_, _, _, pl', rfl, ⟨(f3.trans f4a).t.trans f5.t, fun b o hb hbo => f5.k b o (fun z => ?_) ((f3.trans f4a).k b o hb hbo)⟩, e5, ?_, hp4', hn4, h4.keep f5 (fun x hx z => ?_), g4, sr3.trans sr4, rm4⟩
          · obtain rfl : b = e := by simpa using z
            rw [he] at hbo
            cases hbo
          · rw [List.length_append]
            show ys3.length + 1 ≤ _
            omega
          · obtain rfl : x = e := by simpa using z
            have : x ∈ A.all ∨ x = pl' := by
              simp only [HouseA.all, List.mem_append, List.mem_cons, List.not_mem_nil, or_false] at hx ⊢
              rcases hx with (hx | hx) | hx
              · rcases hx with hx | hx | hx | hx | hx | hx | hx | hx <;> simp [hx]
              · exact .inl (.inl (.inr hx))
              · exact .inl (.inr hx)
            rcases this with m | m
            · exact hem x m rfl
            · exact hn4 m.symm
    · rintro σ H3 ⟨v6, ys3, D3, pl3, rfl, f3, he3, hys3, hp3, hn3, h3, g3, sr3, rm3⟩
      refine ⟨_, _, _, _, ys3, D3, pl3, rfl, f3, he3, by omega, hp3, hn3, h3, g3, sr2.trans sr3, fun hroom q' hq' h20 r hr hw => ?_⟩
      rw [take_snoc e1] at hq'
      rcases List.mem_append.mp hq' with hq' | hq'
      · have hq1 := (hpl q' (List.mem_of_mem_take hq')).1
        have hl2 : q'.1 < D2.rs.length := by rw [sr2.len]; exact hq1
        have hd := rm2 hroom q' hq' h20 _ (List.getElem?_eq_getElem hl2)
        have := sr3.wd _ _ (List.getElem?_eq_getElem hl2) hd
        rw [hr] at this
        cases this
        exact hd hw
      · obtain rfl : q' = (t, n) := by simpa using hq'
        have h1 := rm3 hroom r hr hw
        have h2 := g3.go _ r hr hw
        have h3 := (g3.text hr hw).2
        have : 20 ≤ n := h20
        omega
  · rintro σ H2 ⟨v3, v4, v5, v6, ys, D2, pl2, rfl, f2, he2, hys, hp2, hn2, h2, g2, sr2, rm2⟩
    refine ⟨_, rfl, e, ys, rfl, .inl ⟨SqL.of he2, fun l hl => q _ D2 pl2 l (f2.trans (Fr.same (same_new hl))) hp2 (h2.up (same_new hl)) g2 sr2 fun hr => ?_⟩⟩
    · have := rm2 hr
      rw [List.take_of_length_le (by rw [hlen]; unfold dPlan; rw [List.length_map]; exact Nat.le_refl _)] at this
      exact this
end
end Sv
end
section
set_option Elab.async false
set_option linter.all false
set_option maxRecDepth 100000
set_option maxHeartbeats 4000000
/-! The law's own helpers: the pool, a draw. -/
namespace Sv
open PySem PySem.Spec PyProof.Rows L2 HotX
/-- a list of whole numbers, at most n of them -/
def IntL (H : Hp) (q : Addr) (n : Nat) : Prop := ∃ ns : List Int, H q = some (.lst (ns.map V.int)) ∧ ns.length ≤ n
def PoolAt (H : Hp) (q : Addr) : Prop := ∃ n, IntL H q n
theorem PoolAt.keep {H H' : Hp} {q : Addr} {F : List Addr} (h : PoolAt H q) (f : Fr F H H') (n : q ∉ F) : PoolAt H' q := by
  obtain ⟨n', ns, h1, h2⟩ := h
  exact ⟨n', ns, f.k _ _ n h1, h2⟩
theorem PoolAt.there {H : Hp} {q : Addr} (h : PoolAt H q) : H q ≠ none := by
  obtain ⟨_, ns, h1, _⟩ := h
  rw [h1]; simp
theorem same_at {H H' : Hp} {q : Addr} {o : HO} (s : Same H H') (h : H q = none) : Same H (upd H' q o) := fun b u e => by rw [upd_ne (ne_of_none e h)]; exact s _ _ e
def p_law_pool (K : PySem.W.Frag) : P2 := fun a b H Q => ∃ (p : Addr) (ns : List Int) (m : Nat), a = .ref p ∧ b = .int m ∧ m ≤ 1000 ∧ SqL K H p (ns.map V.int) ∧ ns.length ≤ 63 ∧ ∀ H' q, H q = none → Same H H' → PoolAt H' q → Q (.ref q) H'
def p_law_draw : P2 := fun a b H Q => ∃ (p : Addr) (m : Int), a = .ref p ∧ b = .int m ∧ 0 < m ∧ PoolAt H p ∧ ∀ H' r, 0 ≤ r → r < m → Fr [p] H H' → PoolAt H' p → Q (.int r) H'
/-- one more at the end -/
theorem IntL.app {H : Hp} {q : Addr} {n : Nat} (h : IntL H q n) : ∃ xs : List V, H q = some (.lst xs) ∧ xs.length ≤ n ∧ ∀ (i : Int) H', H' q = some (.lst (xs ++ [V.int i])) → IntL H' q (n + 1) := by
  obtain ⟨ns, h1, h2⟩ := h
  refine ⟨_, h1, by rw [List.length_map]; exact h2, fun i H' h' => ⟨ns ++ [i], by rw [h', List.map_append]; rfl, ?_⟩⟩
  rw [List.length_append]
  exact Nat.succ_le_succ h2
theorem IntL.mono {H : Hp} {q : Addr} {n m : Nat} (h : IntL H q n) (l : n ≤ m) : IntL H q m := by
  obtain ⟨ns, h1, h2⟩ := h
  exact ⟨ns, h1, Nat.le_trans h2 l⟩
def cutI (ms : List Int) (m : Nat) : List Int := ms.take m
theorem cutI_map (ms : List Int) (m : Nat) : cutV (ms.map V.int) none (some (m : Int)) = (cutI ms m).map V.int := by
  rw [cut_take, ← List.map_take]
  rfl
theorem pos (n : Nat) (h : 0 < n := by decide) : (0 : Int) < ((OfNat.ofNat n : Nat) : Int) := Int.ofNat_lt.mpr h
theorem cmul_mod (a b m : Int) (h : 0 < m) (h2 : m < 2 ^ 64) : CMul (a % m) b := by
  have h1 := Int.emod_nonneg a (show m ≠ 0 by omega)
  have h3 := Int.emod_lt_of_pos a h
  exact .inl ⟨by omega, by omega⟩
section
variable {P : Program} {w : World} {K : PySem.W.Frag} {mg : Str → Option Value} {base : Heap}
abbrev N_law_draw : List Str := ["_law_pool_here", "_law_many"]
theorem sc_law_draw : FnScope N_law_draw ["_law_pool_here", "_law_many"] (defScope s_law_draw) := ⟨rfl, rfl, rfl, by decide +kernel, rfl, by decide +kernel, by decide +kernel⟩
theorem ok_law_draw (T : Txt K mg) : GFn P w K mg base 1 "_law_draw" ["_law_pool_here", "_law_many"] (Sp2 p_law_draw) := by
  refine gfn T.d_law_draw T.g_law_draw sc_law_draw (fun _ _ _ _ _ _ us hl => match us, hl with | [_, _], _ => rfl) len2 fun cdv A outer s H vs Q E hr h => ?_
  obtain ⟨a0, a1, rfl, h⟩ := h
  refine ⟨_, pss_cons (ps_if (pt_cmpR op_eq (pe_callB call_len_seq (by rfl) T.b_len PySem.boot_len (pa_cons (pv 0) pa_nil)) (pe_int) (nomark _)) (pss_one (ps_ret (pe_int))) (pss_nil))
      (pss_one (ps_ret (pe_op op_mod (pe_callTy call_int1 (by rfl) T.b_int (by decide +kernel) (pa_cons (pe_bm0 PySem.F.plainAttrs_list PySem.F.slot_list_pop PySem.F.type_list_pop mt_pop (pv 0)) pa_nil)) (pv 1)))), ?_⟩
  obtain ⟨p, m, rfl, rfl, hm, ⟨n, ns, hp, hl⟩, q⟩ := h
  refine ⟨_, rfl, p, _, rfl, .inl (SqL.of hp), rfl, _, rfl, ?_⟩
  rw [List.length_map]
  by_cases e : ns.length = 0
  · rw [e, dec_t (show V.int ((0 : Nat) : Int) = V.int 0 from rfl)]
    exact q H 0 (Int.le_refl _) hm (Fr.refl _ _) ⟨n, ns, hp, hl⟩
  · rw [dec_f (show V.int (ns.length : Int) ≠ V.int 0 from fun z => e (by have := V.int.inj z; omega))]
    obtain ⟨y, hy⟩ : ∃ y, ns[ns.length - 1]? = some y := ⟨_, List.getElem?_eq_getElem (by omega)⟩
    refine ⟨_, rfl, ty_l hp, p, _, _, rfl, rfl, hp, by rw [List.length_map]; exact getMap hy, .inl ⟨y, rfl, ?_⟩⟩
    generalize hG : L2.upd H p _ = H1
    obtain ⟨f1, e1⟩ := gen_lst [p] hp hG (.head _)
    refine ⟨_, rfl, _, _, rfl, rfl, hm, q H1 (y % m) (Int.emod_nonneg _ (by omega)) (Int.emod_lt_of_pos _ hm) f1 ⟨n, ns.dropLast, by rw [e1, ← List.map_dropLast], ?_⟩⟩
    rw [List.length_dropLast]
    omega
abbrev N_law_pool : List Str := ["_law_script", "_law_many", "_law_pool_here", "_law_total", "_law_cell", "_law_k", "_law_rest", "_law_first", "_law_second"]
theorem sc_law_pool : FnScope N_law_pool ["_law_script", "_law_many"] (defScope s_law_pool) := ⟨rfl, rfl, rfl, by decide +kernel, rfl, by decide +kernel, by decide +kernel⟩
theorem ok_law_pool (T : Txt K mg) : GFn P w K mg base 1 "_law_pool" ["_law_script", "_law_many"] (Sp2 (p_law_pool K)) := by
  refine gfn T.d_law_pool T.g_law_pool sc_law_pool (fun _ _ _ _ _ _ us hl => match us, hl with | [_, _], _ => rfl) len2 fun cdv A outer s H vs Q E hr h => ?_
  obtain ⟨a0, a1, rfl, h⟩ := h
  refine ⟨_, pss_cons (ps_set (i := 2) sc_law_pool.nd rfl (Or.inl rfl) (pe_lst pa_nil))
      (pss_cons (ps_set (i := 3) sc_law_pool.nd rfl (Or.inl rfl) (pe_int))
      (pss_cons (ps_for PassesOwn.never rfl (pi_list (pv 0)) (pg_name (i := 4) sc_law_pool.nd rfl (Or.inl rfl))
      (pss_cons (ps_set (i := 6) sc_law_pool.nd rfl (Or.inl rfl) (pe_callTy call_int1 (by rfl) T.b_int (by decide +kernel) (pa_cons (pe_callB call_abs (by rfl) T.b_abs (by decide +kernel) (pa_cons (pv 4) pa_nil)) pa_nil)))
      (pss_cons (ps_if (pt_cmpR op_ge (pv 6) (pe_op op_pow (pe_int) (pe_int)) (nomark _)) (pss_one (ps_for PassesOwn.never rfl (pi_range1 (by rfl) T.b_range (pa_cons (pe_callB (call_min2 rfl) (by rfl) T.b_min (by decide +kernel) (pa_cons (pe_int) (pa_cons (pe_op op_sub (pv 1) (pe_callB call_len_seq (by rfl) T.b_len PySem.boot_len (pa_cons (pv 2) pa_nil))) pa_nil))) pa_nil)) (pg_name (i := 5) sc_law_pool.nd rfl (Or.inl rfl))
      (pss_cons (ps_expr (pe_bm PySem.F.plainAttrs_list PySem.F.slot_list_append PySem.F.type_list_append mt_append (pv 2) (pa_cons (pe_op op_mod (pe_callTy call_int1 (by rfl) T.b_int (by decide +kernel) (pa_cons (pv 6) pa_nil)) (pe_int)) pa_nil)))
      (pss_cons (ps_set (i := 6) sc_law_pool.nd rfl (Or.inl rfl) (pe_op op_fdiv (pv 6) (pe_int)))
      (pss_one (ps_if (pt_cmpR op_eq (pv 6) (pe_int) (nomark _)) (pss_one (ps_break)) (pss_nil))))))) (pss_cons (ps_set (i := 7) sc_law_pool.nd rfl (Or.inl rfl) (pe_op op_mod (pe_callTy call_int1 (by rfl) T.b_int (by decide +kernel) (pa_cons (pe_op op_add (pe_op op_add (pe_op op_mul (pv 4) (pe_int)) (pe_op op_mul (pe_callB call_len_seq (by rfl) T.b_len PySem.boot_len (pa_cons (pv 2) pa_nil)) (pe_int))) (pe_int)) pa_nil)) (pe_int)))
      (pss_cons (ps_set (i := 8) sc_law_pool.nd rfl (Or.inl rfl) (pe_op op_mod (pe_callTy call_int1 (by rfl) T.b_int (by decide +kernel) (pa_cons (pe_op op_add (pe_op op_mul (pv 7) (pv 7)) (pe_int)) pa_nil)) (pe_int)))
      (pss_cons (ps_expr (pe_bm PySem.F.plainAttrs_list PySem.F.slot_list_append PySem.F.type_list_append mt_append (pv 2) (pa_cons (pe_op op_mod (pe_callTy call_int1 (by rfl) T.b_int (by decide +kernel) (pa_cons (pe_op op_fdiv (pv 8) (pe_int)) pa_nil)) (pe_int)) pa_nil)))
      (pss_one (ps_expr (pe_bm PySem.F.plainAttrs_list PySem.F.slot_list_append PySem.F.type_list_append mt_append (pv 2) (pa_cons (pe_op op_mod (pe_op op_mod (pe_callTy call_int1 (by rfl) T.b_int (by decide +kernel) (pa_cons (pe_op op_add (pe_op op_mul (pv 8) (pe_int)) (pv 7)) pa_nil)) (pe_int)) (pe_int)) pa_nil))))))))
      (pss_one (ps_set (i := 3) sc_law_pool.nd rfl (Or.inl rfl) (pe_op op_mod (pe_callTy call_int1 (by rfl) T.b_int (by decide +kernel) (pa_cons (pe_op op_add (pe_op op_mul (pv 3) (pe_int)) (pv 4)) pa_nil)) (pe_int)))))))
      (pss_cons (ps_for PassesOwn.never rfl (pi_range1 (by rfl) T.b_range (pa_cons (pv 1) pa_nil)) (pg_name (i := 5) sc_law_pool.nd rfl (Or.inl rfl))
      (pss_cons (ps_set (i := 3) sc_law_pool.nd rfl (Or.inl rfl) (pe_op op_mod (pe_callTy call_int1 (by rfl) T.b_int (by decide +kernel) (pa_cons (pe_op op_add (pe_op op_add (pe_op op_mul (pv 3) (pe_int)) (pe_op op_mul (pv 5) (pe_int))) (pe_int)) pa_nil)) (pe_int)))
      (pss_one (ps_expr (pe_bm PySem.F.plainAttrs_list PySem.F.slot_list_append PySem.F.type_list_append mt_append (pv 2) (pa_cons (pe_op op_mod (pe_callTy call_int1 (by rfl) T.b_int (by decide +kernel) (pa_cons (pe_op op_fdiv (pv 3) (pe_int)) pa_nil)) (pe_int)) pa_nil))))))
      (pss_cons (ps_set (i := 2) sc_law_pool.nd rfl (Or.inl rfl) (pe_slice sl_list (pv 2) po_none (po_some (pv 1))))
      (pss_cons (ps_expr (pe_bm0 PySem.F.plainAttrs_list PySem.F.slot_list_reverse PySem.F.type_list_reverse mt_reverse (pv 2)))
      (pss_one (ps_ret (pv 2)))))))), ?_⟩
  obtain ⟨p, ns, m, rfl, rfl, hm, hp, hl, q⟩ := h
  refine ⟨ll0, fun e he => ?_⟩
  generalize hG : L2.upd H e (HO.lst []) = H1
  obtain ⟨s1, he1⟩ := gen_new he hG
  refine ⟨_, rfl, p, rfl, ⟨_, s1.seq hp⟩, for_list (K := K) (a := p) (xs := ns.map V.int) (fun i σ H' => ∃ v4 v5 v6 v7 v8 tot, σ = [some (.ref p), some (.int (m : Nat)), some (.ref e), some (.int tot), v4, v5, v6, v7, v8] ∧ Same H H' ∧ IntL H' e (i * 60))
    ⟨_, _, _, _, _, _, rfl, s1, [], he1, Nat.le_refl _⟩ (fun i σ H' _ ⟨_, _, _, _, _, _, _, s, _⟩ => s.seq hp) ?_ ?_⟩
  · rintro i x σ H2 hx ⟨v4, v5, v6, v7, v8, tot, rfl, s2, hL⟩
    obtain ⟨j, ej, rfl⟩ := map_get hx
    have hi := (List.getElem?_eq_some_iff.mp ej).1
    refine ⟨_, rfl, _, rfl, .inl ⟨_, rfl, ?_⟩⟩
    generalize (if j < 0 then -j else j) = r0
    refine ⟨_, rfl, _, _, rfl, rfl, ⟨by decide, by decide, by decide⟩, _, _, rfl, rfl, _, rfl, ?_⟩
    generalize decide ((10 : Int) ^ (18 : Int).toNat ≤ r0) = big
    cases big with
    | true =>
      obtain ⟨ms, hms, hml⟩ := id hL
      refine ⟨_, rfl, _, rfl, e, _, rfl, .inl (SqL.of hms), _, _, rfl, rfl, _, _, rfl, ?_⟩
      rw [List.length_map]
      refine ⟨_, rfl, ?_, ?_, ?_⟩
      · split <;> omega
      · split <;> omega
      have hn : (if ((m : Nat) : Int) - (ms.length : Nat) < 60 then ((m : Nat) : Int) - (ms.length : Nat) else 60).toNat ≤ 60 := by split <;> omega
      generalize (if ((m : Nat) : Int) - (ms.length : Nat) < 60 then ((m : Nat) : Int) - (ms.length : Nat) else 60).toNat = n at hn
      refine for_range (lo := 0) (n := n) (fun k σ H' => ∃ v5 r, σ = [some (.ref p), some (.int (m : Nat)), some (.ref e), some (.int tot), some (.int j), v5, some (.int r), v7, v8] ∧ Same H H' ∧ IntL H' e (i * 60 + k))
        ⟨_, _, rfl, s2, hL⟩ ?_ ?_
      · rintro k σ H3 hk ⟨v5, r, rfl, s3, h3⟩
        obtain ⟨xs, hx1, hx2, hx3⟩ := h3.app
        refine ⟨_, rfl, ty_l hx1, _, rfl, .inl ⟨_, rfl, _, _, rfl, rfl, pos 2520, e, xs, _, rfl, rfl, hx1, ?_, ?_⟩⟩
        · show xs.length < 16777216
          omega
        generalize hG : L2.upd H3 e _ = H4
        obtain ⟨_, e4⟩ := gen_lst [e] hx1 hG (.head _)
        have s4 : Same H H4 := by rw [← hG]; exact same_at s3 he
        have i4 := hx3 _ H4 e4
        refine ⟨_, rfl, _, _, rfl, rfl, ⟨by decide, by decide⟩, _, rfl, rfl, _, rfl, ?_⟩
        generalize decide (V.int (r / 2520) = V.int 0) = z
        cases z with
        | false => exact ⟨_, _, rfl, s4, i4⟩
        | true => exact ⟨_, rfl, _, _, rfl, rfl, .inr (by decide), _, rfl, _, _, rfl, rfl, .inl ⟨_, rfl, _, _, rfl, rfl, pos 1000003, ⟨_, _, _, _, _, _, rfl, s4, i4.mono (by omega)⟩⟩⟩
      · rintro σ H3 ⟨v5, r, rfl, s3, h3⟩
        exact ⟨_, rfl, _, _, rfl, rfl, .inr (by decide), _, rfl, _, _, rfl, rfl, .inl ⟨_, rfl, _, _, rfl, rfl, pos 1000003, ⟨_, _, _, _, _, _, rfl, s3, h3.mono (by omega)⟩⟩⟩
    | false =>
      obtain ⟨ms, hms, hml⟩ := id hL
      refine ⟨_, rfl, _, _, rfl, rfl, .inr (by decide), _, rfl, e, _, rfl, .inl (SqL.of hms), _, _, rfl, rfl, .inr (by decide), _, _, rfl, rfl, _, _, rfl, rfl, .inl ⟨_, rfl, _, _, rfl, rfl, pos 2147483647, ?_⟩⟩
      refine ⟨_, rfl, _, rfl, _, _, rfl, rfl, cmul_mod _ _ _ (by decide) (by decide), _, _, rfl, rfl, .inl ⟨_, rfl, _, _, rfl, rfl, pos 2147483629, ?_⟩⟩
      obtain ⟨xs, hx1, hx2, hx3⟩ := hL.app
      refine ⟨_, rfl, ty_l hx1, _, rfl, _, _, rfl, rfl, ⟨by decide, by decide⟩, .inl ⟨_, rfl, _, _, rfl, rfl, pos 2520, e, xs, _, rfl, rfl, hx1, ?_, ?_⟩⟩
      · show xs.length < 16777216
        omega
      generalize hG : L2.upd H2 e _ = H4
      obtain ⟨_, e4⟩ := gen_lst [e] hx1 hG (.head _)
      have s4 : Same H H4 := by rw [← hG]; exact same_at s2 he
      have i4 := hx3 _ H4 e4
      obtain ⟨ys, hy1, hy2, hy3⟩ := i4.app
      refine ⟨_, rfl, ty_l hy1, _, rfl, _, _, rfl, rfl, .inr (by decide), _, rfl, _, _, rfl, rfl, .inl ⟨_, rfl, _, _, rfl, rfl, pos 2147483587, _, _, rfl, rfl, pos 2520, e, ys, _, rfl, rfl, hy1, ?_, ?_⟩⟩
      · show ys.length < 16777216
        omega
      generalize hG : L2.upd H4 e _ = H5
      obtain ⟨_, e5⟩ := gen_lst [e] hy1 hG (.head _)
      have s5 : Same H H5 := by rw [← hG]; exact same_at s4 he
      have i5 := hy3 _ H5 e5
      exact ⟨_, rfl, _, _, rfl, rfl, .inr (by decide), _, rfl, _, _, rfl, rfl, .inl ⟨_, rfl, _, _, rfl, rfl, pos 1000003, ⟨_, _, _, _, _, _, rfl, s5, i5.mono (by omega)⟩⟩⟩
  · rintro σ H2 ⟨v4, v5, v6, v7, v8, tot, rfl, s2, hL⟩
    refine ⟨_, rfl, (m : Int), rfl, by omega, by omega, for_range (lo := 0) (n := m) (fun k σ H' => ∃ v4 v5 v6 v7 v8 tot, σ = [some (.ref p), some (.int (m : Nat)), some (.ref e), some (.int tot), v4, v5, v6, v7, v8] ∧ Same H H' ∧ IntL H' e (6000 + k))
      ⟨_, _, _, _, _, _, rfl, s2, hL.mono (by rw [List.length_map]; omega)⟩ ?_ ?_⟩
    · rintro k σ H3 hk ⟨v4, v5, v6, v7, v8, tot, rfl, s3, h3⟩
      refine ⟨_, rfl, _, _, rfl, rfl, .inr (by decide), _, rfl, _, _, rfl, rfl, .inr (by decide), _, _, rfl, rfl, _, _, rfl, rfl, .inl ⟨_, rfl, _, _, rfl, rfl, pos 2147483647, ?_⟩⟩
      obtain ⟨xs, hx1, hx2, hx3⟩ := h3.app
      refine ⟨_, rfl, ty_l hx1, _, rfl, _, _, rfl, rfl, ⟨by decide, by decide⟩, .inl ⟨_, rfl, _, _, rfl, rfl, pos 2520, e, xs, _, rfl, rfl, hx1, ?_, ?_⟩⟩
      · show xs.length < 16777216
        omega
      generalize hG : L2.upd H3 e _ = H4
      obtain ⟨_, e4⟩ := gen_lst [e] hx1 hG (.head _)
      have s4 : Same H H4 := by rw [← hG]; exact same_at s3 he
      exact ⟨_, _, _, _, _, _, rfl, s4, hx3 _ H4 e4⟩
    · rintro σ H3 ⟨v4, v5, v6, v7, v8, tot, rfl, s3, ms, hms, hml⟩
      refine ⟨_, rfl, _, rfl, _, rfl, e, _, rfl, SqL.of hms, fun c hc => ?_⟩
      generalize hG : L2.upd H3 c _ = H4
      obtain ⟨s4, e4⟩ := gen_new hc hG
      refine ⟨_, rfl, ty_l e4, c, _, rfl, rfl, e4, ?_⟩
      refine ⟨_, rfl, q _ c (s3.free hc) (same_at (s3.trans s4) (s3.free hc)) ⟨_, (cutI ms m).reverse, ?_, Nat.le_refl _⟩⟩
      rw [upd_same, List.map_reverse, cutI_map]
end
end Sv
end
section
set_option Elab.async false
set_option linter.all false
set_option maxRecDepth 100000
set_option maxHeartbeats 4000000
/-! The law's own helpers: drawn vectors, letters, the net. -/
namespace Sv
open PySem PySem.Spec PyProof.Rows L2 HotX
/-- behind i turns of a comprehension that draws: the list at D holds i data, the pool is shorter -/
def LcD {α : Type} (enc : α → PyData) (Pd : α → Prop) (H0 : Hp) (pa D : Addr) (i : Nat) (H : Hp) : Prop := Fr [pa] H0 H ∧ PoolAt H pa ∧ ∃ (ds : List α) (ys : List V), ds.length = i ∧ (∀ x ∈ ds, Pd x) ∧ H D = some (.lst ys) ∧ AtAll H ys (ds.map enc)
section
variable {α : Type} {enc : α → PyData} {Pd : α → Prop} {H0 H H4 : Hp} {pa D : Addr} {i : Nat}
theorem lcD_0 (h : H0 D = none) (pp : PoolAt H0 pa) : LcD enc Pd H0 pa D 0 (upd H0 D (.lst [])) :=
  ⟨Fr.same (same_new h), pp.keep (F := []) (Fr.same (same_new h)) (by simp), [], [], rfl, by simp, upd_same, .nil⟩
theorem lcD_step {y : V} {x : α} (hD : H0 D = none) (pp : PoolAt H0 pa) (I : LcD enc Pd H0 pa D i H) (f : Fr [pa] H H4) (p4 : PoolAt H4 pa) (hx : Pd x) (q : At H4 y (enc x)) (hl : i ≤ 1000) :
    ∃ acc, H4 D = some (.lst acc) ∧ acc.length < sizeLine ∧ LcD enc Pd H0 pa D (i + 1) (upd H4 D (.lst (acc ++ [y]))) := by
  obtain ⟨f1, _, ds, ys, h1, h2, h3, h4⟩ := I
  have ne : D ≠ pa := fun e => pp.there (by rw [← e]; exact hD)
  have h3' := f.k _ _ (by simp; exact ne) h3
  have hlen := h4.len
  rw [List.length_map] at hlen
  generalize hG : L2.upd H4 D _ = H5
  obtain ⟨f5, e5⟩ := gen_lst [D] h3' hG (.head _)
  refine ⟨ys, h3', ?_, ?_⟩
  · show ys.length < 16777216
    omega
  · rw [hG]
    refine ⟨⟨(f1.trans f).t.trans f5.t, fun b o hb hbo => f5.k b o (fun z => ?_) ((f1.trans f).k b o hb hbo)⟩, p4.keep f5 (by simp; exact Ne.symm ne), ds ++ [x], ys ++ [y], by rw [List.length_append, h1]; rfl, ?_, e5, ?_⟩
    · obtain rfl : b = D := by simpa using z
      rw [hD] at hbo
      cases hbo
    · intro z hz
      rcases List.mem_append.mp hz with hz | hz
      · exact h2 z hz
      · obtain rfl : z = x := by simpa using hz
        exact hx
    · rw [List.map_append]
      exact ((h4.up f.t).snoc q).up f5.t
theorem lcD_tup {K : PySem.W.Frag} {n : Nat} {Q : VK} (I : LcD enc Pd H0 pa D n H) (q : ∀ (H' : Hp) (v : V) (ds : List α), Fr [pa] H0 H' → PoolAt H' pa → ds.length = n → (∀ x ∈ ds, Pd x) → At H' v (.tuple (ds.map enc)) → Q v H') :
    ∃ p zs, ([V.ref D] : List V) = [.ref p] ∧ ((SqL K H p zs ∧ ∀ l, H l = none → Q (.ref l) (upd H l (.tup zs))) ∨ (SqT K H p zs ∧ Q (.ref p) H)) := by
  obtain ⟨f1, p1, ds, ys, h1, h2, h3, h4⟩ := I
  refine ⟨D, ys, rfl, .inl ⟨SqL.of h3, fun l hl => q _ _ ds (f1.trans (Fr.same (same_new hl))) (p1.keep (F := []) (Fr.same (same_new hl)) (by simp)) h1 h2 (at_tup upd_same (h4.up (same_new hl).tups))⟩⟩
end
def Below (p : Int) (x : Int) : Prop := 0 ≤ x ∧ x < p
def p_law_vectors : P4 := fun a b c d H Q => ∃ (pa : Addr) (p : Int) (n w : Nat), a = .ref pa ∧ b = .int p ∧ c = .int n ∧ d = .int w ∧ 0 < p ∧ n ≤ 1000 ∧ w ≤ 1000 ∧ PoolAt H pa ∧
  ∀ H' v m, Fr [pa] H H' → PoolAt H' pa → m.length = n → (∀ r ∈ m, r.length = w ∧ ∀ x ∈ r, Below p x) → At H' v (dMat m) → Q v H'
section
variable {P : Program} {w : World} {K : PySem.W.Frag} {mg : Str → Option Value} {base : Heap}
abbrev N_law_vectors : List Str := ["_law_pool_here", "_law_prime", "_law_many", "_law_width", "_law_j", "_law_k"]
theorem sc_law_vectors : FnScope N_law_vectors ["_law_pool_here", "_law_prime", "_law_many", "_law_width"] (defScope s_law_vectors) := ⟨rfl, rfl, rfl, by decide +kernel, rfl, by decide +kernel, by decide +kernel⟩
theorem ok_law_vectors (T : Txt K mg) : GFn P w K mg base 2 "_law_vectors" ["_law_pool_here", "_law_prime", "_law_many", "_law_width"] (Sp4 p_law_vectors) := by
  refine gfn T.d_law_vectors T.g_law_vectors sc_law_vectors (fun _ _ _ _ _ _ us hl => match us, hl with | [_, _, _, _], _ => rfl) len4 fun cdv A outer s H vs Q E hr h => ?_
  obtain ⟨a0, a1, a2, a3, rfl, h⟩ := h
  refine ⟨_, pss_one (ps_ret (pe_callTy call_tuple_of (by rfl) T.b_tuple (by decide +kernel) (pa_cons (pe_lc (own := [("_law_j", 4)]) rfl sc_law_vectors.nd (pi_range1 (by rfl) T.b_range (pa_cons (pv 2) pa_nil)) (blkOk_by (N := N_law_vectors) (sc := defScope s_law_vectors) (by decide +kernel)) (fun _ _ _ _ _ => pg_name (i := 4) sc_law_vectors.nd rfl (Or.inl rfl) (hf := Or.inr rfl)) (fun _ _ _ _ _ => pts_nil) (fun _ _ _ _ _ => pe_callTy (call_tuple_ofK (K0 := K)) (by rfl) T.b_tuple (by decide +kernel) (pa_cons (pe_lc (own := [("_law_k", 5)]) rfl sc_law_vectors.nd (pi_range1 (by rfl) T.b_range (pa_cons (pv 3) pa_nil)) (blkOk_by (N := N_law_vectors) (sc := _) (by rfl)) (fun _ _ _ _ _ => pg_name (i := 5) sc_law_vectors.nd rfl (Or.inl rfl) (hf := Or.inr rfl)) (fun _ _ _ _ _ => pts_nil) (fun _ _ _ _ _ => pe_op op_mod (pe_callTy call_int1 (by rfl) T.b_int (by decide +kernel) (pa_cons (pe_g (ok_law_draw T) (hr.mono (by decide)) (pa_cons (pv 0) (pa_cons (pe_int) pa_nil))) pa_nil)) (pv 1))) pa_nil))) pa_nil))), ?_⟩
  obtain ⟨pa, p, n, w', rfl, rfl, rfl, rfl, hp, hn, hw, pp, q⟩ := h
  refine ⟨_, rfl, (n : Int), rfl, by omega, by omega, fun D hD => lc_range (lo := 0) (n := n) (LcD dVec (fun r => r.length = w' ∧ ∀ x ∈ r, Below p x) H pa D) (lcD_0 hD pp) (fun i H1 hi I => ?_) fun H1 I => lcD_tup I fun H' v m f p1 h1 h2 h3 => q H' v m f p1 h1 h2 h3⟩
  refine ⟨rfl, _, rfl, (w' : Int), rfl, by omega, by omega, fun D2 hD2 => lc_range (lo := 0) (n := w') (LcD PyData.int (Below p) H1 pa D2) (lcD_0 hD2 I.2.1) (fun k H2 hk I2 => ?_) fun H2 I2 => lcD_tup I2 fun H3 v r f3 p3 g1 g2 g3 => lcD_step hD pp I f3 p3 ⟨g1, g2⟩ g3 (by omega)⟩
  exact ⟨rfl, _, rfl, _, _, rfl, pa, 2520, rfl, rfl, by decide, I2.2.1, fun H3 r r0 r1 f3 p3 => .inl ⟨_, rfl, _, rfl, _, _, rfl, rfl, hp, lcD_step hD2 I.2.1 I2 f3 p3 ⟨Int.emod_nonneg _ (by omega), Int.emod_lt_of_pos _ hp⟩ (.int _) (by omega)⟩⟩
/-- the law's own net: a tuple -/
def NetD (M : NetM) : PyData := .tuple [.int M.prime, dMat M.embed, dVec M.shift, .tuple (M.layers.map dLay), dMat M.out, dOpt M.fin]
theorem netD {H : Hp} {v : V} {M : NetM} (h : At H v (NetD M)) : ∃ e ve vs vl vo vf, v = .ref e ∧ H e = some (.tup [V.int M.prime, ve, vs, vl, vo, vf]) ∧ At H ve (dMat M.embed) ∧ At H vs (dVec M.shift) ∧ At H vl (.tuple (M.layers.map dLay)) ∧ At H vo (dMat M.out) ∧ At H vf (dOpt M.fin) := by
  obtain ⟨e, xs, rfl, he, r⟩ := h.tupI
  cases r with
  | cons a1 r =>
    cases r with
    | cons a2 r =>
      cases r with
      | cons a3 r =>
        cases r with
        | cons a4 r =>
          cases r with
          | cons a5 r =>
            cases r with
            | cons a6 r =>
              cases r
              obtain rfl := a1.intI
              exact ⟨e, _, _, _, _, _, rfl, he, a2, a3, a4, a5, a6⟩
def p_law_letters : P3 := fun a b c H Q => ∃ (pa : Addr) (M : NetM) (n : Nat), a = .ref pa ∧ At H b (NetD M) ∧ c = .int n ∧ 0 < M.embed.length ∧ n ≤ 1000 ∧ PoolAt H pa ∧
  ∀ H' v ns, Fr [pa] H H' → PoolAt H' pa → ns.length = n → (∀ x ∈ ns, Below M.embed.length x) → At H' v (dVec ns) → Q v H'
abbrev N_law_letters : List Str := ["_law_pool_here", "_law_net_here", "_law_many", "_law_k"]
theorem sc_law_letters : FnScope N_law_letters ["_law_pool_here", "_law_net_here", "_law_many"] (defScope s_law_letters) := ⟨rfl, rfl, rfl, by decide +kernel, rfl, by decide +kernel, by decide +kernel⟩
theorem ok_law_letters (T : Txt K mg) : GFn P w K mg base 2 "_law_letters" ["_law_pool_here", "_law_net_here", "_law_many"] (Sp3 p_law_letters) := by
  refine gfn T.d_law_letters T.g_law_letters sc_law_letters (fun _ _ _ _ _ _ us hl => match us, hl with | [_, _, _], _ => rfl) len3 fun cdv A outer s H vs Q E hr h => ?_
  obtain ⟨a0, a1, a2, rfl, h⟩ := h
  refine ⟨_, pss_one (ps_ret (pe_callTy call_tuple_of (by rfl) T.b_tuple (by decide +kernel) (pa_cons (pe_lc (own := [("_law_k", 3)]) rfl sc_law_letters.nd (pi_range1 (by rfl) T.b_range (pa_cons (pv 2) pa_nil)) (blkOk_by (N := N_law_letters) (sc := defScope s_law_letters) (by decide +kernel)) (fun _ _ _ _ _ => pg_name (i := 3) sc_law_letters.nd rfl (Or.inl rfl) (hf := Or.inr rfl)) (fun _ _ _ _ _ => pts_nil) (fun _ _ _ _ _ => pe_g (ok_law_draw T) (hr.mono (by decide)) (pa_cons (pv 0) (pa_cons (pe_callB (call_len_seqK (K0 := K)) (by rfl) T.b_len PySem.boot_len (pa_cons (pe_ix (ix_tupK (K0 := K)) (pv 1) (pe_int) (fun _ _ => rfl)) pa_nil)) pa_nil)))) pa_nil))), ?_⟩
  obtain ⟨pa, M, n, rfl, hb, rfl, h0, hn, pp, q⟩ := h
  obtain ⟨e, ve, vs, vl, vo, vf, rfl, he, hm, _⟩ := netD hb
  obtain ⟨c, xs, rfl, hc, hxs⟩ := hm.matI
  have hl := hxs.len
  rw [List.length_map] at hl
  refine ⟨_, rfl, (n : Int), rfl, by omega, by omega, fun D hD => lc_range (lo := 0) (n := n) (LcD PyData.int (Below M.embed.length) H pa D) (lcD_0 hD pp) (fun i H1 hi I => ?_) fun H1 I => lcD_tup I fun H' v ds f p1 h1 h2 h3 => q H' v ds f p1 h1 h2 h3⟩
  exact ⟨rfl, _, rfl, _, rfl, e, _, _, _, rfl, rfl, SqT.of (I.1.t _ _ rfl he), rfl, c, xs, rfl, .inr (SqT.of (I.1.t _ _ rfl hc)), _, _, rfl, pa, _, rfl, rfl, by omega, I.2.1, fun H3 r r0 r1 f3 p3 => lcD_step hD pp I f3 p3 ⟨r0, by rw [← hl]; exact r1⟩ (.int _) (by omega)⟩
end
end Sv
end
section
set_option Elab.async false
set_option linter.all false
set_option maxRecDepth 100000
set_option maxHeartbeats 4000000
/-! The law's own net, drawn. -/
namespace Sv
open PySem PySem.Spec PyProof.Rows L2 HotX
theorem pick {ys : List V} {r : Int} (h0 : 0 ≤ r) (h1 : r < (ys.length : Int)) : ∃ v ∈ ys, atI ys r = some v := by
  obtain ⟨n, rfl⟩ := Int.eq_ofNat_of_zero_le h0
  have hn : n < ys.length := by omega
  exact ⟨ys[n], List.getElem_mem hn, atI_nat (List.getElem?_eq_getElem hn)⟩
theorem mkL {H : Hp} {o pa : Addr} {ys : List V} (ho : H o = none) (pp : PoolAt H pa) : PoolAt (upd H o (.lst ys)) pa ∧ ∀ H1, Fr [pa] (upd H o (.lst ys)) H1 → Fr [pa] H H1 ∧ H1 o = some (.lst ys) :=
  ⟨pp.keep (F := []) (Fr.same (same_new ho)) (by simp), fun H1 f => ⟨(Fr.same (same_new ho)).trans f, f.k _ _ (by simp; exact fun e => pp.there (by rw [← e]; exact ho)) upd_same⟩⟩
abbrev prs : List V := [.int 2, .int 3, .int 5, .int 7, .int 11, .int 13, .int 31, .int 97]
abbrev lts : List V := [.int 1, .int 2, .int 2, .int 3, .int 3, .int 4, .int 5, .int 12]
abbrev wds : List V := [.int 1, .int 1, .int 1, .int 2, .int 2, .int 2, .int 3, .int 1, .int 2, .int 4]
abbrev cts : List V := [.int 0, .int 1, .int 1, .int 2, .int 0, .int 1, .int 1, .int 3]
theorem prs_ok : ∀ v ∈ prs, ∃ p : Int, v = .int p ∧ 2 ≤ p ∧ p ≤ 97 ∧ inV (.int p) primesV = true := by
  intro v hv
  simp only [prs, List.mem_cons, List.not_mem_nil, or_false] at hv
  rcases hv with rfl | rfl | rfl | rfl | rfl | rfl | rfl | rfl <;> exact ⟨_, rfl, by decide, by decide, by decide⟩
theorem lts_ok : ∀ v ∈ lts, ∃ n : Nat, v = .int n ∧ 1 ≤ n ∧ n ≤ 12 := by
  intro v hv
  simp only [lts, List.mem_cons, List.not_mem_nil, or_false] at hv
  rcases hv with rfl | rfl | rfl | rfl | rfl | rfl | rfl | rfl
  · exact ⟨1, rfl, by decide, by decide⟩
  · exact ⟨2, rfl, by decide, by decide⟩
  · exact ⟨2, rfl, by decide, by decide⟩
  · exact ⟨3, rfl, by decide, by decide⟩
  · exact ⟨3, rfl, by decide, by decide⟩
  · exact ⟨4, rfl, by decide, by decide⟩
  · exact ⟨5, rfl, by decide, by decide⟩
  · exact ⟨12, rfl, by decide, by decide⟩
theorem wds_ok : ∀ v ∈ wds, ∃ n : Nat, v = .int n ∧ 1 ≤ n ∧ n ≤ 4 := by
  intro v hv
  simp only [wds, List.mem_cons, List.not_mem_nil, or_false] at hv
  rcases hv with rfl | rfl | rfl | rfl | rfl | rfl | rfl | rfl | rfl | rfl
  · exact ⟨1, rfl, by decide, by decide⟩
  · exact ⟨1, rfl, by decide, by decide⟩
  · exact ⟨1, rfl, by decide, by decide⟩
  · exact ⟨2, rfl, by decide, by decide⟩
  · exact ⟨2, rfl, by decide, by decide⟩
  · exact ⟨2, rfl, by decide, by decide⟩
  · exact ⟨3, rfl, by decide, by decide⟩
  · exact ⟨1, rfl, by decide, by decide⟩
  · exact ⟨2, rfl, by decide, by decide⟩
  · exact ⟨4, rfl, by decide, by decide⟩
theorem cts_ok : ∀ v ∈ cts, ∃ n : Nat, v = .int n ∧ n ≤ 3 := by
  intro v hv
  simp only [cts, List.mem_cons, List.not_mem_nil, or_false] at hv
  rcases hv with rfl | rfl | rfl | rfl | rfl | rfl | rfl | rfl
  · exact ⟨0, rfl, by decide⟩
  · exact ⟨1, rfl, by decide⟩
  · exact ⟨1, rfl, by decide⟩
  · exact ⟨2, rfl, by decide⟩
  · exact ⟨0, rfl, by decide⟩
  · exact ⟨1, rfl, by decide⟩
  · exact ⟨1, rfl, by decide⟩
  · exact ⟨3, rfl, by decide⟩
theorem lay_of {p : Int} {w : Nat} {ds : List (List (List Int))} (hl : ds.length = 5) (h : ∀ m ∈ ds, MatOk p w w m) : ∃ l : Lay, PyData.tuple (ds.map dMat) = dLay l ∧ LayOk p w l := by
  match ds, hl with
  | [a, b, c, d, e], _ => exact ⟨⟨a, b, c, d, e⟩, rfl, h a (by simp), h b (by simp), h c (by simp), h d (by simp), h e (by simp)⟩
def p_law_net : P1 := fun a H Q => ∃ (pa : Addr), a = .ref pa ∧ PoolAt H pa ∧ ∀ H' v M L w, Fr [pa] H H' → PoolAt H' pa → NetOk M L w → inV (.int M.prime) primesV = true → At H' v (NetD M) → Q v H'
section
variable {P : Program} {w : World} {K : PySem.W.Frag} {mg : Str → Option Value} {base : Heap}
abbrev N_law_net : List Str := ["_law_pool_here", "_law_prime", "_law_letters_here", "_law_width", "_law_layers", "_law_k", "_law_embed", "_law_shift", "_law_out", "_law_end", "_law_j"]
theorem sc_law_net : FnScope N_law_net ["_law_pool_here"] (defScope s_law_net) := ⟨rfl, rfl, rfl, by decide +kernel, rfl, by decide +kernel, by decide +kernel⟩
theorem ok_law_net (T : Txt K mg) : GFn P w K mg base 3 "_law_net" ["_law_pool_here"] (Sp1 p_law_net) := by
  refine gfn T.d_law_net T.g_law_net sc_law_net (fun _ _ _ _ _ _ us hl => match us, hl with | [_], _ => rfl) len1 fun cdv A outer s H vs Q E hr h => ?_
  obtain ⟨a0, rfl, h⟩ := h
  refine ⟨_, pss_cons (ps_set (i := 1) sc_law_net.nd rfl (Or.inr rfl) (pe_ix ix_list (pe_lst (pa_cons (pe_int) (pa_cons (pe_int) (pa_cons (pe_int) (pa_cons (pe_int) (pa_cons (pe_int) (pa_cons (pe_int) (pa_cons (pe_int) (pa_cons (pe_int) pa_nil))))))))) (pe_g (ok_law_draw T) (hr.mono (by decide)) (pa_cons (pv 0) (pa_cons (pe_int) pa_nil))) (fun _ _ => rfl)))
      (pss_cons (ps_set (i := 2) sc_law_net.nd rfl (Or.inl rfl) (pe_ix ix_list (pe_lst (pa_cons (pe_int) (pa_cons (pe_int) (pa_cons (pe_int) (pa_cons (pe_int) (pa_cons (pe_int) (pa_cons (pe_int) (pa_cons (pe_int) (pa_cons (pe_int) pa_nil))))))))) (pe_g (ok_law_draw T) (hr.mono (by decide)) (pa_cons (pv 0) (pa_cons (pe_int) pa_nil))) (fun _ _ => rfl)))
      (pss_cons (ps_set (i := 3) sc_law_net.nd rfl (Or.inr rfl) (pe_ix ix_list (pe_lst (pa_cons (pe_int) (pa_cons (pe_int) (pa_cons (pe_int) (pa_cons (pe_int) (pa_cons (pe_int) (pa_cons (pe_int) (pa_cons (pe_int) (pa_cons (pe_int) (pa_cons (pe_int) (pa_cons (pe_int) pa_nil))))))))))) (pe_g (ok_law_draw T) (hr.mono (by decide)) (pa_cons (pv 0) (pa_cons (pe_int) pa_nil))) (fun _ _ => rfl)))
      (pss_cons (ps_set (i := 4) sc_law_net.nd rfl (Or.inl rfl) (pe_lst pa_nil))
      (pss_cons (ps_for PassesOwn.never rfl (pi_range1 (by rfl) T.b_range (pa_cons (pe_ix ix_list (pe_lst (pa_cons (pe_int) (pa_cons (pe_int) (pa_cons (pe_int) (pa_cons (pe_int) (pa_cons (pe_int) (pa_cons (pe_int) (pa_cons (pe_int) (pa_cons (pe_int) pa_nil))))))))) (pe_g (ok_law_draw T) (hr.mono (by decide)) (pa_cons (pv 0) (pa_cons (pe_int) pa_nil))) (fun _ _ => rfl)) pa_nil)) (pg_name (i := 5) sc_law_net.nd rfl (Or.inl rfl))
      (pss_one (ps_expr (pe_bm PySem.F.plainAttrs_list PySem.F.slot_list_append PySem.F.type_list_append mt_append (pv 4) (pa_cons (pe_callTy call_tuple_of (by rfl) T.b_tuple (by decide +kernel) (pa_cons (pe_lc (own := [("_law_j", 10)]) rfl sc_law_net.nd (pi_range1 (by rfl) T.b_range (pa_cons (pe_int) pa_nil)) (blkOk_by (N := N_law_net) (sc := defScope s_law_net) (by decide +kernel)) (fun _ _ _ _ _ => pg_name (i := 10) sc_law_net.nd rfl (Or.inl rfl) (hf := Or.inr rfl)) (fun _ _ _ _ _ => pts_nil) (fun _ _ _ _ _ => pe_g (ok_law_vectors T) (hr.mono (by decide)) (pa_cons (pv 0) (pa_cons (pv 1) (pa_cons (pv 3) (pa_cons (pv 3) pa_nil)))))) pa_nil)) pa_nil)))))
      (pss_cons (ps_set (i := 6) sc_law_net.nd rfl (Or.inl rfl) (pe_g (ok_law_vectors T) (hr.mono (by decide)) (pa_cons (pv 0) (pa_cons (pv 1) (pa_cons (pv 2) (pa_cons (pv 3) pa_nil))))))
      (pss_cons (ps_set (i := 7) sc_law_net.nd rfl (Or.inl rfl) (pe_ix ix_tup (pe_g (ok_law_vectors T) (hr.mono (by decide)) (pa_cons (pv 0) (pa_cons (pv 1) (pa_cons (pe_int) (pa_cons (pv 3) pa_nil))))) (pe_int) (fun _ _ => rfl)))
      (pss_cons (ps_set (i := 8) sc_law_net.nd rfl (Or.inl rfl) (pe_g (ok_law_vectors T) (hr.mono (by decide)) (pa_cons (pv 0) (pa_cons (pv 1) (pa_cons (pv 2) (pa_cons (pv 3) pa_nil))))))
      (pss_cons (ps_set (i := 9) sc_law_net.nd rfl (Or.inl rfl) (pe_ix ix_list (pe_lst (pa_cons (pe_non) (pa_cons (pe_non) (pa_cons (pe_g (ok_law_draw T) (hr.mono (by decide)) (pa_cons (pv 0) (pa_cons (pv 2) pa_nil))) pa_nil)))) (pe_g (ok_law_draw T) (hr.mono (by decide)) (pa_cons (pv 0) (pa_cons (pe_int) pa_nil))) (fun _ _ => rfl)))
      (pss_one (ps_ret (pe_tup (pa_cons (pv 1) (pa_cons (pv 6) (pa_cons (pv 7) (pa_cons (pe_callTy call_tuple_of (by rfl) T.b_tuple (by decide +kernel) (pa_cons (pv 4) pa_nil)) (pa_cons (pv 8) (pa_cons (pv 9) pa_nil))))))))))))))))), ?_⟩
  obtain ⟨pa, rfl, pp0, q⟩ := h
  refine ⟨by decide, fun o1 ho1 => ?_⟩
  obtain ⟨pp1, k1⟩ := mkL (ys := prs) ho1 pp0
  refine ⟨_, rfl, _, _, rfl, pa, 8, rfl, rfl, by decide, pp1, fun H1 r1 a1 b1 f1 q1 => ?_⟩
  obtain ⟨f1', g1⟩ := k1 H1 f1
  obtain ⟨v1, m1, e1⟩ := pick (ys := prs) a1 b1
  refine ⟨o1, _, _, _, rfl, rfl, SqL.of g1, e1, ?_⟩
  obtain ⟨p, rfl, hp2, hp97, hpv⟩ := prs_ok v1 m1
  clear e1 m1 a1 b1
  refine ⟨by decide, fun o2 ho2 => ?_⟩
  obtain ⟨pp2, k2⟩ := mkL (ys := lts) ho2 q1
  refine ⟨_, rfl, _, _, rfl, pa, 8, rfl, rfl, by decide, pp2, fun H2 r2 a2 b2 f2 q2 => ?_⟩
  obtain ⟨f2', g2⟩ := k2 H2 f2
  obtain ⟨v2, m2, e2⟩ := pick (ys := lts) a2 b2
  refine ⟨o2, _, _, _, rfl, rfl, SqL.of g2, e2, ?_⟩
  obtain ⟨L, rfl, hL1, hL12⟩ := lts_ok v2 m2
  clear e2 m2 a2 b2
  refine ⟨by decide, fun o3 ho3 => ?_⟩
  obtain ⟨pp3, k3⟩ := mkL (ys := wds) ho3 q2
  refine ⟨_, rfl, _, _, rfl, pa, 10, rfl, rfl, by decide, pp3, fun H3 r3 a3 b3 f3 q3 => ?_⟩
  obtain ⟨f3', g3⟩ := k3 H3 f3
  obtain ⟨v3, m3, e3⟩ := pick (ys := wds) a3 b3
  refine ⟨o3, _, _, _, rfl, rfl, SqL.of g3, e3, ?_⟩
  obtain ⟨wn, rfl, hw1, hw4⟩ := wds_ok v3 m3
  clear e3 m3 a3 b3
  have fA : Fr [pa] H H3 := (f1'.trans f2').trans f3'
  refine ⟨ll0, fun D hD => ?_⟩
  generalize hG : L2.upd H3 D (HO.lst []) = H4
  have I0 : LcD dLay (LayOk p wn) H3 pa D 0 H4 := by rw [← hG]; exact lcD_0 hD q3
  refine ⟨by decide, fun o4 ho4 => ?_⟩
  obtain ⟨pp4, k4⟩ := mkL (ys := cts) ho4 I0.2.1
  refine ⟨_, rfl, _, _, rfl, pa, 8, rfl, rfl, by decide, pp4, fun H5 r4 a4 b4 f4 q4 => ?_⟩
  obtain ⟨f4', g4⟩ := k4 H5 f4
  obtain ⟨v4, m4, e4⟩ := pick (ys := cts) a4 b4
  refine ⟨o4, _, _, _, rfl, rfl, SqL.of g4, e4, ?_⟩
  obtain ⟨n, rfl, hn3⟩ := cts_ok v4 m4
  clear e4 m4 a4 b4
  have neD : D ≠ pa := fun e => q3.there (by rw [← e]; exact hD)
  have I1 : LcD dLay (LayOk p wn) H3 pa D 0 H5 := by
    obtain ⟨f, _, ds, ys, h1, h2, h3, h4⟩ := I0
    exact ⟨f.trans f4', q4, ds, ys, h1, h2, f4'.k _ _ (by simp; exact neD) h3, h4.up f4'.t⟩
  refine ⟨(n : Int), rfl, by omega, by omega, for_range (lo := 0) (n := n) (fun i σ H' => ∃ v5, σ = [some (.ref pa), some (.int p), some (.int (L : Nat)), some (.int (wn : Nat)), some (.ref D), v5, none, none, none, none, none] ∧ LcD dLay (LayOk p wn) H3 pa D i H')
    ⟨_, rfl, I1⟩ ?_ ?_⟩
  · rintro i σ H6 hi ⟨v5, rfl, I⟩
    obtain ⟨_, _, _, ys, _, _, hDl, _⟩ := id I
    refine ⟨_, rfl, ty_l hDl, (5 : Int), rfl, by decide, by decide, fun D2 hD2 => lc_range (lo := 0) (n := 5) (LcD dMat (MatOk p wn wn) H6 pa D2) (lcD_0 hD2 I.2.1) (fun k H7 hk I2 => ?_) fun H7 I2 => ?_⟩
    · exact ⟨rfl, _, rfl, _, rfl, _, rfl, _, rfl, _, _, _, _, rfl, pa, p, wn, wn, rfl, rfl, rfl, rfl, by omega, by omega, by omega, I2.2.1, fun H8 v m f8 p8 c1 c2 c3 => lcD_step hD2 I.2.1 I2 f8 p8 ⟨c1, c2⟩ c3 (by omega)⟩
    · obtain ⟨f8, p8, ds, ys2, c1, c2, h3, h4⟩ := I2
      refine ⟨D2, ys2, rfl, .inl ⟨SqL.of h3, fun l0 hl0 => ?_⟩⟩
      generalize hG : L2.upd H7 l0 (HO.tup ys2) = H8
      obtain ⟨s8, e8⟩ := gen_new hl0 hG
      have c3 := at_tup e8 (h4.up s8.tups)
      obtain ⟨l, el, hl⟩ := lay_of c1 c2
      rw [el] at c3
      obtain ⟨acc, s1, s2, s3⟩ := lcD_step hD q3 I (f8.trans (Fr.same s8)) (p8.keep (F := []) (Fr.same s8) (by simp)) hl c3 (by omega)
      exact ⟨D, acc, _, rfl, rfl, s1, s2, _, rfl, s3⟩
  · rintro σ H6 ⟨v5, rfl, I⟩
    have fB : Fr [pa] H H6 := fA.trans I.1
    refine ⟨_, rfl, _, rfl, _, rfl, _, rfl, _, _, _, _, rfl, pa, p, L, wn, rfl, rfl, rfl, rfl, by omega, by omega, by omega, I.2.1, fun H7 ve em f7 p7 c1 c2 c3 => ?_⟩
    refine ⟨_, rfl, _, rfl, _, rfl, _, _, _, _, rfl, pa, p, 1, wn, rfl, rfl, rfl, rfl, by omega, by omega, by omega, p7, fun H8 vh sh f8 p8 d1 d2 d3 => ?_⟩
    obtain ⟨c, xs, rfl, hc, hxs⟩ := d3.matI
    match sh, d1 with
    | [sv], _ =>
    cases hxs with
    | cons hx0 hnil =>
    cases hnil
    refine ⟨c, _, _, _, rfl, rfl, SqT.of hc, rfl, ?_⟩
    refine ⟨_, rfl, _, rfl, _, rfl, _, rfl, _, _, _, _, rfl, pa, p, L, wn, rfl, rfl, rfl, rfl, by omega, by omega, by omega, p8, fun H9 vo om f9 p9 u1 u2 u3 => ?_⟩
    refine ⟨_, rfl, _, rfl, _, _, rfl, pa, (L : Int), rfl, rfl, by omega, p9, fun H10 fe fe0 fe1 f10 p10 => ?_⟩
    refine ⟨by show (3 : Nat) ≤ sizeLine; decide, fun o5 ho5 => ?_⟩
    obtain ⟨pp5, k5⟩ := mkL (ys := [V.non, V.non, V.int fe]) ho5 p10
    refine ⟨_, rfl, _, _, rfl, pa, 3, rfl, rfl, by decide, pp5, fun H11 r5 a5 b5 f11 p11 => ?_⟩
    obtain ⟨f11', g5⟩ := k5 H11 f11
    obtain ⟨v5', m5, e5⟩ := pick (ys := [V.non, V.non, V.int fe]) a5 b5
    refine ⟨o5, _, _, _, rfl, rfl, SqL.of g5, e5, ?_⟩
    obtain ⟨fo, hfo⟩ : ∃ fo : Option Int, ∀ G : Hp, At G v5' (dOpt fo) := by
      simp only [List.mem_cons, List.not_mem_nil, or_false] at m5
      rcases m5 with rfl | rfl | rfl
      · exact ⟨none, fun _ => .non⟩
      · exact ⟨none, fun _ => .non⟩
      · exact ⟨some fe, fun _ => .int _⟩
    obtain ⟨_, _, lays, ys, l1, l2, hDl, l4⟩ := id I
    have gD : Fr [pa] H6 H11 := (((f7.trans f8).trans f9).trans f10).trans f11'
    have hDl' := gD.k _ _ (by simp; exact neD) hDl
    refine ⟨_, rfl, _, rfl, _, rfl, _, rfl, D, ys, rfl, .inl ⟨SqL.of hDl', fun l0 hl0 => ?_⟩⟩
    generalize hG : L2.upd H11 l0 (HO.tup ys) = H12
    obtain ⟨s12, e12⟩ := gen_new hl0 hG
    refine ⟨_, rfl, _, rfl, by show (6 : Nat) ≤ sizeLine; decide, fun l1' hl1' => ?_⟩
    generalize hG : L2.upd H12 l1' _ = H13
    obtain ⟨s13, e13⟩ := gen_new hl1' hG
    have f8t : Tups H8 H13 := ((((f9.trans f10).trans f11').trans (Fr.same s12)).trans (Fr.same s13)).t
    refine q H13 _ ⟨p, em, sv, lays, om, fo⟩ L wn (((fB.trans gD).trans (Fr.same s12)).trans (Fr.same s13)) ((p11.keep (F := []) (Fr.same s12) (by simp)).keep (F := []) (Fr.same s13) (by simp)) ⟨hp2, hp97, hL1, hL12, hw1, hw4, ⟨c1, c2⟩, ?_, l2, by show lays.length ≤ 3; omega, ⟨u1, u2⟩⟩ hpv (at_tup e13 (.cons (.int _) (.cons (c3.up (f8.t.trans f8t)) (.cons (hx0.up f8t) (.cons ((at_tup e12 ((l4.up gD.t).up s12.tups)).up s13.tups) (.cons (u3.up (((f10.trans f11').trans (Fr.same s12)).trans (Fr.same s13)).t) (.cons (hfo _) .nil)))))))
    exact d2 sv (by simp)
end
end Sv
end
section
set_option Elab.async false
set_option linter.all false
set_option maxRecDepth 100000
set_option maxHeartbeats 4000000
/-! The law's own row. -/
namespace Sv
open PySem PySem.Spec PyProof.Rows L2 HotX
def LstI (H : Hp) (v : V) (xs : List Int) : Prop := ∃ c, v = .ref c ∧ H c = some (.lst (xs.map V.int))
def p_law_times (K : PySem.W.Frag) : P3 := fun a b c H Q => ∃ (m : List (List Int)) (q : Addr) (xs : List Int) (p : Int), At H a (dMat m) ∧ b = .ref q ∧ H q = some (.lst (xs.map V.int)) ∧ c = .int p ∧ 0 < p ∧ (∀ r ∈ m, r.length = xs.length ∧ SmallI r) ∧ m.length ≤ 1000 ∧ xs.length ≤ 1000 ∧
  ∀ H' c, Same H H' → H c = none → H' c = some (.lst ((timesM p m xs).map V.int)) → Q (.ref c) H'
section
variable {P : Program} {w : World} {K : PySem.W.Frag} {mg : Str → Option Value} {base : Heap}
abbrev N_law_times : List Str := ["_law_matrix", "_law_x", "_law_prime", "_law_row_here", "_law_k"]
theorem sc_law_times : FnScope N_law_times ["_law_matrix", "_law_x", "_law_prime"] (defScope s_law_times) := ⟨rfl, rfl, rfl, by decide +kernel, rfl, by decide +kernel, by decide +kernel⟩
theorem ok_law_times (T : Txt K mg) : GFn P w K mg base 1 "_law_times" ["_law_matrix", "_law_x", "_law_prime"] (Sp3 (p_law_times K)) := by
  refine gfn T.d_law_times T.g_law_times sc_law_times (fun _ _ _ _ _ _ us hl => match us, hl with | [_, _, _], _ => rfl) len3 fun cdv A outer s H vs Q E hr h => ?_
  obtain ⟨a0, a1, a2, rfl, h⟩ := h
  refine ⟨_, pss_one (ps_ret (pe_lc (own := [("_law_row_here", 3)]) rfl sc_law_times.nd (pi_tup (pv 0)) (blkOk_by (N := N_law_times) (sc := defScope s_law_times) (by decide +kernel)) (fun _ _ _ _ _ => pg_name (i := 3) sc_law_times.nd rfl (Or.inr rfl) (hf := Or.inl rfl)) (fun _ _ _ _ _ => pts_nil) (fun _ _ _ _ _ => pe_op op_mod (pe_callTy call_int1 (by rfl) T.b_int (by decide +kernel) (pa_cons (pe_callB (cr_sumK (K0 := K) rfl) (by rfl) T.b_sum (by decide +kernel) (pa_cons (pe_lc (own := [("_law_k", 4)]) rfl sc_law_times.nd (pi_range1 (by rfl) T.b_range (pa_cons (pe_callB (call_len_seqK (K0 := K)) (by rfl) T.b_len PySem.boot_len (pa_cons (pv 1) pa_nil)) pa_nil)) (blkOk_by (N := N_law_times) (sc := _) (by rfl)) (fun _ _ _ _ _ => pg_name (i := 4) sc_law_times.nd rfl (Or.inl rfl) (hf := Or.inr rfl)) (fun _ _ _ _ _ => pts_nil) (fun _ _ _ _ _ => pe_op op_mul (pe_ix (ix_tupK (K0 := K)) (pv 3) (pv 4) (fun _ _ => rfl)) (pe_ix (ix_listK (K0 := K)) (pv 1) (pv 4) (fun _ _ => rfl)))) pa_nil)) pa_nil)) (pv 2)))), ?_⟩
  obtain ⟨m, qa, xs, p, hm, rfl, hq, rfl, hp, hrow, hml, hxl, q⟩ := h
  obtain ⟨c, zs, rfl, hc, r⟩ := hm.matI
  refine ⟨_, rfl, c, rfl, ⟨_, SqT.of hc⟩, fun D hD => lcd_tup (K := K) (ds1 := (timesM p m xs).map .int) hD hc r (by rw [List.length_map, List.length_map, timesM_len]) (by rw [List.length_map, timesM_len]; exact hml) (fun i x d H1 hd hx s1 kp => ?_) fun H1 ys h1 h2 s1 => q _ D s1 hD (by rw [h1, h2.intsI])⟩
  obtain ⟨rw', er, rfl⟩ := map_get hd
  obtain ⟨e, rfl, he⟩ := hx.vecI
  obtain ⟨hrl, hrs⟩ := hrow rw' (List.mem_of_getElem? er)
  refine ⟨rfl, _, rfl, qa, _, rfl, .inl (SqL.of (s1 _ _ hq)), ?_⟩
  refine ⟨((xs.length : Nat) : Int), by rw [List.length_map], by omega, by omega, fun D2 hD2 => lcd_range (n := xs.length) (ds1 := (List.zipWith (· * ·) rw' xs).map .int) hD2 (by rw [List.length_map, List.length_zipWith, hrl]; exact Nat.min_self _) (by rw [List.length_map, List.length_zipWith]; omega) (fun k H2 hk s2 kp2 => ?_) fun H2 ys h1 h2 s2 => ?_⟩
  · have hk1 : k < rw'.length := by omega
    have e1 : atI (rw'.map V.int) ((0 : Int) + (k : Nat)) = some (V.int rw'[k]) := by rw [Int.zero_add]; exact atI_nat (getMap (List.getElem?_eq_getElem hk1))
    have e2 : atI (xs.map V.int) ((0 : Int) + (k : Nat)) = some (V.int xs[k]) := by rw [Int.zero_add]; exact atI_nat (getMap (List.getElem?_eq_getElem hk))
    refine ⟨rfl, _, rfl, _, rfl, e, _, _, _, rfl, rfl, SqT.of (s2 _ _ he), e1, _, rfl, _, rfl, qa, _, _, _, rfl, rfl, SqL.of (s2 _ _ (s1 _ _ hq)), e2, _, _, rfl, rfl, .inl (hrs _ (List.getElem_mem hk1)), kp2 _ _ _ ?_ (Same.refl _) (.int _)⟩
    rw [List.getElem?_map, List.getElem?_zipWith, List.getElem?_eq_getElem hk1, List.getElem?_eq_getElem hk]
    rfl
  · refine ⟨D2, List.zipWith (· * ·) rw' xs, rfl, SqL.of (by rw [h1, h2.intsI]), .inl ⟨_, rfl, _, rfl, _, _, rfl, rfl, hp, kp _ _ _ ?_ s2 (.int _)⟩⟩
    unfold timesM
    rw [List.getElem?_map, List.getElem?_map, er]
    rfl
end
end Sv
end
section
set_option autoImplicit false
set_option linter.all false
set_option maxRecDepth 100000
set_option maxHeartbeats 1000000
/-! The law's own row is the program's: added one after the other, or looked up and then added. -/
namespace Sv
def addM (p : Int) (q : List Int) (f : List Int) (kv : PairM) : List Int := plusM p f (kv.2.map (psum q kv.1 * ·))
theorem plusM_assoc {p : Int} : ∀ (x f g : List Int), plusM p (plusM p x f) g = plusM p x (plusM p f g)
  | [], _, _ => by simp [plusM]
  | _ :: _, [], _ => by simp [plusM]
  | _ :: _, _ :: _, [] => by simp [plusM]
  | a :: x, b :: f, c :: g => by
    have ih := plusM_assoc (p := p) x f g
    unfold plusM at ih ⊢
    simp only [List.zipWith_cons_cons, ih]
    congr 1
    rw [Int.emod_add_emod, Int.add_emod_emod, Int.add_assoc]
theorem add_fold {p : Int} (q : List Int) : ∀ (ps : List PairM) (x f : List Int), ps.foldl (addM p q) (plusM p x f) = plusM p x (ps.foldl (addM p q) f)
  | [], _, _ => rfl
  | kv :: ps, x, f => by
    show ps.foldl (addM p q) (plusM p (plusM p x f) _) = _
    rw [plusM_assoc]
    exact add_fold q ps x _
theorem plusM_zero {p : Int} {w : Nat} {x : List Int} (h : VecOk p w x) {q : List Int} (hq : q.length = w) : plusM p x (q.map fun _ => 0) = x := by
  apply List.ext_getElem?
  intro i
  unfold plusM
  rw [List.getElem?_zipWith, List.getElem?_map]
  have hl := h.1
  by_cases hi : i < x.length
  · rw [List.getElem?_eq_getElem hi, List.getElem?_eq_getElem (show i < q.length by omega)]
    have := h.2 _ (List.getElem_mem hi)
    show some ((x[i] + 0) % p) = _
    rw [Int.add_zero, Int.emod_eq_of_lt this.1 this.2]
  · rw [List.getElem?_eq_none (by omega), List.getElem?_eq_none (by omega)]
/-- one after the other -/
theorem looked_fold {p : Int} {w : Nat} {x q : List Int} (h : VecOk p w x) (hq : q.length = w) (ps : List PairM) : ps.foldl (addM p q) x = plusM p x (lookedM p q ps) := by
  have := add_fold (p := p) q ps x (q.map fun _ => 0)
  rw [plusM_zero h hq] at this
  exact this
end Sv
end
section
set_option Elab.async false
set_option linter.all false
set_option maxRecDepth 100000
set_option maxHeartbeats 4000000
/-! The law's own row. -/
namespace Sv
open PySem PySem.Spec PyProof.Rows L2 HotX
def p_law_row (K : PySem.W.Frag) : P3 := fun a b c H Q => ∃ (M : NetM) (L w : Nat) (rl : Addr) (rvs : List V) (ns : List Int) (l : Int), At H a (NetD M) ∧ NetOk M L w ∧ b = .ref rl ∧ H rl = some (.lst rvs) ∧ AtAll H rvs ((rowsM M ns).map dRow) ∧ c = .int l ∧ 0 ≤ l ∧ l < L ∧ (∀ x ∈ ns, Below L x) ∧ ns.length ≤ 100 ∧
  ∀ H' v, Same H H' → At H' v (dRow (rowM M (rowsM M ns) l)) → Q v H'
theorem rgOk_nat {n : Nat} (h : n ≤ 1000) : RgOk 0 (n : Int) := by
  exact RgOk.of_le (Int.le_refl _) (by omega) (by omega) (by omega)
theorem places_at {H : Hp} (n : Nat) : AtAll H ((List.range n).map vN) ((List.range n).map fun k => PyData.int (k : Nat)) := by
  have := atAll_ints (H := H) ((List.range n).map fun k : Nat => (k : Int))
  rw [List.map_map, List.map_map] at this
  exact this
section
variable {P : Program} {w : World} {K : PySem.W.Frag} {mg : Str → Option Value} {base : Heap}
abbrev N_law_row : List Str := ["_law_net_here", "_law_rows", "_law_letter", "_law_prime", "_law_places", "_law_x", "_law_pairs", "_law_j", "_law_layer", "_law_asked", "_law_pair", "_law_squares", "_law_more", "_law_k", "_law_near", "_law_y", "_law_row_here", "_law_weight"]
theorem sc_law_row : FnScope N_law_row ["_law_net_here", "_law_rows", "_law_letter"] (defScope s_law_row) := ⟨rfl, rfl, rfl, by decide +kernel, rfl, by decide +kernel, by decide +kernel⟩
theorem ok_law_row (T : Txt K mg) : GFn P w K mg base 2 "_law_row" ["_law_net_here", "_law_rows", "_law_letter"] (Sp3 (p_law_row K)) := by
  refine gfn T.d_law_row T.g_law_row sc_law_row (fun _ _ _ _ _ _ us hl => match us, hl with | [_, _, _], _ => rfl) len3 fun cdv A outer s H vs Q E hr h => ?_
  obtain ⟨a0, a1, a2, rfl, h⟩ := h
  refine ⟨_, pss_cons (ps_set (i := 3) sc_law_row.nd rfl (Or.inr rfl) (pe_ix ix_tup (pv 0) (pe_int) (fun _ _ => rfl)))
      (pss_cons (ps_set (i := 4) sc_law_row.nd rfl (Or.inl rfl) (pe_listRg rfl (by rfl) T.b_list (prg_1 (by rfl) T.b_range (pe_callB call_len_seq (by rfl) T.b_len PySem.boot_len (pa_cons (pe_ix ix_tup (pv 0) (pe_int) (fun _ _ => rfl)) pa_nil)))))
      (pss_cons (ps_set (i := 5) sc_law_row.nd rfl (Or.inr rfl) (pe_lc (own := [("_law_k", 13)]) rfl sc_law_row.nd (pi_list (pv 4)) (blkOk_by (N := N_law_row) (sc := defScope s_law_row) (by decide +kernel)) (fun _ _ _ _ _ => pg_name (i := 13) sc_law_row.nd rfl (Or.inl rfl) (hf := Or.inr rfl)) (fun _ _ _ _ _ => pts_nil) (fun _ _ _ _ _ => pe_op op_mod (pe_callTy call_int1 (by rfl) T.b_int (by decide +kernel) (pa_cons (pe_op op_add (pe_ix (ix_tupK (K0 := K)) (pe_ix (ix_tupK (K0 := K)) (pe_ix (ix_tupK (K0 := K)) (pv 0) (pe_int) (fun _ _ => rfl)) (pv 2) (fun _ _ => rfl)) (pv 13) (fun _ _ => rfl)) (pe_op op_mul (pe_callB (call_len_seqK (K0 := K)) (by rfl) T.b_len PySem.boot_len (pa_cons (pv 1) pa_nil)) (pe_ix (ix_tupK (K0 := K)) (pe_ix (ix_tupK (K0 := K)) (pv 0) (pe_int) (fun _ _ => rfl)) (pv 13) (fun _ _ => rfl)))) pa_nil)) (pv 3))))
      (pss_cons (ps_set (i := 6) sc_law_row.nd rfl (Or.inl rfl) (pe_lst pa_nil))
      (pss_cons (ps_for PassesOwn.never rfl (pi_range1 (by rfl) T.b_range (pa_cons (pe_callB call_len_seq (by rfl) T.b_len PySem.boot_len (pa_cons (pe_ix ix_tup (pv 0) (pe_int) (fun _ _ => rfl)) pa_nil)) pa_nil)) (pg_name (i := 7) sc_law_row.nd rfl (Or.inr rfl))
      (pss_cons (ps_set (i := 8) sc_law_row.nd rfl (Or.inl rfl) (pe_ix ix_tup (pe_ix ix_tup (pv 0) (pe_int) (fun _ _ => rfl)) (pv 7) (fun _ _ => rfl)))
      (pss_cons (ps_set (i := 9) sc_law_row.nd rfl (Or.inr rfl) (pe_g (ok_law_times T) (hr.mono (by decide)) (pa_cons (pe_ix ix_tup (pv 8) (pe_int) (fun _ _ => rfl)) (pa_cons (pv 5) (pa_cons (pv 3) pa_nil)))))
      (pss_cons (ps_expr (pe_bm PySem.F.plainAttrs_list PySem.F.slot_list_append PySem.F.type_list_append mt_append (pv 6) (pa_cons (pe_tup (pa_cons (pe_callTy call_tuple_of (by rfl) T.b_tuple (by decide +kernel) (pa_cons (pe_g (ok_law_times T) (hr.mono (by decide)) (pa_cons (pe_ix ix_tup (pv 8) (pe_int) (fun _ _ => rfl)) (pa_cons (pv 5) (pa_cons (pv 3) pa_nil)))) pa_nil)) (pa_cons (pe_callTy call_tuple_of (by rfl) T.b_tuple (by decide +kernel) (pa_cons (pe_g (ok_law_times T) (hr.mono (by decide)) (pa_cons (pe_ix ix_tup (pv 8) (pe_int) (fun _ _ => rfl)) (pa_cons (pv 5) (pa_cons (pv 3) pa_nil)))) pa_nil)) pa_nil))) pa_nil)))
      (pss_cons (ps_for PassesOwn.never rfl (pi_list (pe_op op_cat (pe_lc (own := [("_law_row_here", 16)]) rfl sc_law_row.nd (pi_list (pv 1)) (blkOk_by (N := N_law_row) (sc := defScope s_law_row) (by decide +kernel)) (fun _ _ _ _ _ => pg_name (i := 16) sc_law_row.nd rfl (Or.inl rfl) (hf := Or.inr rfl)) (fun _ _ _ _ _ => pts_nil) (fun _ _ _ _ _ => pe_ix (ix_tupK (K0 := K)) (pe_ix (ix_tupK (K0 := K)) (pv 16) (pe_int) (fun _ _ => rfl)) (pv 7) (fun _ _ => rfl))) (pe_lst (pa_cons (pe_ix ix_list (pv 6) (pe_un un_neg (pe_int)) (fun _ _ => rfl)) pa_nil)))) (pg_name (i := 10) sc_law_row.nd rfl (Or.inr rfl))
      (pss_cons (ps_set (i := 14) sc_law_row.nd rfl (Or.inr rfl) (pe_callB (cr_sum rfl) (by rfl) T.b_sum (by decide +kernel) (pa_cons (pe_lc (own := [("_law_k", 13)]) rfl sc_law_row.nd (pi_list (pv 4)) (blkOk_by (N := N_law_row) (sc := defScope s_law_row) (by decide +kernel)) (fun _ _ _ _ _ => pg_name (i := 13) sc_law_row.nd rfl (Or.inl rfl) (hf := Or.inr rfl)) (fun _ _ _ _ _ => pts_nil) (fun _ _ _ _ _ => pe_op op_mul (pe_ix (ix_listK (K0 := K)) (pv 9) (pv 13) (fun _ _ => rfl)) (pe_ix (ix_tupK (K0 := K)) (pe_ix (ix_tupK (K0 := K)) (pv 10) (pe_int) (fun _ _ => rfl)) (pv 13) (fun _ _ => rfl)))) pa_nil)))
      (pss_one (ps_set (i := 5) sc_law_row.nd rfl (Or.inr rfl) (pe_lc (own := [("_law_k", 13)]) rfl sc_law_row.nd (pi_list (pv 4)) (blkOk_by (N := N_law_row) (sc := defScope s_law_row) (by decide +kernel)) (fun _ _ _ _ _ => pg_name (i := 13) sc_law_row.nd rfl (Or.inl rfl) (hf := Or.inr rfl)) (fun _ _ _ _ _ => pts_nil) (fun _ _ _ _ _ => pe_op op_mod (pe_callTy call_int1 (by rfl) T.b_int (by decide +kernel) (pa_cons (pe_op op_add (pe_ix (ix_listK (K0 := K)) (pv 5) (pv 13) (fun _ _ => rfl)) (pe_op op_mul (pv 14) (pe_ix (ix_tupK (K0 := K)) (pe_ix (ix_tupK (K0 := K)) (pv 10) (pe_int) (fun _ _ => rfl)) (pv 13) (fun _ _ => rfl)))) pa_nil)) (pv 3)))))))
      (pss_cons (ps_setLc (i := 11) (own := [("_law_y", 15)]) rfl sc_law_row.nd rfl rfl (sw_true rfl rfl rfl (by decide +kernel)) (pi_list (pe_g (ok_law_times T) (hr.mono (by decide)) (pa_cons (pe_ix ix_tup (pv 8) (pe_int) (fun _ _ => rfl)) (pa_cons (pv 5) (pa_cons (pv 3) pa_nil))))) (blkOk_by (N := N_law_row) (sc := defScope s_law_row) (by decide +kernel)) (fun _ _ _ _ _ => pg_name (i := 15) sc_law_row.nd rfl (Or.inl rfl) (hf := Or.inr rfl)) (fun _ _ _ _ _ => pts_nil) (fun _ _ _ _ _ => pe_op op_mul (pv 15) (pv 15)))
      (pss_cons (ps_set (i := 12) sc_law_row.nd rfl (Or.inr rfl) (pe_g (ok_law_times T) (hr.mono (by decide)) (pa_cons (pe_ix ix_tup (pv 8) (pe_int) (fun _ _ => rfl)) (pa_cons (pv 11) (pa_cons (pv 3) pa_nil)))))
      (pss_one (ps_set (i := 5) sc_law_row.nd rfl (Or.inr rfl) (pe_lc (own := [("_law_k", 13)]) rfl sc_law_row.nd (pi_list (pv 4)) (blkOk_by (N := N_law_row) (sc := defScope s_law_row) (by decide +kernel)) (fun _ _ _ _ _ => pg_name (i := 13) sc_law_row.nd rfl (Or.inl rfl) (hf := Or.inr rfl)) (fun _ _ _ _ _ => pts_nil) (fun _ _ _ _ _ => pe_op op_mod (pe_callTy call_int1 (by rfl) T.b_int (by decide +kernel) (pa_cons (pe_op op_add (pe_ix (ix_listK (K0 := K)) (pv 5) (pv 13) (fun _ _ => rfl)) (pe_ix (ix_listK (K0 := K)) (pv 12) (pv 13) (fun _ _ => rfl))) pa_nil)) (pv 3))))))))))))
      (pss_one (ps_ret (pe_tup (pa_cons (pe_callTy call_tuple_of (by rfl) T.b_tuple (by decide +kernel) (pa_cons (pv 6) pa_nil)) (pa_cons (pe_callTy call_tuple_of (by rfl) T.b_tuple (by decide +kernel) (pa_cons (pe_lc (own := [("_law_weight", 17)]) rfl sc_law_row.nd (pi_list (pe_g (ok_law_times T) (hr.mono (by decide)) (pa_cons (pe_ix ix_tup (pv 0) (pe_int) (fun _ _ => rfl)) (pa_cons (pv 5) (pa_cons (pv 3) pa_nil))))) (blkOk_by (N := N_law_row) (sc := defScope s_law_row) (by decide +kernel)) (fun _ _ _ _ _ => pg_name (i := 17) sc_law_row.nd rfl (Or.inl rfl) (hf := Or.inr rfl)) (fun _ _ _ _ _ => pts_nil) (fun _ _ _ _ _ => pe_op op_add (pv 17) (pe_int))) pa_nil)) pa_nil))))))))), ?_⟩
  obtain ⟨M, L, w', rl, rvs, ns, l, hnet, ok, rfl, hrl, hrows, rfl, l0, lL, hns, hnl, q⟩ := h
  obtain ⟨en, ve, vs, vl, vo, vf, rfl, he, me, ms, ml, mo, mf⟩ := netD hnet
  obtain ⟨ce, xe, rfl, hce, re⟩ := me.matI
  obtain ⟨cs, rfl, hcs⟩ := ms.vecI
  obtain ⟨cl, xl, rfl, hcl, rl'⟩ := ml.tupI
  refine ⟨_, rfl, en, _, _, _, rfl, rfl, SqT.of he, rfl, ?_⟩
  refine ⟨_, rfl, en, _, _, _, rfl, rfl, SqT.of he, rfl, cs, _, rfl, .inr (SqT.of hcs), ?_⟩
  have hsl : M.shift.length = w' := ok.shift.1
  have hw4 := ok.w1
  refine ⟨_, rfl, by rw [List.length_map, hsl]; exact rgOk_nat (by omega), fun op hop => ?_⟩
  generalize hG : L2.upd H op _ = H1
  obtain ⟨s1, e1⟩ := gen_new hop hG
  rw [rgV_nat, List.length_map, hsl] at e1
  obtain ⟨cv, xv, hcv, hxv, hvl⟩ : ∃ (cv : Addr) (v : List Int), xe[l.toNat]? = some (.ref cv) ∧ H cv = some (.tup (v.map V.int)) ∧ M.embed[l.toNat]? = some v := by
    have h1 : l.toNat < M.embed.length := by rw [ok.embed.1]; omega
    obtain ⟨v, hv, hv'⟩ := re.getD (i := l.toNat) (d := dVec M.embed[l.toNat]) (by rw [List.getElem?_map, List.getElem?_eq_getElem h1]; rfl)
    obtain ⟨a, rfl, ha⟩ := hv'.vecI
    exact ⟨a, _, hv, ha, List.getElem?_eq_getElem h1⟩
  have hxl : xv.length = w' := (ok.embed.2 xv (List.mem_of_getElem? hvl)).1
  have hrn : rvs.length = ns.length := by rw [hrows.len, List.length_map, rowsM_len]
  have hx0l : (x0M M rvs.length l).length = w' := by
    unfold x0M
    rw [plusM_len, List.length_map, hsl, List.getD_eq_getElem?_getD, hvl]
    show min xv.length w' = w'
    omega
  refine ⟨_, rfl, op, rfl, ⟨_, SqL.of e1⟩, fun D hD => lcd_list (K := K) (ds1 := (x0M M rvs.length l).map .int) hD e1 (places_at w') (by rw [List.length_map, List.length_map, hx0l, List.length_range]) (by rw [List.length_map, hx0l]; omega) (fun k x d H2 hd hx s2 kp => ?_) fun H2 ys h1 h2 s2 => ?_⟩
  · obtain ⟨k', hk', rfl⟩ := map_get hd
    obtain rfl := hx.intI
    have hkw : k < w' := by have := (List.getElem?_eq_some_iff.mp hk').1; rw [List.length_range] at this; exact this
    obtain rfl : k' = k := by rw [List.getElem?_range hkw] at hk'; exact (Option.some.inj hk').symm
    have s12 := s1.trans s2
    have e2 : atI xe l = some (.ref cv) := by
      have := atI_nat hcv
      rw [Int.toNat_of_nonneg l0] at this
      exact this
    have e3 : atI (xv.map V.int) (k' : Nat) = some (V.int xv[k']) := atI_nat (getMap (List.getElem?_eq_getElem (by omega)))
    have e4 : atI (M.shift.map V.int) (k' : Nat) = some (V.int M.shift[k']) := atI_nat (getMap (List.getElem?_eq_getElem (by omega)))
    refine ⟨rfl, _, rfl, en, _, _, _, rfl, rfl, SqT.of (s12 _ _ he), rfl, _, rfl, ce, _, _, _, rfl, rfl, SqT.of (s12 _ _ hce), e2, _, rfl, cv, _, _, _, rfl, rfl, SqT.of (s12 _ _ hxv), e3, _, rfl, rl, _, rfl, .inl (SqL.of (s12 _ _ hrl)), _, rfl, en, _, _, _, rfl, rfl, SqT.of (s12 _ _ he), rfl, _, rfl, cs, _, _, _, rfl, rfl, SqT.of (s12 _ _ hcs), e4, _, _, rfl, rfl, .inl ⟨by omega, by omega⟩, _, _, rfl, rfl, .inl ⟨_, rfl, _, rfl, _, _, rfl, rfl, (by have := ok.p0; omega), kp _ _ _ ?_ (Same.refl _) (.int _)⟩⟩
    unfold x0M plusM
    rw [List.getElem?_map, List.getElem?_zipWith, List.getElem?_map, List.getD_eq_getElem?_getD, hvl, Option.getD_some, List.getElem?_eq_getElem (show k' < xv.length by omega), List.getElem?_eq_getElem (show k' < M.shift.length by omega)]
    rfl
  rw [h2.intsI] at h1
  have hp0 : 0 < M.prime := by have := ok.p0; omega
  have hp97 := ok.p1
  have rok : ∀ r ∈ rowsM M ns, RowOk M L w' r := rowsM_ok ok ns hns
  have hrl' : (rowsM M ns).length = rvs.length := by rw [hrows.len, List.length_map]
  have ok0 : VecOk M.prime w' (x0M M rvs.length l) := x0M_ok ok l0 lL _
  refine ⟨ll0, fun pl hpl => ?_⟩
  generalize hG : L2.upd H2 pl _ = H3
  obtain ⟨s3, e3⟩ := gen_new hpl hG
  have sA : Same H H3 := (s1.trans s2).trans s3
  have hxl3 := rl'.len
  rw [List.length_map] at hxl3
  have hfew := ok.few
  have npl : H pl = none := (s1.trans s2).free hpl
  have nDpl : D ≠ pl := fun z => by rw [← z, h1] at hpl; cases hpl
  have nop : op ≠ pl := fun z => by rw [← z, s2 _ _ e1] at hpl; cases hpl
  refine ⟨_, rfl, en, _, _, _, rfl, rfl, SqT.of (sA _ _ he), rfl, cl, _, rfl, .inr (SqT.of (sA _ _ hcl)), ((xl.length : Nat) : Int), rfl, by omega, by omega, for_range (lo := 0) (n := xl.length) (fun j σ H' => ∃ cx x own pvs v7 v8 v9 v10 v11 v12 v13 v14 v15 v16 v17, σ = [some (.ref en), some (.ref rl), some (.int l), some (.int M.prime), some (.ref op), some (.ref cx), some (.ref pl), v7, v8, v9, v10, v11, v12, v13, v14, v15, v16, v17] ∧
    Same H H' ∧ H' op = some (.lst ((List.range w').map vN)) ∧ H' cx = some (.lst (x.map V.int)) ∧ cx ≠ pl ∧ H' pl = some (.lst pvs) ∧ AtAll H' pvs (own.map dPair) ∧ VecOk M.prime w' x ∧ own.length = j ∧ (∀ pr ∈ own, VecOk M.prime w' pr.1 ∧ VecOk M.prime w' pr.2) ∧
    laysM M.prime (rowsM M ns) 0 M.layers (x0M M rvs.length l) [] = laysM M.prime (rowsM M ns) j (M.layers.drop j) x own)
    ⟨D, _, [], [], _, _, _, _, _, _, _, _, _, _, _, rfl, sA, s3 _ _ (s2 _ _ e1), s3 _ _ h1, nDpl, e3, .nil, ok0, rfl, by simp, rfl⟩ ?_ ?_⟩
  · rintro j σ H4 hj ⟨cx, x, own, pvs, v7, v8, v9, v10, v11, v12, v13, v14, v15, v16, v17, rfl, s4, hop4, hcx, ncx, hpl4, hpvs, okx, hol, hown, hst⟩
    have hjl : j < M.layers.length := by omega
    obtain ⟨vy, hvy, hay⟩ := rl'.getD (i := j) (d := dLay M.layers[j]) (by rw [List.getElem?_map, List.getElem?_eq_getElem hjl]; rfl)
    have okl := ok.layers _ (List.getElem_mem hjl)
    have hst' := laysM_step (p := M.prime) (rows := rowsM M ns) (List.getElem?_eq_getElem hjl) x own
    generalize M.layers[j] = lay at hay okl hst'
    obtain ⟨cy, ys', rfl, hcy, ay⟩ := At.tupI (show At H vy (.tuple [dMat lay.q, dMat lay.k, dMat lay.v, dMat lay.f, dMat lay.s]) from hay)
    cases ay with
    | cons aq ay =>
    cases ay with
    | cons ak ay =>
    cases ay with
    | cons av ay =>
    cases ay with
    | cons af ay =>
    cases ay with
    | cons as' ay =>
    cases ay
    have mOk : ∀ {m : List (List Int)} {y : List Int}, MatOk M.prime w' w' m → y.length = w' → (∀ r ∈ m, r.length = y.length ∧ SmallI r) ∧ m.length ≤ 1000 ∧ y.length ≤ 1000 := fun {m y} h hy => ⟨fun r hr => ⟨by rw [(h.2 r hr).1, hy], (h.2 r hr).small hp97⟩, by rw [h.1]; omega, by omega⟩
    have ej : atI xl ((0 : Int) + (j : Nat)) = some (.ref cy) := by rw [Int.zero_add]; exact atI_nat hvy
    refine ⟨_, rfl, en, _, _, _, rfl, rfl, SqT.of (s4 _ _ he), rfl, _, rfl, cl, _, _, _, rfl, rfl, SqT.of (s4 _ _ hcl), ej, ?_⟩
    obtain ⟨z1, z2, z3⟩ := mOk okl.q okx.1
    refine ⟨_, rfl, cy, _, _, _, rfl, rfl, SqT.of (s4 _ _ hcy), rfl, _, rfl, _, rfl, _, _, _, rfl, lay.q, cx, x, M.prime, aq.up s4.tups, rfl, hcx, rfl, hp0, z1, z2, z3, fun H5 ca s5 nca hca => ?_⟩
    have s45 := s4.trans s5
    refine ⟨_, rfl, ty_l (s5 _ _ hpl4), ?_⟩
    obtain ⟨z1, z2, z3⟩ := mOk okl.k okx.1
    refine ⟨_, rfl, cy, _, _, _, rfl, rfl, SqT.of (s45 _ _ hcy), rfl, _, rfl, _, rfl, _, _, _, rfl, lay.k, cx, x, M.prime, ak.up s45.tups, rfl, s5 _ _ hcx, rfl, hp0, z1, z2, z3, fun H6 ck s6 _ hck => ⟨ck, _, rfl, .inl ⟨SqL.of hck, fun tk htk => ?_⟩⟩⟩
    generalize hG : L2.upd H6 tk _ = H7
    obtain ⟨s7, e7⟩ := gen_new htk hG
    have s47 := (s45.trans s6).trans s7
    obtain ⟨z1, z2, z3⟩ := mOk okl.v okx.1
    refine ⟨_, rfl, cy, _, _, _, rfl, rfl, SqT.of (s47 _ _ hcy), rfl, _, rfl, _, rfl, _, _, _, rfl, lay.v, cx, x, M.prime, av.up s47.tups, rfl, s7 _ _ (s6 _ _ (s5 _ _ hcx)), rfl, hp0, z1, z2, z3, fun H8 cv2 s8 _ hcv2 => ⟨cv2, _, rfl, .inl ⟨SqL.of hcv2, fun tv htv => ?_⟩⟩⟩
    generalize hG : L2.upd H8 tv _ = H9
    obtain ⟨s9, e9⟩ := gen_new htv hG
    refine ⟨ll2, fun tp htp => ?_⟩
    generalize hG : L2.upd H9 tp _ = H10
    obtain ⟨s10, e10⟩ := gen_new htp hG
    have s410 : Same H4 H10 := ((((s5.trans s6).trans s7).trans s8).trans s9).trans s10
    refine ⟨pl, pvs, _, rfl, rfl, s410 _ _ hpl4, small1000 (by rw [hpvs.len, List.length_map]; omega), ?_⟩
    have s410' : Same H H10 := s4.trans s410
    have hpl10 := s410 _ _ hpl4
    have hpr : At H10 (.ref tp) (dPair (layM M.prime lay (oldM (rowsM M ns) j) x).2) := at_tup e10 (.cons (at_vec (s10 _ _ (s9 _ _ (s8 _ _ e7)))) (.cons (at_vec (s10 _ _ e9)) .nil))
    generalize hG : L2.upd H10 pl _ = H11
    obtain ⟨f11, e11⟩ := gen_lst [pl] hpl10 hG (.head _)
    have s11 : Same H H11 := by rw [← hG]; exact same_at s410' npl
    have hca11 : H11 ca = some (.lst ((timesM M.prime lay.q x).map V.int)) := f11.k _ _ (by simp; exact fun z => by rw [z, hpl4] at nca; cases nca) (s10 _ _ (s9 _ _ (s8 _ _ (s7 _ _ (s6 _ _ hca)))))
    have hop11 := f11.k _ _ (by simp; exact nop) (s410 _ _ hop4)
    have hcx11 := f11.k _ _ (by simp; exact ncx) (s410 _ _ hcx)
    have hpr11 := hpr.up f11.t
    refine ⟨_, rfl, rl, rfl, ⟨_, SqL.of (s11 _ _ hrl)⟩, fun D2 hD2 => lcd_list (K := K) (ds1 := (oldM (rowsM M ns) j).map dPair) hD2 (s11 _ _ hrl) (hrows.up s11.tups) (by unfold oldM; rw [List.length_map, List.length_map, List.length_map]) (by unfold oldM; rw [List.length_map, List.length_map, rowsM_len]; omega) (fun k x2 d H12 hd hx s12 kp => ?_) fun H12 ys2 g1 g2 s12 => ?_⟩
    · obtain ⟨r, er, rfl⟩ := map_get hd
      obtain ⟨cr, yr, rfl, hcr, ar⟩ := At.tupI (show At H12 x2 (.tuple [.tuple (r.1.map dPair), dVec r.2]) from hx)
      cases ar with
      | cons ar1 ar2 =>
      cases ar2 with
      | cons ar3 ar4 =>
      cases ar4
      obtain ⟨cr1, yr1, rfl, hcr1, ar1'⟩ := ar1.tupI
      have hjr : j < r.1.length := by rw [(rok r (List.mem_of_getElem? er)).n]; exact hjl
      obtain ⟨vp, hvp, hap⟩ := ar1'.getD (i := j) (d := dPair r.1[j]) (by rw [List.getElem?_map, List.getElem?_eq_getElem hjr]; rfl)
      refine ⟨rfl, _, rfl, cr, _, _, _, rfl, rfl, SqT.of hcr, rfl, _, rfl, cr1, _, _, _, rfl, rfl, SqT.of hcr1, (by rw [Int.zero_add]; exact atI_nat hvp), kp _ _ _ ?_ (Same.refl _) hap⟩
      unfold oldM
      rw [List.getElem?_map, List.getElem?_map, er, Option.map_some, Option.map_some, List.getD_eq_getElem?_getD, List.getElem?_eq_getElem hjr]
      rfl

    refine ⟨_, rfl, _, rfl, pl, _, _, _, rfl, rfl, SqL.of (s12 _ _ e11), atI_last _ _, ll1, fun o1 ho1 => ?_⟩
    generalize hG : L2.upd H12 o1 _ = H13
    obtain ⟨s13, e13⟩ := gen_new ho1 hG
    refine ⟨D2, o1, _, _, rfl, rfl, s13 _ _ g1, e13, ?_, fun pp hpp => ?_⟩
    · rw [g2.len]
      unfold oldM
      rw [List.length_map, List.length_map, rowsM_len]
      show ns.length + 1 ≤ 16777216
      omega
    generalize hG : L2.upd H13 pp _ = H14
    obtain ⟨s14, e14⟩ := gen_new hpp hG
    have s1114 : Same H11 H14 := (s12.trans s13).trans s14
    have hps : AtAll H14 (ys2 ++ [V.ref tp]) ((oldM (rowsM M ns) j ++ [(layM M.prime lay (oldM (rowsM M ns) j) x).2]).map dPair) := by
      rw [List.map_append]
      exact (g2.up (s13.trans s14).tups).snoc (hpr11.up s1114.tups)
    have hpsok : ∀ pr ∈ oldM (rowsM M ns) j ++ [(layM M.prime lay (oldM (rowsM M ns) j) x).2], VecOk M.prime w' pr.1 ∧ VecOk M.prime w' pr.2 := fun pr hpr' => by
      rcases List.mem_append.mp hpr' with z | z
      · exact oldM_ok rok hjl pr z
      · obtain rfl := List.mem_singleton.mp z
        exact (layM_ok hp0 okl (fun r hr => (oldM_ok rok hjl r hr).2.1) okx).2
    generalize hpsE : oldM (rowsM M ns) j ++ [(layM M.prime lay (oldM (rowsM M ns) j) x).2] = ps at hps hpsok
    refine ⟨pp, rfl, ⟨_, SqL.of e14⟩, for_list (K := K) (a := pp) (xs := ys2 ++ [V.ref tp]) (fun i σ H' => ∃ cx2 v10 v14, σ = [some (.ref en), some (.ref rl), some (.int l), some (.int M.prime), some (.ref op), some (.ref cx2), some (.ref pl), some (.int (0 + (j : Nat))), some (.ref cy), some (.ref ca), v10, v11, v12, v13, v14, v15, v16, v17] ∧
      Same H14 H' ∧ H' cx2 = some (.lst (((ps.take i).foldl (addM M.prime (timesM M.prime lay.q x)) x).map V.int)) ∧ cx2 ≠ pl) ⟨cx, v10, v14, rfl, Same.refl _, s1114 _ _ hcx11, ncx⟩ (fun i σ H' _ ⟨_, _, _, _, s, _⟩ => SqL.of (s _ _ e14)) ?_ ?_⟩
    · rintro i y σ H15 hy ⟨cx2, v10, v14, rfl, s15, hcx2, ncx2⟩
      obtain ⟨d, hd, hay'⟩ := (hps.up s15.tups).get hy
      obtain ⟨pr, epr, rfl⟩ := map_get hd
      obtain ⟨k1, k2⟩ := hpsok pr (List.mem_of_getElem? epr)
      obtain ⟨cpr, ypr, rfl, hcpr, apr⟩ := At.tupI (show At H15 y (.tuple [dVec pr.1, dVec pr.2]) from hay')
      cases apr with
      | cons ap1 apr =>
      cases apr with
      | cons ap2 apr =>
      cases apr
      obtain ⟨c1, rfl, hc1⟩ := ap1.vecI
      obtain ⟨c2, rfl, hc2⟩ := ap2.vecI
      have fok : VecOk M.prime w' ((ps.take i).foldl (addM M.prime (timesM M.prime lay.q x)) x) := lookedM_ok hp0 _ _ _ (fun r hr => (hpsok r (List.mem_of_mem_take hr)).2.1) okx
      have hfs : (ps.take (i + 1)).foldl (addM M.prime (timesM M.prime lay.q x)) x = addM M.prime (timesM M.prime lay.q x) ((ps.take i).foldl (addM M.prime (timesM M.prime lay.q x)) x) pr := by
        rw [take_snoc epr, List.foldl_append]
        rfl
      generalize (ps.take i).foldl (addM M.prime (timesM M.prime lay.q x)) x = fv at hcx2 fok hfs
      have s1115 : Same H11 H15 := s1114.trans s15
      have qok := timesM_ok hp0 okl.q x
      have hop15 := s1115 _ _ hop11
      have hca15 := s1115 _ _ hca11
      generalize timesM M.prime lay.q x = qv at hca15 qok hfs
      refine ⟨_, rfl, op, rfl, ⟨_, SqL.of hop15⟩, fun D5 hD5 => lcd_list (K := K) (ds1 := (List.zipWith (· * ·) qv pr.1).map .int) hD5 hop15 (places_at w') (by rw [List.length_map, List.length_map, List.length_range, List.length_zipWith, qok.1, k1.1, Nat.min_self]) (by rw [List.length_map, List.length_zipWith, qok.1]; omega) (fun k x5 d H16 hd5 hx5 s16 kp => ?_) fun H16 ys5 h51 h52 s16 => ?_⟩
      · obtain ⟨k', hk', rfl⟩ := map_get hd5
        obtain rfl := hx5.intI
        have hkw : k < w' := by have := (List.getElem?_eq_some_iff.mp hk').1; rw [List.length_range] at this; exact this
        obtain rfl : k' = k := by rw [List.getElem?_range hkw] at hk'; exact (Option.some.inj hk').symm
        have hq' : k' < qv.length := by rw [qok.1]; exact hkw
        have hp' : k' < pr.1.length := by rw [k1.1]; exact hkw
        refine ⟨rfl, _, rfl, _, rfl, ca, _, _, _, rfl, rfl, SqL.of (s16 _ _ hca15), atI_nat (getMap (List.getElem?_eq_getElem hq')), _, rfl, cpr, _, _, _, rfl, rfl, SqT.of (s16 _ _ hcpr), rfl, _, rfl, c1, _, _, _, rfl, rfl, SqT.of (s16 _ _ hc1), atI_nat (getMap (List.getElem?_eq_getElem hp')), _, _, rfl, rfl, .inl (qok.small hp97 _ (List.getElem_mem hq')), kp _ _ _ ?_ (Same.refl _) (.int _)⟩
        rw [List.getElem?_map, List.getElem?_zipWith, List.getElem?_eq_getElem hq', List.getElem?_eq_getElem hp']
        rfl
      rw [h52.intsI] at h51
      refine ⟨D5, _, rfl, SqL.of h51, ?_⟩
      have hop16 := s16 _ _ hop15
      refine ⟨_, rfl, op, rfl, ⟨_, SqL.of hop16⟩, fun D6 hD6 => lcd_list (K := K) (ds1 := (addM M.prime qv fv pr).map .int) hD6 hop16 (places_at w') (by unfold addM; rw [List.length_map, List.length_map, List.length_range, plusM_len, List.length_map, fok.1, k2.1, Nat.min_self]) (by unfold addM; rw [List.length_map, plusM_len, fok.1]; omega) (fun k x5 d H17 hd5 hx5 s17 kp => ?_) fun H17 ys6 h61 h62 s17 => ?_⟩
      · obtain ⟨k', hk', rfl⟩ := map_get hd5
        obtain rfl := hx5.intI
        have hkw : k < w' := by have := (List.getElem?_eq_some_iff.mp hk').1; rw [List.length_range] at this; exact this
        obtain rfl : k' = k := by rw [List.getElem?_range hkw] at hk'; exact (Option.some.inj hk').symm
        have hq' : k' < fv.length := by rw [fok.1]; exact hkw
        have hp' : k' < pr.2.length := by rw [k2.1]; exact hkw
        have s167 := s16.trans s17
        refine ⟨rfl, _, rfl, _, rfl, cx2, _, _, _, rfl, rfl, SqL.of (s167 _ _ hcx2), atI_nat (getMap (List.getElem?_eq_getElem hq')), _, rfl, _, rfl, cpr, _, _, _, rfl, rfl, SqT.of (s167 _ _ hcpr), rfl, _, rfl, c2, _, _, _, rfl, rfl, SqT.of (s167 _ _ hc2), atI_nat (getMap (List.getElem?_eq_getElem hp')), _, _, rfl, rfl, .inr (k2.small hp97 _ (List.getElem_mem hp')), _, _, rfl, rfl, .inl ⟨_, rfl, _, rfl, _, _, rfl, rfl, hp0, kp _ _ _ ?_ (Same.refl _) (.int _)⟩⟩
        unfold addM plusM
        rw [List.getElem?_map, List.getElem?_zipWith, List.getElem?_map, List.getElem?_eq_getElem hq', List.getElem?_eq_getElem hp']
        rfl
      rw [h62.intsI] at h61
      exact ⟨D6, _, _, rfl, (s15.trans s16).trans s17, by rw [hfs]; exact h61, fun z => by
        have := s16 _ _ (s1115 _ _ e11)
        rw [← z, hD6] at this
        cases this⟩
    · rintro σ H15 ⟨cx2, v10, v14, rfl, s15, hcx2, ncx2⟩
      have hlen := hps.len
      rw [List.length_map] at hlen
      rw [List.take_of_length_le (Nat.le_of_eq hlen.symm), looked_fold okx (timesM_ok hp0 okl.q x).1] at hcx2
      have x1ok : VecOk M.prime w' (plusM M.prime x (lookedM M.prime (timesM M.prime lay.q x) ps)) := plusM_ok hp0 okx.1 (lookedM_ok hp0 _ _ _ (fun r hr => (hpsok r hr).2.1) (zeroVec hp0 (timesM_ok hp0 okl.q x).1)).1
      have hx1 : (layM M.prime lay (oldM (rowsM M ns) j) x).1 = plusM M.prime (plusM M.prime x (lookedM M.prime (timesM M.prime lay.q x) ps)) (timesM M.prime lay.s ((timesM M.prime lay.f (plusM M.prime x (lookedM M.prime (timesM M.prime lay.q x) ps))).map fun n => n * n)) := by
        rw [← hpsE]
        rfl
      have okn := (layM_ok hp0 okl (fun r hr => (oldM_ok rok hjl r hr).2.1) okx (old := oldM (rowsM M ns) j))
      generalize plusM M.prime x (lookedM M.prime (timesM M.prime lay.q x) ps) = x1 at hcx2 x1ok hx1
      have s1115 : Same H11 H15 := s1114.trans s15
      have sAll : Same H H15 := s11.trans s1115
      have t415 : Tups H4 H15 := (s410.tups.trans f11.t).trans s1115.tups
      have hcy15 := t415 _ _ rfl (s4 _ _ hcy)
      have fok := timesM_ok hp0 okl.f x1
      obtain ⟨z1, z2, z3⟩ := mOk okl.f x1ok.1
      refine ⟨_, rfl, cy, _, _, _, rfl, rfl, SqT.of hcy15, rfl, _, rfl, _, rfl, _, _, _, rfl, lay.f, cx2, x1, M.prime, (af.up s4.tups).up t415, rfl, hcx2, rfl, hp0, z1, z2, z3, fun H16 cf s16 ncf hcf => ⟨cf, rfl, ⟨_, SqL.of hcf⟩, fun D7 hD7 => lcd_list (K := K) (ds1 := ((timesM M.prime lay.f x1).map fun n => n * n).map .int) hD7 hcf (atAll_ints _) (by rw [List.length_map, List.length_map, List.length_map]) (by rw [List.length_map, List.length_map, fok.1]; omega) (fun k x5 d H17 hd5 hx5 s17 kp => ?_) fun H17 ys6 h61 h62 s17 => ?_⟩⟩
      · obtain ⟨n, hn, rfl⟩ := map_get hd5
        obtain rfl := hx5.intI
        refine ⟨rfl, _, rfl, _, rfl, _, _, rfl, rfl, .inl (fok.small hp97 n (List.mem_of_getElem? hn)), kp _ _ _ ?_ (Same.refl _) (.int _)⟩
        rw [List.getElem?_map, List.getElem?_map, hn]
        rfl
      rw [h62.intsI] at h61
      have s157 := s16.trans s17
      obtain ⟨z1, z2, z3⟩ := mOk okl.s (show ((timesM M.prime lay.f x1).map fun n => n * n).length = w' by rw [List.length_map]; exact fok.1)
      refine ⟨_, rfl, cy, _, _, _, rfl, rfl, SqT.of (s157 _ _ hcy15), rfl, _, rfl, _, rfl, _, _, _, rfl, lay.s, D7, _, M.prime, ((as'.up s4.tups).up t415).up s157.tups, rfl, h61, rfl, hp0, z1, z2, z3, fun H18 cm s18 ncm hcm => ?_⟩
      have mok := timesM_ok hp0 okl.s ((timesM M.prime lay.f x1).map fun n => n * n)
      have s158 := s157.trans s18
      have hop18 := s158 _ _ (s1115 _ _ hop11)
      generalize timesM M.prime lay.s ((timesM M.prime lay.f x1).map fun n => n * n) = mv at hcm mok hx1
      refine ⟨_, rfl, op, rfl, ⟨_, SqL.of hop18⟩, fun D8 hD8 => lcd_list (K := K) (ds1 := (plusM M.prime x1 mv).map .int) hD8 hop18 (places_at w') (by rw [List.length_map, List.length_map, List.length_range, plusM_len, x1ok.1, mok.1, Nat.min_self]) (by rw [List.length_map, plusM_len, x1ok.1]; omega) (fun k x5 d H19 hd5 hx5 s19 kp => ?_) fun H19 ys8 h81 h82 s19 => ?_⟩
      · obtain ⟨k', hk', rfl⟩ := map_get hd5
        obtain rfl := hx5.intI
        have hkw : k < w' := by have := (List.getElem?_eq_some_iff.mp hk').1; rw [List.length_range] at this; exact this
        obtain rfl : k' = k := by rw [List.getElem?_range hkw] at hk'; exact (Option.some.inj hk').symm
        have hq' : k' < x1.length := by rw [x1ok.1]; exact hkw
        have hp' : k' < mv.length := by rw [mok.1]; exact hkw
        refine ⟨rfl, _, rfl, _, rfl, cx2, _, _, _, rfl, rfl, SqL.of (s19 _ _ (s158 _ _ hcx2)), atI_nat (getMap (List.getElem?_eq_getElem hq')), _, rfl, _, rfl, cm, _, _, _, rfl, rfl, SqL.of (s19 _ _ hcm), atI_nat (getMap (List.getElem?_eq_getElem hp')), _, _, rfl, rfl, .inl ⟨_, rfl, _, rfl, _, _, rfl, rfl, hp0, kp _ _ _ ?_ (Same.refl _) (.int _)⟩⟩
        unfold plusM
        rw [List.getElem?_map, List.getElem?_zipWith, List.getElem?_eq_getElem hq', List.getElem?_eq_getElem hp']
        rfl
      rw [h82.intsI] at h81
      have s159 := s158.trans s19
      refine ⟨D8, _, own ++ [(layM M.prime lay (oldM (rowsM M ns) j) x).2], _, _, _, _, _, _, _, _, _, _, _, _, rfl, sAll.trans s159, s159 _ _ (s1115 _ _ hop11), h81, fun z => ?_, s159 _ _ (s1115 _ _ e11), ?_, by rw [← hx1]; exact okn.1, by rw [List.length_append, hol]; rfl, fun pr hpr' => ?_, by rw [hst, hst', hx1]⟩
      · have := s158 _ _ (s1115 _ _ e11)
        rw [← z, hD8] at this
        cases this
      · rw [List.map_append]
        exact (((hpvs.up s410.tups).snoc hpr).up f11.t).up (s1115.tups.trans s159.tups)
      · rcases List.mem_append.mp hpr' with z | z
        · exact hown pr z
        · obtain rfl := List.mem_singleton.mp z
          exact okn.2
  · rintro σ H4 ⟨cx, x, own, pvs, v7, v8, v9, v10, v11, v12, v13, v14, v15, v16, v17, rfl, s4, hop4, hcx, ncx, hpl4, hpvs, okx, hol, hown, hst⟩
    have hz : laysM M.prime (rowsM M ns) 0 M.layers (x0M M rvs.length l) [] = (x, own) := by
      rw [hst, hxl3, List.drop_length]
      rfl
    have hrow : rowM M (rowsM M ns) l = (own, outM M x) := by
      show ((laysM M.prime (rowsM M ns) 0 M.layers (x0M M (rowsM M ns).length l) []).2, outM M (laysM M.prime (rowsM M ns) 0 M.layers (x0M M (rowsM M ns).length l) []).1) = _
      rw [hrl', hz]
    rw [hrow] at q
    refine ⟨_, rfl, pl, pvs, rfl, .inl ⟨SqL.of hpl4, fun tq htq => ?_⟩⟩
    generalize hG : L2.upd H4 tq _ = H5
    obtain ⟨s5, e5⟩ := gen_new htq hG
    have s45 := s4.trans s5
    have oOk : (∀ r ∈ M.out, r.length = x.length ∧ SmallI r) ∧ M.out.length ≤ 1000 ∧ x.length ≤ 1000 := ⟨fun r hr => ⟨by rw [(ok.out.2 r hr).1, okx.1], (ok.out.2 r hr).small hp97⟩, by rw [ok.out.1]; have := ok.l1; omega, by rw [okx.1]; omega⟩
    refine ⟨_, rfl, en, _, _, _, rfl, rfl, SqT.of (s45 _ _ he), rfl, _, rfl, _, rfl, _, _, _, rfl, M.out, cx, x, M.prime, mo.up s45.tups, rfl, s5 _ _ hcx, rfl, hp0, oOk.1, oOk.2.1, oOk.2.2, fun H6 co s6 nco hco => ⟨co, rfl, ⟨_, SqL.of hco⟩, fun D7 hD7 => lcd_list (K := K) (ds1 := (outM M x).map .int) hD7 hco (atAll_ints _) (by unfold outM; rw [List.length_map, List.length_map, List.length_map, timesM_len]) (by unfold outM; rw [List.length_map, List.length_map]; exact oOk.2.1) (fun k x5 d H17 hd5 hx5 s17 kp => ?_) fun H17 ys6 h61 h62 s17 => ?_⟩⟩
    · obtain ⟨n, hn, rfl⟩ := map_get hd5
      obtain rfl := hx5.intI
      refine ⟨rfl, _, rfl, _, _, rfl, rfl, kp _ _ _ ?_ (Same.refl _) (.int _)⟩
      unfold timesM at hn
      obtain ⟨r, er, rfl⟩ := map_get hn
      unfold outM
      rw [List.getElem?_map, List.getElem?_map, er]
      show some (PyData.int _) = some (PyData.int _)
      rw [Int.add_comm]
    refine ⟨D7, ys6, rfl, .inl ⟨SqL.of h61, fun tw htw => ?_⟩⟩
    generalize hG : L2.upd H17 tw _ = H18
    obtain ⟨s18, e18⟩ := gen_new htw hG
    refine ⟨ll2, fun tr htr => ?_⟩
    have s518 := (s6.trans s17).trans s18
    refine q _ _ ((s45.trans s518).trans (same_new htr)) (at_tup upd_same (.cons ((at_tup (s518 _ _ e5) ((hpvs.up s5.tups).up s518.tups)).up (same_new htr).tups) (.cons ((at_tup e18 (h62.up s18.tups)).up (same_new htr).tups) .nil)))
end
end Sv
end
section
set_option Elab.async false
set_option linter.all false
set_option maxRecDepth 100000
set_option maxHeartbeats 4000000
/-! The rows behind letters, kept in a dict. -/
namespace Sv
open PySem PySem.Spec PyProof.Rows L2 HotX
structure KnownAt (M : NetM) (H : Hp) (kn : Addr) (n : Nat) : Prop where
  ex : ∃ tbl : List (Path × Addr), H kn = some (.dT (mapD V.ref tbl)) ∧ tbl.length ≤ n ∧ ∀ p a, aget tbl p = some a → ∃ r, (rowsM M p).getLast? = some r ∧ At H (.ref a) (dRow r)
theorem KnownAt.keep {M : NetM} {H H' : Hp} {kn : Addr} {n : Nat} {F : List Addr} (h : KnownAt M H kn n) (f : Fr F H H') (ne : kn ∉ F) : KnownAt M H' kn n := by
  obtain ⟨tbl, h1, h2, h3⟩ := h.ex
  refine ⟨tbl, f.k _ _ ne h1, h2, fun p a e => ?_⟩
  obtain ⟨r, e1, e2⟩ := h3 p a e
  exact ⟨r, e1, e2.up f.t⟩
theorem aput_len1 {β : Type} : ∀ (u : List (Path × β)) (p : Path) (v : β), (aput u p v).length ≤ u.length + 1 := by
  intro u p v
  induction u with
  | nil => exact Nat.le_refl _
  | cons x u ih =>
    unfold aput
    split <;> simp <;> omega
def p_law_behind : P3 := fun a b c H Q => ∃ (M : NetM) (L w : Nat) (kn lt : Addr) (n : Nat) (ls : List Int), At H a (NetD M) ∧ NetOk M L w ∧ b = .ref kn ∧ KnownAt M H kn n ∧ c = .ref lt ∧ H lt = some (.tup (ls.map V.int)) ∧ 0 < ls.length ∧ ls.length ≤ 20 ∧ (∀ x ∈ ls, Below L x) ∧ n + ls.length ≤ 1000 ∧
  ∀ H' v r, Fr [kn] H H' → KnownAt M H' kn (n + ls.length) → (rowsM M ls).getLast? = some r → At H' v (dRow r) → Q v H'
section
variable {P : Program} {w : World} {K : PySem.W.Frag} {mg : Str → Option Value} {base : Heap}
abbrev N_law_behind : List Str := ["_law_net_here", "_law_known", "_law_letters_here", "_law_rows", "_law_k"]
theorem sc_law_behind : FnScope N_law_behind ["_law_net_here", "_law_known", "_law_letters_here"] (defScope s_law_behind) := ⟨rfl, rfl, rfl, by decide +kernel, rfl, by decide +kernel, by decide +kernel⟩
theorem ok_law_behind (T : Txt K mg) : GFn P w K mg base 3 "_law_behind" ["_law_net_here", "_law_known", "_law_letters_here"] (Sp3 p_law_behind) := by
  refine gfn T.d_law_behind T.g_law_behind sc_law_behind (fun _ _ _ _ _ _ us hl => match us, hl with | [_, _, _], _ => rfl) len3 fun cdv A outer s H vs Q E hr h => ?_
  obtain ⟨a0, a1, a2, rfl, h⟩ := h
  refine ⟨_, pss_cons (ps_set (i := 3) sc_law_behind.nd rfl (Or.inl rfl) (pe_lst pa_nil))
      (pss_cons (ps_for PassesOwn.never rfl (pi_range2 (by rfl) T.b_range (pa_cons (pe_int) (pa_cons (pe_op op_add (pe_callB call_len_seq (by rfl) T.b_len PySem.boot_len (pa_cons (pv 2) pa_nil)) (pe_int)) pa_nil))) (pg_name (i := 4) sc_law_behind.nd rfl (Or.inl rfl))
      (pss_cons (ps_if (pt_cmp (pc_dnotin (hu_of hr) (pe_slice sl_tupA (pv 2) po_none (po_some (pv 4))) (pv 1))) (pss_one (ps_dput (hu_of hr) (pv 1) (pe_slice sl_tupA (pv 2) po_none (po_some (pv 4))) (pe_g (ok_law_row T) (hr.mono (by decide)) (pa_cons (pv 0) (pa_cons (pv 3) (pa_cons (pe_ix ix_tup (pv 2) (pe_op op_sub (pv 4) (pe_int)) (fun _ _ => rfl)) pa_nil)))) rfl)) (pss_nil))
      (pss_one (ps_expr (pe_bm PySem.F.plainAttrs_list PySem.F.slot_list_append PySem.F.type_list_append mt_append (pv 3) (pa_cons (pe_dget (hu_of hr) (pv 1) (pe_slice sl_tupA (pv 2) po_none (po_some (pv 4))) (fun _ _ => rfl)) pa_nil))))))
      (pss_one (ps_ret (pe_ix ix_list (pv 3) (pe_un un_neg (pe_int)) (fun _ _ => rfl))))), ?_⟩
  obtain ⟨M, L, w', kn, lt, n, ls, hnet, ok, rfl, hkn, rfl, hlt, h0, h20, hls, hnl, q⟩ := h
  refine ⟨ll0, fun D hD => ?_⟩
  generalize hG : L2.upd H D _ = H1
  obtain ⟨s1, e1⟩ := gen_new hD hG
  refine ⟨_, rfl, lt, _, rfl, .inr (SqT.of (s1 _ _ hlt)), _, _, rfl, rfl, ?_⟩
  rw [List.length_map]
  have nDk : D ≠ kn := fun z => by
    obtain ⟨_, z1, _⟩ := hkn.ex
    rw [← z, hD] at z1
    cases z1
  refine ⟨1, ((ls.length : Nat) : Int) + 1, rfl, ⟨by decide, by decide, by omega, by omega⟩, ?_⟩
  rw [show (((ls.length : Nat) : Int) + 1 - 1).toNat = ls.length by omega]
  refine for_range (lo := 1) (n := ls.length) (fun i σ H' => ∃ v4 rvs, σ = [some a0, some (.ref kn), some (.ref lt), some (.ref D), v4] ∧ Fr [kn] H H' ∧ KnownAt M H' kn (n + i) ∧ H' D = some (.lst rvs) ∧ AtAll H' rvs ((rowsM M (ls.take i)).map dRow))
    ⟨_, [], rfl, Fr.same s1, hkn.keep (F := []) (Fr.same s1) (by simp), e1, .nil⟩ ?_ ?_
  · rintro i σ H2 hi ⟨v4, rvs, rfl, f2, k2, hD2, hrv⟩
    have ek : ((1 : Int) + (i : Nat)) = ((i + 1 : Nat) : Int) := by omega
    refine ⟨_, rfl, _, rfl, _, congrArg V.int ek, ?_⟩
    dsimp only
    refine slA_at (K := K) (f2.t _ _ rfl hlt) fun H3 c3 s3 hc3 => ?_
    rw [cut_take, ← List.map_take] at hc3
    obtain ⟨tbl, t1, t2, t3⟩ := (k2.keep (F := []) (Fr.same s3) (by simp)).ex
    refine ⟨_, rfl, kn, _, rfl, dget_u t1 hc3, _, rfl, ?_⟩
    rw [Option.isSome_map]
    have f3 : Fr [kn] H H3 := f2.trans (Fr.same s3)
    have hD3 := s3 _ _ hD2
    cases hh : aget tbl (ls.take (i + 1)) with
    | some ar =>
      have ekB : ((1 : Int) + (i : Nat)) = ((i + 1 : Nat) : Int) := ek
      refine ⟨_, rfl, ty_l hD3, _, rfl, _, rfl, _, rfl, _, congrArg V.int ek, ?_⟩
      dsimp only
      refine slA_at (K := K) (f3.t _ _ rfl hlt) fun H7 c7 s7 hc7 => ?_
      rw [cut_take, ← List.map_take] at hc7
      have hdg := dget_u (p := ls.take (i + 1)) (s7 _ _ t1) hc7
      rw [hh] at hdg
      obtain ⟨r, er, hr'⟩ := t3 _ _ hh
      have f7 : Fr [kn] H H7 := f3.trans (Fr.same s7)
      have hD7 := s7 _ _ hD3
      have hlr := hrv.len
      rw [List.length_map, rowsM_len, List.length_take] at hlr
      refine ⟨kn, _, rfl, hdg, D, rvs, _, rfl, rfl, hD7, small1000 (by omega), ?_⟩
      generalize hG : L2.upd H7 D _ = H8
      obtain ⟨f8, e8⟩ := gen_lst [D] hD7 hG (.head _)
      refine ⟨_, _, rfl, ⟨f7.t.trans f8.t, fun b o hb hbo => f8.k b o (fun z => ?_) (f7.k b o hb hbo)⟩, ⟨tbl, f8.k _ _ (by simp; exact Ne.symm nDk) (s7 _ _ t1), by omega, fun p a e => ?_⟩, e8, ?_⟩
      · obtain rfl : b = D := by simpa using z
        rw [hD] at hbo
        cases hbo
      · obtain ⟨r, g1, g2⟩ := t3 p a e
        exact ⟨r, g1, (g2.up s7.tups).up f8.t⟩
      · have e9 : rowsM M (ls.take (i + 1)) = rowsM M (ls.take i) ++ [r] := by
          rw [take_snoc (List.getElem?_eq_getElem hi), rowsM_snoc] at er ⊢
          rw [List.getLast?_append] at er
          simp at er
          rw [er]
        rw [e9, List.map_append]
        exact ((((hrv.up s3.tups).up s7.tups).up f8.t)).snoc ((hr'.up s7.tups).up f8.t)
    | none =>
      have hli := hls _ (List.getElem_mem hi)
      have ei : atI (ls.map V.int) ((1 : Int) + (i : Nat) - 1) = some (V.int ls[i]) := by
        rw [show ((1 : Int) + (i : Nat) - 1) = ((i : Nat) : Int) by omega]
        exact atI_nat (getMap (List.getElem?_eq_getElem hi))
      have hlt3 := f3.t _ _ rfl hlt
      refine ⟨_, rfl, _, rfl, _, rfl, _, rfl, _, _, rfl, rfl, lt, _, _, _, rfl, rfl, SqT.of hlt3, ei, _, _, _, rfl, M, L, w', D, rvs, ls.take i, ls[i], hnet.up f3.t, ok, rfl, hD3, hrv.up s3.tups, rfl, hli.1, hli.2, fun x hx => hls x (List.mem_of_mem_take hx), by rw [List.length_take]; omega, fun H4 v s4 hv => ?_⟩
      obtain ⟨av, xav, rfl, hav, hav'⟩ := At.tupI (show At H4 v (.tuple [.tuple ((rowM M (rowsM M (ls.take i)) ls[i]).1.map dPair), dVec (rowM M (rowsM M (ls.take i)) ls[i]).2]) from hv)
      refine ⟨_, rfl, _, rfl, _, rfl, _, congrArg V.int ek, ?_⟩
      dsimp only
      refine slA_at (K := K) (s4 _ _ hlt3) fun H5 c5 s5 hc5 => ?_
      rw [cut_take, ← List.map_take] at hc5
      have s45 := s4.trans s5
      have t1' := s45 _ _ t1
      refine ⟨kn, _, rfl, dput_u (g := V.ref) (v := av) t1' hc5 (by omega), ?_⟩
      generalize hG : L2.upd H5 kn _ = H6
      have f6 : Fr [kn] H5 H6 ∧ H6 kn = some (.dT (mapD V.ref (aput tbl (ls.take (i + 1)) av))) := by
        subst hG
        exact ⟨Fr.upd t1' rfl (.head _), upd_same⟩
      obtain ⟨f6, t6⟩ := f6
      have f36 : Fr [kn] H3 H6 := (Fr.same s45).trans f6
      have hD6 := f36.k _ _ (by simp; exact nDk) hD3
      refine ⟨_, rfl, ty_l hD6, _, rfl, _, rfl, _, rfl, _, congrArg V.int ek, ?_⟩
      dsimp only
      refine slA_at (K := K) (f36.t _ _ rfl hlt3) fun H7 c7 s7 hc7 => ?_
      rw [cut_take, ← List.map_take] at hc7
      have hdg := dget_u (p := ls.take (i + 1)) (s7 _ _ t6) hc7
      rw [aget_put, if_pos rfl] at hdg
      have f37 : Fr [kn] H3 H7 := f36.trans (Fr.same s7)
      have f7 : Fr [kn] H H7 := f3.trans f37
      have hD7 := s7 _ _ hD6
      have hlr := hrv.len
      rw [List.length_map, rowsM_len, List.length_take] at hlr
      refine ⟨kn, _, rfl, hdg, D, rvs, _, rfl, rfl, hD7, small1000 (by omega), ?_⟩
      generalize hG : L2.upd H7 D _ = H8
      obtain ⟨f8, e8⟩ := gen_lst [D] hD7 hG (.head _)
      have e9 : rowsM M (ls.take (i + 1)) = rowsM M (ls.take i) ++ [rowM M (rowsM M (ls.take i)) ls[i]] := by
        rw [take_snoc (List.getElem?_eq_getElem hi), rowsM_snoc]
      have hv8 := hv.up (((s5.tups.trans f6.t).trans s7.tups).trans f8.t)
      refine ⟨_, _, rfl, ⟨f7.t.trans f8.t, fun b o hb hbo => f8.k b o (fun z => ?_) (f7.k b o hb hbo)⟩, ⟨_, f8.k _ _ (by simp; exact Ne.symm nDk) (s7 _ _ t6), ?_, fun p a e => ?_⟩, e8, ?_⟩
      · obtain rfl : b = D := by simpa using z
        rw [hD] at hbo
        cases hbo
      · have := aput_len1 tbl (ls.take (i + 1)) av
        omega
      · rw [aget_put] at e
        split at e
        · rename_i z
          subst z
          cases e
          exact ⟨_, by rw [e9]; simp, hv8⟩
        · obtain ⟨r, g1, g2⟩ := t3 p a e
          exact ⟨r, g1, (g2.up f37.t).up f8.t⟩
      · rw [e9, List.map_append]
        exact ((((hrv.up s3.tups).up f37.t).up f8.t)).snoc hv8
  · rintro σ H2 ⟨v4, rvs, rfl, f2, k2, hD2, hrv⟩
    rw [List.take_length] at hrv
    have hlr := hrv.len
    rw [List.length_map, rowsM_len] at hlr
    obtain ⟨r, er⟩ : ∃ r, (rowsM M ls)[ls.length - 1]? = some r := ⟨_, List.getElem?_eq_getElem (by rw [rowsM_len]; omega)⟩
    obtain ⟨v, hv, hav⟩ := hrv.getD (i := ls.length - 1) (d := dRow r) (by rw [List.getElem?_map, er]; rfl)
    have el : atI rvs (-1) = some v := by
      have hne : rvs ≠ [] := fun z => by rw [z] at hlr; simp at hlr; omega
      rw [← List.dropLast_concat_getLast hne]
      rw [atI_last, List.getLast_eq_getElem]
      rw [← hlr] at hv
      rw [List.getElem?_eq_getElem (by omega)] at hv
      exact hv
    refine ⟨_, rfl, _, rfl, D, _, _, _, rfl, rfl, SqL.of hD2, el, q _ _ r f2 k2 ?_ hav⟩
    rw [List.getLast?_eq_getElem?, rowsM_len]
    exact er
end
end Sv
end
section
set_option Elab.async false
set_option linter.all false
set_option maxRecDepth 100000
set_option maxHeartbeats 4000000
/-! The law's net as the program's. -/
namespace Sv
open PySem PySem.Spec PyProof.Rows L2 HotX
def p_law_as_net (K : PySem.W.Frag) : P1 := fun a H Q => ∃ (M : NetM) (L w : Nat), At H a (NetD M) ∧ NetOk M L w ∧ inV (.int M.prime) primesV = true ∧ ∀ H' np, Same H H' → H np = none → NetAt K H' np M → Q (.ref np) H'
section
variable {P : Program} {w : World} {K : PySem.W.Frag} {mg : Str → Option Value} {base : Heap}
abbrev N_law_as_net : List Str := ["_law_net_here"]
theorem sc_law_as_net : FnScope N_law_as_net ["_law_net_here"] (defScope s_law_as_net) := ⟨rfl, rfl, rfl, by decide +kernel, rfl, by decide +kernel, by decide +kernel⟩
theorem ok_law_as_net (T : Txt K mg) : GFn P w K mg base 5 "_law_as_net" ["_law_net_here"] (Sp1 (p_law_as_net K)) := by
  refine gfn T.d_law_as_net T.g_law_as_net sc_law_as_net (fun _ _ _ _ _ _ us hl => match us, hl with | [_], _ => rfl) len1 fun cdv A outer s H vs Q E hr h => ?_
  obtain ⟨a0, rfl, h⟩ := h
  refine ⟨_, pss_one (ps_ret (pe_c (ok_Net_init T) (hr.mono (by decide)) (pa_cons (pe_ix ix_tup (pv 0) (pe_int) (fun _ _ => rfl)) (pa_cons (pe_ix ix_tup (pv 0) (pe_int) (fun _ _ => rfl)) (pa_cons (pe_ix ix_tup (pv 0) (pe_int) (fun _ _ => rfl)) (pa_cons (pe_ix ix_tup (pv 0) (pe_int) (fun _ _ => rfl)) (pa_cons (pe_ix ix_tup (pv 0) (pe_int) (fun _ _ => rfl)) (pa_cons (pe_ix ix_tup (pv 0) (pe_int) (fun _ _ => rfl)) pa_nil)))))))), ?_⟩
  obtain ⟨M, L, w', hnet, ok, hpv, q⟩ := h
  obtain ⟨en, ve, vs, vl, vo, vf, rfl, he, me, ms, ml, mo, mf⟩ := netD hnet
  refine ⟨_, rfl, en, _, _, _, rfl, rfl, SqT.of he, rfl, _, rfl, en, _, _, _, rfl, rfl, SqT.of he, rfl, _, rfl, en, _, _, _, rfl, rfl, SqT.of he, rfl, _, rfl, en, _, _, _, rfl, rfl, SqT.of he, rfl, _, rfl, en, _, _, _, rfl, rfl, SqT.of he, rfl, _, rfl, en, _, _, _, rfl, rfl, SqT.of he, rfl, fun x dx hx hdx hne => ?_⟩
  generalize hG : L2.upd (L2.upd H dx _) x _ = H1
  obtain ⟨s1, e1⟩ := make_same hG hx hdx hne
  refine ⟨_, _, _, _, _, _, _, rfl, x, dx, M, L, w', rfl, e1, rfl, ok, hpv, me.up s1.tups, ms.up s1.tups, ml.up s1.tups, mo.up s1.tups, mf.up s1.tups, fun H' f N => ⟨rfl, q H' x (fun b o e => f.k b o (by simp; exact ne_of_none e hx) (s1 _ _ e)) hx N⟩⟩
end
end Sv
end
section
set_option Elab.async false
set_option linter.all false
set_option maxRecDepth 100000
set_option maxHeartbeats 4000000
/-! The law's asks, drawn. -/
namespace Sv
open PySem PySem.Spec PyProof.Rows L2 HotX
theorem seq_cut {A B : TS} {D : Ends} {σ : L2.St} {H : Hp} (Pv : L2.St → Hp → Prop) (h2 : ∀ σ' H', Pv σ' H' → B D σ' H') (h1 : ∀ N : L2.St → Hp → Prop, (∀ σ' H', Pv σ' H' → N σ' H') → A { D with nx := N } σ H) : tSeq A B D σ H := h1 _ h2
abbrev sts : List V := [.int 2, .int 2, .int 3, .int 6]
theorem sts_ok : ∀ v ∈ sts, ∃ n : Nat, v = .int n ∧ 2 ≤ n ∧ n ≤ 6 := by
  intro v hv
  simp only [sts, List.mem_cons, List.not_mem_nil, or_false] at hv
  rcases hv with rfl | rfl | rfl | rfl
  · exact ⟨2, rfl, by decide, by decide⟩
  · exact ⟨2, rfl, by decide, by decide⟩
  · exact ⟨3, rfl, by decide, by decide⟩
  · exact ⟨6, rfl, by decide, by decide⟩
abbrev stc : List V := [.int 0, .int 0, .int 1, .int 2, .int 0, .int 0, .int 1, .int 4]
abbrev sll : List V := [.int 1, .int 2, .int 2, .int 3, .int 4]
abbrev tac : List V := [.int 0, .int 0, .int 1, .int 3]
theorem stc_ok : ∀ v ∈ stc, ∃ n : Nat, v = .int n ∧ n ≤ 4 := by
  intro v hv
  simp only [stc, List.mem_cons, List.not_mem_nil, or_false] at hv
  rcases hv with rfl | rfl | rfl | rfl | rfl | rfl | rfl | rfl
  · exact ⟨0, rfl, by decide⟩
  · exact ⟨0, rfl, by decide⟩
  · exact ⟨1, rfl, by decide⟩
  · exact ⟨2, rfl, by decide⟩
  · exact ⟨0, rfl, by decide⟩
  · exact ⟨0, rfl, by decide⟩
  · exact ⟨1, rfl, by decide⟩
  · exact ⟨4, rfl, by decide⟩
theorem sll_ok : ∀ v ∈ sll, ∃ n : Nat, v = .int n ∧ 1 ≤ n ∧ n ≤ 4 := by
  intro v hv
  simp only [sll, List.mem_cons, List.not_mem_nil, or_false] at hv
  rcases hv with rfl | rfl | rfl | rfl | rfl
  · exact ⟨1, rfl, by decide, by decide⟩
  · exact ⟨2, rfl, by decide, by decide⟩
  · exact ⟨2, rfl, by decide, by decide⟩
  · exact ⟨3, rfl, by decide, by decide⟩
  · exact ⟨4, rfl, by decide, by decide⟩
theorem tac_ok : ∀ v ∈ tac, ∃ n : Nat, v = .int n ∧ n ≤ 3 := by
  intro v hv
  simp only [tac, List.mem_cons, List.not_mem_nil, or_false] at hv
  rcases hv with rfl | rfl | rfl | rfl
  · exact ⟨0, rfl, by decide⟩
  · exact ⟨0, rfl, by decide⟩
  · exact ⟨1, rfl, by decide⟩
  · exact ⟨3, rfl, by decide⟩
def dRule : Option RuleM → PyData
  | none => .none
  | some r => .tuple [.int r.start, dSteps r.steps]
/-- the law's own ask: a dict -/
structure AskT (H : Hp) (d : Addr) (k : AskM) : Prop where
  ex : ∃ v1 v2 v3 v4, H d = some (.dK [(.inr "prompt", v1), (.inr "most", .int k.most), (.inr "stops", v2), (.inr "tape", v3), (.inr "rule", v4)]) ∧ At H v1 (dVec k.prompt) ∧ At H v2 (dMat k.stops) ∧ At H v3 (dVec k.tape) ∧ At H v4 (dRule k.rule)
theorem AskT.keep {H H' : Hp} {d : Addr} {k : AskM} {F : List Addr} (h : AskT H d k) (f : Fr F H H') (n : d ∉ F) : AskT H' d k := by
  obtain ⟨v1, v2, v3, v4, h1, h2, h3, h4, h5⟩ := h.ex
  exact ⟨v1, v2, v3, v4, f.k _ _ n h1, h2.up f.t, h3.up f.t, h4.up f.t, h5.up f.t⟩
theorem AskT.up {H H' : Hp} {d : Addr} {k : AskM} (h : AskT H d k) (s : Same H H') : AskT H' d k := h.keep (F := []) (Fr.same s) (by simp)
def p_law_ask : P3 := fun a b c H Q => ∃ (pa lt : Addr) (M : NetM) (L : Nat) (ls : List Int), a = .ref pa ∧ At H b (NetD M) ∧ M.embed.length = L ∧ 1 ≤ L ∧ L ≤ 12 ∧ c = .ref lt ∧ H lt = some (.tup (ls.map V.int)) ∧ ls.length = 6 ∧ (∀ x ∈ ls, Below L x) ∧ PoolAt H pa ∧
  ∀ H' d k, Fr [pa] H H' → PoolAt H' pa → H d = none → AskT H' d k → AskOk k L → Q (.ref d) H'
section
variable {P : Program} {w : World} {K : PySem.W.Frag} {mg : Str → Option Value} {base : Heap}
abbrev N_law_ask : List Str := ["_law_pool_here", "_law_net_here", "_law_base", "_law_rule", "_law_prompt", "_law_stops", "_law_k", "_law_tape", "_law_steps", "_law_states", "_law_letter"]
theorem sc_law_ask : FnScope N_law_ask ["_law_pool_here", "_law_net_here", "_law_base"] (defScope s_law_ask) := ⟨rfl, rfl, rfl, by decide +kernel, rfl, by decide +kernel, by decide +kernel⟩
theorem ok_law_ask (T : Txt K mg) : GFn P w K mg base 3 "_law_ask" ["_law_pool_here", "_law_net_here", "_law_base"] (Sp3 p_law_ask) := by
  refine gfn T.d_law_ask T.g_law_ask sc_law_ask (fun _ _ _ _ _ _ us hl => match us, hl with | [_, _, _], _ => rfl) len3 fun cdv A outer s H vs Q E hr h => ?_
  obtain ⟨a0, a1, a2, rfl, h⟩ := h
  refine ⟨_, pss_cons (ps_set (i := 3) sc_law_ask.nd rfl (Or.inl rfl) (pe_non))
      (pss_cons (ps_if (pt_cmpR op_eq (pe_g (ok_law_draw T) (hr.mono (by decide)) (pa_cons (pv 0) (pa_cons (pe_int) pa_nil))) (pe_int) (nomark _)) (pss_cons (ps_set (i := 8) sc_law_ask.nd rfl (Or.inl rfl) (pe_lst pa_nil))
      (pss_cons (ps_set (i := 9) sc_law_ask.nd rfl (Or.inr rfl) (pe_ix ix_list (pe_lst (pa_cons (pe_int) (pa_cons (pe_int) (pa_cons (pe_int) (pa_cons (pe_int) pa_nil))))) (pe_g (ok_law_draw T) (hr.mono (by decide)) (pa_cons (pv 0) (pa_cons (pe_int) pa_nil))) (fun _ _ => rfl)))
      (pss_cons (ps_for PassesOwn.never rfl (pi_range1 (by rfl) T.b_range (pa_cons (pv 9) pa_nil)) (pg_name (i := 6) sc_law_ask.nd rfl (Or.inl rfl))
      (pss_one (ps_expr (pe_bm PySem.F.plainAttrs_list PySem.F.slot_list_append PySem.F.type_list_append mt_append (pv 8) (pa_cons (pe_callTy call_tuple_of (by rfl) T.b_tuple (by decide +kernel) (pa_cons (pe_lc (own := [("_law_letter", 10)]) rfl sc_law_ask.nd (pi_tup (pe_ix ix_tup (pv 1) (pe_int) (fun _ _ => rfl))) (blkOk_by (N := N_law_ask) (sc := defScope s_law_ask) (by decide +kernel)) (fun _ _ _ _ _ => pg_name (i := 10) sc_law_ask.nd rfl (Or.inl rfl) (hf := Or.inr rfl)) (fun _ _ _ _ _ => pts_nil) (fun _ _ _ _ _ => pe_ix (ix_listK (K0 := K)) (pe_lst (pa_cons (pe_non) (pa_cons (pe_int) (pa_cons (pe_int) (pa_cons (pe_op op_sub (pv 9) (pe_int)) pa_nil))))) (pe_g (ok_law_draw T) (hr.mono (by decide)) (pa_cons (pv 0) (pa_cons (pe_int) pa_nil))) (fun _ _ => rfl))) pa_nil)) pa_nil)))))
      (pss_one (ps_set (i := 3) sc_law_ask.nd rfl (Or.inl rfl) (pe_tup (pa_cons (pe_g (ok_law_draw T) (hr.mono (by decide)) (pa_cons (pv 0) (pa_cons (pv 9) pa_nil))) (pa_cons (pe_callTy call_tuple_of (by rfl) T.b_tuple (by decide +kernel) (pa_cons (pv 8) pa_nil)) pa_nil)))))))) (pss_nil))
      (pss_cons (ps_set (i := 4) sc_law_ask.nd rfl (Or.inl rfl) (pe_op op_catA (pe_slice sl_tupA (pv 2) po_none (po_some (pe_g (ok_law_draw T) (hr.mono (by decide)) (pa_cons (pv 0) (pa_cons (pe_op op_add (pe_callB call_len_seq (by rfl) T.b_len PySem.boot_len (pa_cons (pv 2) pa_nil)) (pe_int)) pa_nil))))) (pe_g (ok_law_letters T) (hr.mono (by decide)) (pa_cons (pv 0) (pa_cons (pv 1) (pa_cons (pe_g (ok_law_draw T) (hr.mono (by decide)) (pa_cons (pv 0) (pa_cons (pe_int) pa_nil))) pa_nil))))))
      (pss_cons (ps_if (pt_cmpR op_eq (pe_callB call_len_seq (by rfl) T.b_len PySem.boot_len (pa_cons (pv 4) pa_nil)) (pe_int) (nomark _)) (pss_one (ps_set (i := 4) sc_law_ask.nd rfl (Or.inl rfl) (pe_g (ok_law_letters T) (hr.mono (by decide)) (pa_cons (pv 0) (pa_cons (pv 1) (pa_cons (pe_int) pa_nil)))))) (pss_nil))
      (pss_cons (ps_set (i := 5) sc_law_ask.nd rfl (Or.inl rfl) (pe_lst pa_nil))
      (pss_cons (ps_for PassesOwn.never rfl (pi_range1 (by rfl) T.b_range (pa_cons (pe_ix ix_list (pe_lst (pa_cons (pe_int) (pa_cons (pe_int) (pa_cons (pe_int) (pa_cons (pe_int) (pa_cons (pe_int) (pa_cons (pe_int) (pa_cons (pe_int) (pa_cons (pe_int) pa_nil))))))))) (pe_g (ok_law_draw T) (hr.mono (by decide)) (pa_cons (pv 0) (pa_cons (pe_int) pa_nil))) (fun _ _ => rfl)) pa_nil)) (pg_name (i := 6) sc_law_ask.nd rfl (Or.inl rfl))
      (pss_one (ps_expr (pe_bm PySem.F.plainAttrs_list PySem.F.slot_list_append PySem.F.type_list_append mt_append (pv 5) (pa_cons (pe_g (ok_law_letters T) (hr.mono (by decide)) (pa_cons (pv 0) (pa_cons (pv 1) (pa_cons (pe_ix ix_list (pe_lst (pa_cons (pe_int) (pa_cons (pe_int) (pa_cons (pe_int) (pa_cons (pe_int) (pa_cons (pe_int) pa_nil)))))) (pe_g (ok_law_draw T) (hr.mono (by decide)) (pa_cons (pv 0) (pa_cons (pe_int) pa_nil))) (fun _ _ => rfl)) pa_nil)))) pa_nil)))))
      (pss_cons (ps_set (i := 7) sc_law_ask.nd rfl (Or.inl rfl) (pe_callTy call_tuple_of (by rfl) T.b_tuple (by decide +kernel) (pa_cons (pe_lc (own := [("_law_k", 6)]) rfl sc_law_ask.nd (pi_range1 (by rfl) T.b_range (pa_cons (pe_ix ix_list (pe_lst (pa_cons (pe_int) (pa_cons (pe_int) (pa_cons (pe_int) (pa_cons (pe_int) pa_nil))))) (pe_g (ok_law_draw T) (hr.mono (by decide)) (pa_cons (pv 0) (pa_cons (pe_int) pa_nil))) (fun _ _ => rfl)) pa_nil)) (blkOk_by (N := N_law_ask) (sc := defScope s_law_ask) (by decide +kernel)) (fun _ _ _ _ _ => pg_name (i := 6) sc_law_ask.nd rfl (Or.inl rfl) (hf := Or.inr rfl)) (fun _ _ _ _ _ => pts_nil) (fun _ _ _ _ _ => pe_op op_mod (pe_callTy call_int1 (by rfl) T.b_int (by decide +kernel) (pa_cons (pe_op op_mul (pe_g (ok_law_draw T) (hr.mono (by decide)) (pa_cons (pv 0) (pa_cons (pe_int) pa_nil))) (pe_int)) pa_nil)) (pe_int))) pa_nil)))
      (pss_one (ps_ret (pe_disp (pps_cons (pe_str) (pv 4) (pps_cons (pe_str) (pe_op op_add (pe_int) (pe_g (ok_law_draw T) (hr.mono (by decide)) (pa_cons (pv 0) (pa_cons (pe_int) pa_nil)))) (pps_cons (pe_str) (pe_callTy call_tuple_of (by rfl) T.b_tuple (by decide +kernel) (pa_cons (pv 5) pa_nil)) (pps_cons (pe_str) (pv 7) (pps_cons (pe_str) (pv 3) (pps_nil)))))) (by rfl) (by rfl) (fun z => by cases z) (by decide)))))))))), ?_⟩
  obtain ⟨pa, lt, M, L, ls, rfl, hnet, hL, hL1, hL12, rfl, hlt, hl6, hls, pp, q⟩ := h
  obtain ⟨en, ve, vs, vl, vo, vf, rfl, he, me, _⟩ := netD hnet
  obtain ⟨ce, xe, rfl, hce, re⟩ := me.matI
  have hxe := re.len
  rw [List.length_map, hL] at hxe
  refine seq_cut (fun σ' H' => σ' = [some (.ref pa), some (.ref en), some (.ref lt), some .non, none, none, none, none, none, none, none] ∧ H' = H) ?_ fun N hN => hN _ _ ⟨rfl, rfl⟩
  rintro σ0 H0 ⟨rfl, e0⟩
  rw [e0]
  clear e0 H0
  refine seq_cut (fun σ' H' => ∃ v3 rl v6 v8 v9, σ' = [some (.ref pa), some (.ref en), some (.ref lt), some v3, none, none, v6, none, v8, v9, none] ∧ Fr [pa] H H' ∧ PoolAt H' pa ∧ At H' v3 (dRule rl) ∧ ∀ r, rl = some r → RuleOk r L) ?_ ?_
  · rintro σ H1 ⟨v3, rl, v6, v8, v9, rfl, f1, p1, hv3, hrl⟩
    have hlt1 := f1.t _ _ rfl hlt
    have hnt1 := hnet.up f1.t
    refine seq_cut (fun σ' H' => ∃ v4 pr, σ' = [some (.ref pa), some (.ref en), some (.ref lt), some v3, some v4, none, v6, none, v8, v9, none] ∧ Fr [pa] H1 H' ∧ PoolAt H' pa ∧ At H' v4 (dVec pr) ∧ pr.length ≤ 9 ∧ ∀ x ∈ pr, Below L x) ?_ ?_
    · rintro σ H2 ⟨v4, pr, rfl, f2, p2, hv4, hpl, hpr⟩
      refine seq_cut (fun σ' H' => ∃ v4 pr, σ' = [some (.ref pa), some (.ref en), some (.ref lt), some v3, some v4, none, v6, none, v8, v9, none] ∧ Fr [pa] H1 H' ∧ PoolAt H' pa ∧ At H' v4 (dVec pr) ∧ 0 < pr.length ∧ pr.length ≤ 9 ∧ ∀ x ∈ pr, Below L x) ?_ ?_
      · clear hpl hpr hv4 p2 f2
        rintro σ H2 ⟨v4, pr, rfl, f2, p2, hv4, hp0, hpl, hpr⟩
        refine ⟨ll0, fun D hD => ?_⟩
        generalize hG : L2.upd H2 D (HO.lst []) = H3
        have I0 : LcD dVec (fun x : List Int => 0 < x.length ∧ x.length ≤ 4 ∧ ∀ y ∈ x, Below L y) H2 pa D 0 H3 := by rw [← hG]; exact lcD_0 hD p2
        have nDp : D ≠ pa := fun e => p2.there (by rw [← e]; exact hD)
        refine ⟨by decide, fun o1 ho1 => ?_⟩
        obtain ⟨pp4, k4⟩ := mkL (ys := stc) ho1 I0.2.1
        refine ⟨_, rfl, _, _, rfl, pa, 8, rfl, rfl, by decide, pp4, fun H5 r4 a4 b4 f4 p4 => ?_⟩
        obtain ⟨f4', g4⟩ := k4 H5 f4
        obtain ⟨v4', m4, e4⟩ := pick (ys := stc) a4 b4
        refine ⟨o1, _, _, _, rfl, rfl, SqL.of g4, e4, ?_⟩
        obtain ⟨n, rfl, hn4⟩ := stc_ok v4' m4
        clear e4 m4 a4 b4
        have I1 : LcD dVec (fun x : List Int => 0 < x.length ∧ x.length ≤ 4 ∧ ∀ y ∈ x, Below L y) H2 pa D 0 H5 := by
          obtain ⟨f, _, ds, ys, h1, h2, h3, h4⟩ := I0
          exact ⟨f.trans f4', p4, ds, ys, h1, h2, f4'.k _ _ (by simp; exact nDp) h3, h4.up f4'.t⟩
        refine ⟨(n : Int), rfl, by omega, by omega, for_range (lo := 0) (n := n) (fun i σ H' => ∃ v6, σ = [some (.ref pa), some (.ref en), some (.ref lt), some v3, some v4, some (.ref D), v6, none, v8, v9, none] ∧ LcD dVec (fun x : List Int => 0 < x.length ∧ x.length ≤ 4 ∧ ∀ y ∈ x, Below L y) H2 pa D i H')
          ⟨_, rfl, I1⟩ ?_ ?_⟩
        · rintro i σ H6 hi ⟨v6, rfl, I⟩
          obtain ⟨_, _, _, ys, _, _, hDl, _⟩ := id I
          have hnt6 := (hnt1.up f2.t).up I.1.t
          refine ⟨_, rfl, ty_l hDl, _, rfl, _, rfl, by decide, fun o ho => ?_⟩
          obtain ⟨pp7, k7⟩ := mkL (ys := sll) ho I.2.1
          refine ⟨_, rfl, _, _, rfl, pa, 5, rfl, rfl, by decide, pp7, fun H8 r a b f8 p8 => ?_⟩
          obtain ⟨f8', g8⟩ := k7 H8 f8
          obtain ⟨v, m, e⟩ := pick (ys := sll) a b
          obtain ⟨n7, rfl, hn7, hn74⟩ := sll_ok v m
          refine ⟨o, _, _, _, rfl, rfl, SqL.of g8, e, _, _, _, rfl, pa, M, n7, rfl, hnt6.up f8'.t, rfl, by omega, by omega, p8, fun H9 v9' ns f9 p9 c1 c2 c3 => ?_⟩
          obtain ⟨acc, s1, s2, s3⟩ := lcD_step hD p2 I (f8'.trans f9) p9 ⟨by omega, by omega, by rw [← hL]; exact c2⟩ c3 (by omega)
          exact ⟨D, acc, _, rfl, rfl, s1, s2, _, rfl, s3⟩
        · rintro σ H6 ⟨v6, rfl, I⟩
          refine ⟨by decide, fun o ho => ?_⟩
          obtain ⟨pp7, k7⟩ := mkL (ys := tac) ho I.2.1
          refine ⟨_, rfl, _, _, rfl, pa, 4, rfl, rfl, by decide, pp7, fun H8 r a b f8 p8 => ?_⟩
          obtain ⟨f8', g8⟩ := k7 H8 f8
          obtain ⟨v, m, e⟩ := pick (ys := tac) a b
          obtain ⟨n7, rfl, hn7⟩ := tac_ok v m
          refine ⟨o, _, _, _, rfl, rfl, SqL.of g8, e, (n7 : Int), rfl, by omega, by omega, fun D2 hD2 => lc_range (lo := 0) (n := n7) (LcD PyData.int (fun x : Int => 0 ≤ x) H8 pa D2) (lcD_0 hD2 p8) (fun k H9 hk I2 => ?_) fun H9 I2 => ?_⟩
          · exact ⟨rfl, _, rfl, _, _, rfl, pa, 2520, rfl, rfl, by decide, I2.2.1, fun H10 r' a' b' f10 p10 => ⟨_, _, rfl, rfl, .inr (by decide), .inl ⟨_, rfl, _, _, rfl, rfl, pos 1000000, lcD_step hD2 p8 I2 f10 p10 (Int.emod_nonneg _ (by decide)) (.int _) (by omega)⟩⟩⟩
          · obtain ⟨f9, p9, tp, ys2, t1, t2, t3, t4⟩ := I2
            refine ⟨D2, ys2, rfl, .inl ⟨SqL.of t3, fun l0 hl0 => ?_⟩⟩
            generalize hG : L2.upd H9 l0 (HO.tup ys2) = H10
            obtain ⟨s10, e10⟩ := gen_new hl0 hG
            have c3 : At H10 (.ref l0) (dVec tp) := at_tup e10 (t4.up s10.tups)
            obtain ⟨f6, _, sts', ysl, n1, n2, hDl, n4⟩ := id I
            have f610 : Fr [pa] H6 H10 := (f8'.trans f9).trans (Fr.same s10)
            refine fun dp hdp => ?_
            generalize hG : L2.upd H10 dp (HO.dK []) = H11
            obtain ⟨s11, e11⟩ := gen_new hdp hG
            have p11 : PoolAt H11 pa := (p9.keep (F := []) (Fr.same s10) (by simp)).keep (F := []) (Fr.same s11) (by simp)
            have ndp : dp ≠ pa := fun z => by rw [z] at hdp; exact (p9.keep (F := []) (Fr.same s10) (by simp)).there hdp
            refine ⟨_, rfl, _, rfl, _, _, rfl, pa, 8, rfl, rfl, by decide, p11, fun H12 rm a0 b0 f12 p12 => ?_⟩
            have f612 : Fr [pa] H6 H12 := (f610.trans (Fr.same s11)).trans f12
            have hD12 := f612.k _ _ (by simp; exact nDp) hDl
            refine ⟨_, _, rfl, rfl, _, rfl, D, ysl, rfl, .inl ⟨SqL.of hD12, fun l1 hl1 => ?_⟩⟩
            generalize hG : L2.upd H12 l1 (HO.tup ysl) = H13
            obtain ⟨s13, e13⟩ := gen_new hl1 hG
            have e12 := f12.k _ _ (by simp; exact ndp) e11
            have e13d := s13 _ _ e12
            refine ⟨_, rfl, _, rfl, e13d, [(.inr "prompt", v4), (.inr "most", .int (1 + rm)), (.inr "stops", .ref l1), (.inr "tape", .ref l0), (.inr "rule", v3)], rfl, by show (5 : Nat) ≤ 15; decide, ?_⟩
            have f14 : Fr [dp] H13 (L2.upd H13 dp (HO.dK (mergeK [] [(.inr "prompt", v4), (.inr "most", .int (1 + rm)), (.inr "stops", .ref l1), (.inr "tape", .ref l0), (.inr "rule", v3)]))) := Fr.upd e13d rfl (.head _)
            have e14 : (L2.upd H13 dp (HO.dK (mergeK [] [(.inr "prompt", v4), (.inr "most", .int (1 + rm)), (.inr "stops", .ref l1), (.inr "tape", .ref l0), (.inr "rule", v3)]))) dp = some (.dK [(.inr "prompt", v4), (.inr "most", .int (1 + rm)), (.inr "stops", .ref l1), (.inr "tape", .ref l0), (.inr "rule", v3)]) := upd_same
            generalize L2.upd H13 dp _ = H14 at f14 e14
            have fB : Fr [pa] H H10 := (f1.trans f2).trans (f6.trans f610)
            have hdn : H dp = none := fB.fresh hdp fun y hy => by rw [List.mem_singleton.mp hy]; exact (p9.keep (F := []) (Fr.same s10) (by simp)).there
            have fC : Fr [pa] H H13 := (fB.trans (Fr.same s11)).trans (f12.trans (Fr.same s13))
            have f613 : Tups H6 H13 := f612.t.trans s13.tups
            refine q H14 dp ⟨pr, 1 + rm, sts', tp, rl⟩ ⟨fC.t.trans f14.t, fun b o hb hbo => f14.k b o (fun z => ?_) (fC.k b o hb hbo)⟩ ((p12.keep (F := []) (Fr.same s13) (by simp)).keep f14 (by simp; exact Ne.symm ndp)) hdn ⟨v4, .ref l1, .ref l0, v3, e14, ((hv4.up f6.t).up f613).up f14.t, (at_tup e13 ((n4.up f612.t).up s13.tups)).up f14.t, c3.up (((s11.tups.trans f12.t).trans s13.tups).trans f14.t), (((hv3.up f2.t).up f6.t).up f613).up f14.t⟩ { p0 := hp0, p1 := by show pr.length ≤ 10; omega, pl := hpr, m0 := by show 1 ≤ 1 + rm; omega, m1 := by show 1 + rm ≤ 8; omega, sn := by show sts'.length ≤ 4; omega, s0 := fun x hx => ⟨(n2 x hx).1, (n2 x hx).2.1⟩, sl := fun x hx => (n2 x hx).2.2, tn := by show tp.length ≤ 3; omega, t0 := t2, rule := hrl }
            obtain rfl : b = dp := by simpa using z
            rw [hdn] at hbo
            cases hbo
      · intro N hN
        obtain ⟨c4, rfl, hc4⟩ := id hv4.vecI
        refine ⟨_, rfl, c4, _, rfl, .inr (SqT.of hc4), rfl, _, rfl, ?_⟩
        rw [List.length_map]
        by_cases z : pr.length = 0
        · rw [z, dec_t (show V.int ((0 : Nat) : Int) = V.int 0 from rfl)]
          refine ⟨_, rfl, _, rfl, _, _, _, rfl, pa, M, 1, rfl, hnt1.up f2.t, rfl, by omega, by decide, p2, fun H3 v ns f3 p3 h1 h2 h3 => ?_⟩
          exact hN _ _ ⟨v, ns, rfl, f2.trans f3, p3, h3, by omega, by omega, by rw [← hL]; exact h2⟩
        · rw [dec_f (show V.int (pr.length : Int) ≠ V.int 0 from fun e => z (by have := V.int.inj e; omega))]
          exact hN _ _ ⟨_, pr, rfl, f2, p2, hv4, by omega, hpl, hpr⟩
    · intro N hN
      refine ⟨_, rfl, _, rfl, _, rfl, lt, _, rfl, .inr (SqT.of hlt1), _, _, rfl, rfl, _, _, rfl, pa, _, rfl, rfl, by rw [List.length_map]; omega, p1, fun H2 r2 a2 b2 f2 p2 => ?_⟩
      obtain ⟨nr, rfl⟩ := Int.eq_ofNat_of_zero_le a2
      refine ⟨_, rfl, slA_at (K := K) (f2.t _ _ rfl hlt1) fun H3 c3 s3 hc3 => ?_⟩
      rw [cut_take, ← List.map_take] at hc3
      refine ⟨_, rfl, _, rfl, _, rfl, _, _, rfl, pa, 4, rfl, rfl, by decide, p2.keep (F := []) (Fr.same s3) (by simp), fun H4 r4 a4 b4 f4 p4 => ?_⟩
      obtain ⟨n4, rfl⟩ := Int.eq_ofNat_of_zero_le a4
      refine ⟨_, _, _, rfl, pa, M, n4, rfl, (((hnt1.up f2.t).up s3.tups).up f4.t), rfl, by omega, by omega, p4, fun H5 v ns f5 p5 g1 g2 g3 => ?_⟩
      obtain ⟨cv, rfl, hcv⟩ := id g3.vecI
      have hc5 := f5.t _ _ rfl (f4.t _ _ rfl hc3)
      refine catA_at (K := K) hc5 hcv (by rw [List.length_map, List.length_map, List.length_take]; omega) fun H6 c6 s6 hc6 => ?_
      rw [← List.map_append] at hc6
      refine hN _ _ ⟨_, _, rfl, (((f2.trans (Fr.same s3)).trans f4).trans f5).trans (Fr.same s6), p5.keep (F := []) (Fr.same s6) (by simp), at_vec hc6, ?_, fun x hx => ?_⟩
      · rw [List.length_append, List.length_take]
        omega
      · rcases List.mem_append.mp hx with hx | hx
        · exact hls x (List.mem_of_mem_take hx)
        · rw [← hL]; exact g2 x hx
  · intro N hN
    refine ⟨_, rfl, _, _, rfl, pa, 5, rfl, rfl, by decide, pp, fun H1 r0 a0 b0 f1 p1 => ⟨rfl, _, rfl, ?_⟩⟩
    generalize decide (V.int r0 = V.int 0) = z
    cases z with
    | false => exact hN _ _ ⟨.non, none, none, none, none, rfl, f1, p1, .non, fun r e => by cases e⟩
    | true =>
      refine ⟨ll0, fun D hD => ?_⟩
      generalize hG : L2.upd H1 D (HO.lst []) = H2
      have I0 : ∀ n : Nat, LcD dOpts (fun r => r.length = L ∧ ∀ y ∈ r, ∀ i : Int, y = some i → 0 ≤ i ∧ i < n) H1 pa D 0 H2 := fun n => by rw [← hG]; exact lcD_0 hD p1
      refine ⟨by decide, fun o1 ho1 => ?_⟩
      obtain ⟨pp2, k2⟩ := mkL (ys := sts) ho1 (I0 0).2.1
      refine ⟨_, rfl, _, _, rfl, pa, 4, rfl, rfl, by decide, pp2, fun H3 r1 a1 b1 f3 p3 => ?_⟩
      obtain ⟨f3', g3⟩ := k2 H3 f3
      obtain ⟨v1, m1, e1⟩ := pick (ys := sts) a1 b1
      refine ⟨o1, _, _, _, rfl, rfl, SqL.of g3, e1, ?_⟩
      obtain ⟨n, rfl, hn1, hn6⟩ := sts_ok v1 m1
      clear e1 m1 a1 b1
      have nDp : D ≠ pa := fun e => p1.there (by rw [← e]; exact hD)
      have I1 : LcD dOpts (fun r => r.length = L ∧ ∀ y ∈ r, ∀ i : Int, y = some i → 0 ≤ i ∧ i < n) H1 pa D 0 H3 := by
        obtain ⟨f, _, ds, ys, h1, h2, h3, h4⟩ := I0 n
        exact ⟨f.trans f3', p3, ds, ys, h1, h2, f3'.k _ _ (by simp; exact nDp) h3, h4.up f3'.t⟩
      refine ⟨_, rfl, (n : Int), rfl, by omega, by omega, for_range (lo := 0) (n := n) (fun i σ H' => ∃ v6, σ = [some (.ref pa), some (.ref en), some (.ref lt), some .non, none, none, v6, none, some (.ref D), some (.int (n : Nat)), none] ∧ LcD dOpts (fun r => r.length = L ∧ ∀ y ∈ r, ∀ i : Int, y = some i → 0 ≤ i ∧ i < n) H1 pa D i H')
        ⟨_, rfl, I1⟩ ?_ ?_⟩
      · rintro i σ H6 hi ⟨v6, rfl, I⟩
        obtain ⟨_, _, _, ys, _, _, hDl, _⟩ := id I
        have fA : Fr [pa] H H6 := f1.trans I.1
        refine ⟨_, rfl, ty_l hDl, ?_⟩
        refine ⟨_, rfl, en, _, _, _, rfl, rfl, SqT.of (fA.t _ _ rfl he), rfl, ce, rfl, ⟨_, SqT.of (fA.t _ _ rfl hce)⟩, fun D2 hD2 => lc_tup (K := K) (a := ce) (xs := xe) (LcD dOpt (fun y => ∀ i : Int, y = some i → 0 ≤ i ∧ i < n) H6 pa D2) (lcD_0 hD2 I.2.1) (fun k H7 _ I2 => SqT.of (I2.1.t _ _ rfl (fA.t _ _ rfl hce))) (fun k x H7 hx I2 => ?_) fun H7 I2 => ?_⟩
        · have hk := (List.getElem?_eq_some_iff.mp hx).1
          refine ⟨rfl, _, rfl, _, _, rfl, rfl, by show (4 : Nat) ≤ sizeLine; decide, fun o ho => ?_⟩
          obtain ⟨pp7, k7⟩ := mkL (ys := [V.non, V.int 0, V.int 1, V.int ((n : Int) - 1)]) ho I2.2.1
          refine ⟨_, rfl, _, _, rfl, pa, 4, rfl, rfl, by decide, pp7, fun H8 r a b f8 p8 => ?_⟩
          obtain ⟨f8', g8⟩ := k7 H8 f8
          obtain ⟨v, m, e⟩ := pick (ys := [V.non, V.int 0, V.int 1, V.int ((n : Int) - 1)]) a b
          refine ⟨o, _, _, _, rfl, rfl, SqL.of g8, e, ?_⟩
          obtain ⟨y, hy, hy2⟩ : ∃ y : Option Int, (∀ i : Int, y = some i → 0 ≤ i ∧ i < n) ∧ At H8 v (dOpt y) := by
            simp only [List.mem_cons, List.not_mem_nil, or_false] at m
            rcases m with rfl | rfl | rfl | rfl
            · exact ⟨none, fun i z => (by cases z), .non⟩
            · exact ⟨some 0, fun i z => (by cases z; omega), .int _⟩
            · exact ⟨some 1, fun i z => (by cases z; omega), .int _⟩
            · exact ⟨some ((n : Int) - 1), fun i z => (by cases z; omega), .int _⟩
          exact lcD_step hD2 I.2.1 I2 f8' p8 hy hy2 (by omega)
        · obtain ⟨f8, p8, ds, ys2, c1, c2, h3, h4⟩ := I2
          refine ⟨D2, ys2, rfl, .inl ⟨SqL.of h3, fun l0 hl0 => ?_⟩⟩
          generalize hG : L2.upd H7 l0 (HO.tup ys2) = H8
          obtain ⟨s8, e8⟩ := gen_new hl0 hG
          have c3 : At H8 (.ref l0) (dOpts ds) := at_tup e8 (h4.up s8.tups)
          obtain ⟨acc, s1, s2, s3⟩ := lcD_step (enc := dOpts) (x := ds) hD p1 I (f8.trans (Fr.same s8)) (p8.keep (F := []) (Fr.same s8) (by simp)) ⟨by rw [c1, hxe], c2⟩ c3 (by omega)
          exact ⟨D, acc, _, rfl, rfl, s1, s2, _, rfl, s3⟩
      · rintro σ H6 ⟨v6, rfl, I⟩
        refine ⟨_, rfl, _, rfl, _, _, rfl, pa, (n : Int), rfl, rfl, by omega, I.2.1, fun H7 r a b f7 p7 => ?_⟩
        obtain ⟨f6, _, ds, ys, c1, c2, h3, h4⟩ := id I
        have h3' := f7.k _ _ (by simp; exact nDp) h3
        refine ⟨_, rfl, D, ys, rfl, .inl ⟨SqL.of h3', fun l0 hl0 => ?_⟩⟩
        generalize hG : L2.upd H7 l0 (HO.tup ys) = H8
        obtain ⟨s8, e8⟩ := gen_new hl0 hG
        refine ⟨ll2, fun l1 hl1 => ?_⟩
        generalize hG : L2.upd H8 l1 _ = H9
        obtain ⟨s9, e9⟩ := gen_new hl1 hG
        refine hN _ _ ⟨_, some ⟨r, ds⟩, _, _, _, rfl, (((f1.trans I.1).trans f7).trans (Fr.same s8)).trans (Fr.same s9), (p7.keep (F := []) (Fr.same s8) (by simp)).keep (F := []) (Fr.same s9) (by simp), at_tup e9 (.cons (.int _) (.cons ((at_tup e8 ((h4.up f7.t).up s8.tups)).up s9.tups) .nil)), fun r' e => ?_⟩
        cases e
        exact ⟨by show ds.length ≤ 10; omega, a, by show r < (ds.length : Int); rw [c1]; exact b, fun x hx => (c2 x hx).1, fun x hx y hy i hyi => by
          show 0 ≤ i ∧ i < (ds.length : Int)
          rw [c1]
          exact (c2 x hx).2 y hy i hyi⟩
end
end Sv
end
section
set_option autoImplicit false
set_option linter.all false
set_option maxRecDepth 100000
set_option maxHeartbeats 1000000
/-! The law's own words in plain Lean: what is let, the first greatest, the rest, the longest stop. -/
namespace Sv
def letL (rule : Option RuleM) (t : List Int) (n : Nat) : List Int := match rule with
  | none => List.replicate n 1
  | some r => match afterM r t with
    | none => List.replicate n 0
    | some s => (r.steps.getD s.toNat []).map fun g => if g.isSome then 1 else 0
theorem letL_0 {r : RuleM} {t : List Int} (n : Nat) (h : afterM r t = none) : letL (some r) t n = List.replicate n 0 := by simp [letL, h]
theorem letL_1 {r : RuleM} {t : List Int} {s : Int} (n : Nat) (h : afterM r t = some s) : letL (some r) t n = (r.steps.getD s.toNat []).map fun g => if g.isSome then 1 else 0 := by simp [letL, h]
theorem letL_len {rule : Option RuleM} {L : Nat} (ok : ∀ r, rule = some r → RuleOk r L) (t : List Int) : (letL rule t L).length = L := by
  cases rule with
  | none => simp [letL]
  | some r =>
    have k := ok r rfl
    cases e : afterM r t with
    | none => rw [letL_0 L e]; simp
    | some s =>
      obtain ⟨h0, h1⟩ := afterM_in k t s e
      have hs : s.toNat < r.steps.length := by omega
      rw [letL_1 L e, List.length_map, List.getD_eq_getElem?_getD, List.getElem?_eq_getElem hs]
      exact k.w _ (List.getElem_mem hs)
theorem letM_eq {rule : Option RuleM} {L : Nat} (ok : ∀ r, rule = some r → RuleOk r L) {ws : List Int} (hl : ws.length = L) (t : List Int) : letM rule ws t = List.zipWith (· * ·) ws (letL rule t L) := by
  apply List.ext_getElem?
  intro i
  rw [List.getElem?_zipWith]
  by_cases hi : i < ws.length
  · have hiL : i < L := by omega
    cases rule with
    | none =>
      have eb : (letL none t L)[i]? = some 1 := by show (List.replicate L (1 : Int))[i]? = _; rw [List.getElem?_replicate, if_pos hiL]
      rw [eb]
      show ws[i]? = _
      rw [List.getElem?_eq_getElem hi]
      show some ws[i] = some (ws[i] * 1)
      rw [Int.mul_one]
    | some r =>
      have k := ok r rfl
      have e1 : letsM r t (i : Int) = (stepM r (afterM r t) (i : Int)).isSome := by unfold letsM; rw [afterM_snoc]
      have eb : (letL (some r) t L)[i]? = some (if letsM r t (i : Int) = true then 1 else 0) := by
        rw [e1]
        cases e : afterM r t with
        | none =>
          rw [letL_0 L e, List.getElem?_replicate, if_pos hiL]
          rfl
        | some s =>
          obtain ⟨h0, h1⟩ := afterM_in k t s e
          have hs : s.toNat < r.steps.length := by omega
          have hw := k.w _ (List.getElem_mem hs)
          have e2 : stepM r (some s) (i : Int) = r.steps[s.toNat][i] := by
            simp only [stepM, Int.toNat_natCast, List.getD_eq_getElem?_getD]
            rw [List.getElem?_eq_getElem hs]
            simp only [Option.getD_some]
            rw [List.getElem?_eq_getElem (show i < r.steps[s.toNat].length by omega)]
            rfl
          rw [letL_1 L e, List.getElem?_map, List.getD_eq_getElem?_getD, List.getElem?_eq_getElem hs, Option.getD_some, List.getElem?_eq_getElem (show i < r.steps[s.toNat].length by omega)]
          simp only [e2, Option.map_some]
      rw [eb]
      show (ws.mapIdx fun i w => w * (if letsM r t (i : Int) then 1 else 0))[i]? = _
      rw [List.getElem?_mapIdx, List.getElem?_eq_getElem hi]
      rfl
  · rw [List.getElem?_eq_none (by rw [letM_len]; omega), List.getElem?_eq_none (by omega)]
/-- the first of the greatest -/
theorem greatM_max (ws : List Int) : ∀ i, (∀ k, k < i → ws.getD k 0 ≤ ws.getD (greatM ws i) 0) ∧ ∀ k, k < greatM ws i → ws.getD k 0 < ws.getD (greatM ws i) 0
  | 0 => ⟨fun k h => absurd h (Nat.not_lt_zero _), fun k h => absurd h (Nat.not_lt_zero _)⟩
  | i + 1 => by
    obtain ⟨a, b⟩ := greatM_max ws i
    unfold greatM
    split
    · rename_i h
      refine ⟨fun k hk => ?_, fun k hk => ?_⟩
      · by_cases e : k = i
        · rw [e]; exact Int.le_refl _
        · have := a k (by omega); omega
      · have := a k hk; omega
    · rename_i h
      refine ⟨fun k hk => ?_, b⟩
      by_cases e : k = i
      · rw [e]; omega
      · exact a k (by omega)
theorem greatM_first {ws : List Int} (h : 0 < ws.length) {m : Int} (hm : m ∈ ws) (hle : ∀ y ∈ ws, y ≤ m) :
    ∃ z, ws[greatM ws ws.length]? = some z ∧ z = m ∧ ∀ k z', k < greatM ws ws.length → ws[k]? = some z' → z' ≠ m := by
  have hl := greatM_lt h _ (Nat.le_refl ws.length)
  obtain ⟨a, b⟩ := greatM_max ws ws.length
  have eg : ws.getD (greatM ws ws.length) 0 = ws[greatM ws ws.length] := by rw [List.getD_eq_getElem?_getD, List.getElem?_eq_getElem hl]; rfl
  have hz := hle _ (List.getElem_mem hl)
  obtain ⟨j, hj, ej⟩ := List.mem_iff_getElem.mp hm
  have h1 := a j hj
  have e1 : ws.getD j 0 = m := by rw [List.getD_eq_getElem?_getD, List.getElem?_eq_getElem hj, ← ej]; rfl
  rw [eg, e1] at h1
  have e2 : ws[greatM ws ws.length] = m := by omega
  refine ⟨_, List.getElem?_eq_getElem hl, e2, fun k z' hk ez e => ?_⟩
  have h2 := b k hk
  rw [eg, e2, List.getD_eq_getElem?_getD, ez, e] at h2
  exact absurd h2 (Int.lt_irrefl _)
/-! ### the longest stop -/
def tailIs (t s : List Int) : Bool := decide (t.drop (t.length - s.length) = s)
theorem tailIs_le {t s : List Int} (h : tailIs t s = true) : s.length ≤ t.length := by
  have h := of_decide_eq_true h
  have h2 := congrArg List.length h
  rw [List.length_drop] at h2
  omega
theorem stopM_char (t : List Int) : ∀ stops : List (List Int), (∀ s ∈ stops, tailIs t s = true → s.length ≤ stopM stops t) ∧ (stopM stops t = 0 ∨ ∃ s ∈ stops, tailIs t s = true ∧ stopM stops t = s.length) := by
  refine snocInd ⟨by simp, .inl rfl⟩ fun stops s ih => ?_
  obtain ⟨a, b⟩ := ih
  rw [stopM_snoc]
  by_cases h : stopM stops t < s.length ∧ s.length ≤ t.length ∧ t.drop (t.length - s.length) = s
  · rw [if_pos h]
    refine ⟨fun x hx hx2 => ?_, .inr ⟨s, by simp, decide_eq_true h.2.2, rfl⟩⟩
    rcases List.mem_append.mp hx with hx | hx
    · have := a x hx hx2; omega
    · rw [List.mem_singleton.mp hx]; exact Nat.le_refl _
  · rw [if_neg h]
    refine ⟨fun x hx hx2 => ?_, ?_⟩
    · rcases List.mem_append.mp hx with hx | hx
      · exact a x hx hx2
      · obtain rfl := List.mem_singleton.mp hx
        have h1 := tailIs_le hx2
        have h2 := of_decide_eq_true hx2
        apply Classical.byContradiction
        intro h3
        exact h ⟨by omega, h1, h2⟩
    · rcases b with b | ⟨x, h1, h2, h3⟩
      · exact .inl b
      · exact .inr ⟨x, List.mem_append_left _ h1, h2, h3⟩
/-- the greatest of 0 and the lengths of the stops behind t -/
theorem stopM_max {t : List Int} {stops : List (List Int)} {m : Int} (hm : m ∈ [0] ++ (stops.filter (tailIs t)).map fun s => (s.length : Int)) (hle : ∀ y ∈ [0] ++ (stops.filter (tailIs t)).map fun s => (s.length : Int), y ≤ m) : m = (stopM stops t : Nat) := by
  obtain ⟨a, b⟩ := stopM_char t stops
  have h0 := hle 0 (by simp)
  have h1 : m ≤ (stopM stops t : Nat) := by
    rcases List.mem_append.mp hm with hm | hm
    · rw [List.mem_singleton.mp hm]; omega
    · obtain ⟨s, hs, rfl⟩ := List.mem_map.mp hm
      obtain ⟨h1, h2⟩ := List.mem_filter.mp hs
      exact Int.ofNat_le.mpr (a s h1 h2)
  have h2 : ((stopM stops t : Nat) : Int) ≤ m := by
    rcases b with b | ⟨s, h1, h2, h3⟩
    · rw [b]; exact h0
    · rw [h3]
      exact hle _ (List.mem_append_right _ (List.mem_map.mpr ⟨s, List.mem_filter.mpr ⟨h1, h2⟩, rfl⟩))
  omega
/-! ### what is written is determined -/
abbrev nxT (M : NetM) (a : AskM) (t : List Int) : List Int × Option Wd := nextM M.fin a t (wts M (a.prompt ++ t))
theorem reach_pre {M : NetM} {a : AskM} {t : List Int} {wd : Option Wd} (h : Reach M a t wd) : wd = none → ∀ n, n < t.length → nxT M a (t.take n) = (t.take (n + 1), none) := by
  induction h with
  | start => intro _ n hn; exact absurd hn (Nat.not_lt_zero _)
  | @step t0 h0 ih =>
    intro e n hn
    obtain ⟨l, e1, e2, e3⟩ := nextM_none e
    rw [e2] at hn ⊢
    rw [List.length_append] at hn
    have hn' : n < t0.length + 1 := hn
    by_cases hl : n < t0.length
    · rw [List.take_append_of_le_length (by omega), List.take_append_of_le_length (by omega)]
      exact ih rfl n hl
    · obtain rfl : n = t0.length := by omega
      have h1 : (t0 ++ [l]).take t0.length = t0 := by rw [List.take_left']; rfl
      have h2 : (t0 ++ [l]).take (t0.length + 1) = t0 ++ [l] := List.take_of_length_le (by rw [List.length_append]; exact Nat.le_refl _)
      rw [h1, h2]
      exact Prod.ext e2 e
theorem reach_same {M : NetM} {a : AskM} {t u : List Int} (h : Reach M a t none) (g : Reach M a u none) : ∀ n, n ≤ t.length → n ≤ u.length → t.take n = u.take n
  | 0, _, _ => by simp
  | n + 1, h1, h2 => by
    have ih := reach_same h g n (by omega) (by omega)
    have e1 := reach_pre h rfl n h1
    have e2 := reach_pre g rfl n h2
    rw [ih, e2] at e1
    exact (congrArg Prod.fst e1).symm
theorem reach_end {M : NetM} {a : AskM} {t u : List Int} (h : Reach M a t none) (g : Reach M a u none) (e : (nxT M a t).2 ≠ none) : u.length ≤ t.length := by
  apply Classical.byContradiction
  intro hl
  have e1 := reach_pre g rfl t.length (by omega)
  have e2 := reach_same h g t.length (Nat.le_refl _) (by omega)
  rw [List.take_length] at e2
  rw [← e2] at e1
  exact e (congrArg Prod.snd e1)
theorem reach_word {M : NetM} {a : AskM} {t : List Int} {wd : Option Wd} (h : Reach M a t wd) : ∀ x, wd = some x → ∃ u, Reach M a u none ∧ nxT M a u = (t, some x) := by
  induction h with
  | start => intro x e; cases e
  | @step t0 h0 ih =>
    intro x e
    exact ⟨t0, h0, Prod.ext rfl e⟩
/-- what the law reckons for an ask alone: text, word, letters -/
structure AloneM where
  t : List Int
  wd : Wd
  ls : List Int
structure AloneS (M : NetM) (a : AskM) (x : AloneM) : Prop where
  ex : ∃ u, Reach M a u none ∧ nxT M a u = (x.t, some x.wd) ∧ (((x.wd = .stop ∨ x.wd = .most) ∧ ∃ c, x.ls = u ++ [c]) ∨ ((x.wd = .stuck ∨ x.wd = .fin) ∧ x.ls = u))
theorem AloneS.going {M : NetM} {a : AskM} {x : AloneM} (s : AloneS M a x) {t : List Int} (h : Reach M a t none) : x.ls.take t.length = t ∧ ¬(t.length = x.ls.length ∧ (x.wd = .stop ∨ x.wd = .most)) := by
  obtain ⟨u, hu, e, c⟩ := s.ex
  have hl := reach_end hu h (by rw [e]; nofun)
  have e2 := reach_same hu h t.length hl (Nat.le_refl _)
  rw [List.take_length] at e2
  rcases c with ⟨c1, l, c2⟩ | ⟨c1, c2⟩
  · rw [c2, List.take_append_of_le_length hl]
    refine ⟨e2, fun z => ?_⟩
    have := z.1
    rw [List.length_append] at this
    have : t.length = u.length + 1 := this
    omega
  · rw [c2]
    refine ⟨e2, fun z => ?_⟩
    rcases c1 with c1 | c1 <;> rcases z.2 with z | z <;> rw [c1] at z <;> cases z
theorem AloneS.ended {M : NetM} {a : AskM} {x : AloneM} (s : AloneS M a x) {t : List Int} {wd : Wd} (h : Reach M a t (some wd)) : t = x.t ∧ wd = x.wd := by
  obtain ⟨u, hu, e, c⟩ := s.ex
  obtain ⟨v, hv, e'⟩ := reach_word h wd rfl
  have l1 := reach_end hu hv (by rw [e]; nofun)
  have l2 := reach_end hv hu (by rw [e']; nofun)
  have e2 := reach_same hu hv u.length (Nat.le_refl _) l2
  rw [List.take_length, List.take_of_length_le l1] at e2
  rw [e2, e'] at e
  exact ⟨congrArg Prod.fst e, Option.some.inj (congrArg Prod.snd e)⟩
end Sv
end
section
set_option Elab.async false
set_option linter.all false
set_option maxRecDepth 100000
set_option maxHeartbeats 4000000
/-! The law's ask as the program's; what is let; the choice. -/
namespace Sv
open PySem PySem.Spec PyProof.Rows L2 HotX
theorem ruleI {H : Hp} {v : V} {rl : Option RuleM} (h : At H v (dRule rl)) : (rl = none ∧ v = .non) ∨ ∃ r e vs, rl = some r ∧ v = .ref e ∧ H e = some (.tup [.int r.start, vs]) ∧ At H vs (dSteps r.steps) := by
  cases rl with
  | none => exact .inl ⟨rfl, h.nonI⟩
  | some r =>
    obtain ⟨e, xs, rfl, he, hx⟩ := At.tupI (show At H v (.tuple [.int r.start, dSteps r.steps]) from h)
    cases hx with
    | cons h1 hx =>
    cases hx with
    | cons h2 hx =>
    cases hx
    obtain rfl := h1.intI
    exact .inr ⟨r, e, _, rfl, rfl, he, h2⟩
def p_law_as_ask (K : PySem.W.Frag) : P1 := fun a H Q => ∃ (d : Addr) (k : AskM) (L : Nat), a = .ref d ∧ AskT H d k ∧ AskOk k L ∧ ∀ H' ap, Same H H' → AskAt K H' ap k → Q (.ref ap) H'
def p_law_let : P3 := fun a b c H Q => ∃ (rl : Option RuleM) (L : Nat) (q2 : Addr) (t : List Int), At H a (dRule rl) ∧ (∀ r, rl = some r → RuleOk r L) ∧ b = .ref q2 ∧ H q2 = some (.tup (t.map V.int)) ∧ (∀ x ∈ t, 0 ≤ x ∧ x < (L : Int)) ∧ c = .int (L : Nat) ∧ L ≤ 1000 ∧
  ∀ H' D, Same H H' → H D = none → H' D = some (.lst ((letL rl t L).map V.int)) → Q (.ref D) H'
def p_law_choice : P3 := fun a b c H Q => ∃ (d q1 q2 : Addr) (k : AskM) (L : Nat) (ws t : List Int), a = .ref d ∧ AskT H d k ∧ (∀ r, k.rule = some r → RuleOk r L) ∧ b = .ref q1 ∧ H q1 = some (.tup (ws.map V.int)) ∧ ws.length = L ∧ L ≤ 1000 ∧ (∀ x ∈ ws, 1 ≤ x ∧ x ≤ 97) ∧
  c = .ref q2 ∧ H q2 = some (.tup (t.map V.int)) ∧ (∀ x ∈ t, 0 ≤ x ∧ x < (L : Int)) ∧ ∀ H' v, Same H H' → At H' v (dOpt (choiceM k ws t)) → Q v H'
section
variable {P : Program} {w : World} {K : PySem.W.Frag} {mg : Str → Option Value} {base : Heap}
abbrev N_law_as_ask : List Str := ["_law_ask_here", "_law_rule"]
theorem sc_law_as_ask : FnScope N_law_as_ask ["_law_ask_here"] (defScope s_law_as_ask) := ⟨rfl, rfl, rfl, by decide +kernel, rfl, by decide +kernel, by decide +kernel⟩
theorem ok_law_as_ask (T : Txt K mg) : GFn P w K mg base 4 "_law_as_ask" ["_law_ask_here"] (Sp1 (p_law_as_ask K)) := by
  refine gfn T.d_law_as_ask T.g_law_as_ask sc_law_as_ask (fun _ _ _ _ _ _ us hl => match us, hl with | [_], _ => rfl) len1 fun cdv A outer s H vs Q E hr h => ?_
  obtain ⟨a0, rfl, h⟩ := h
  refine ⟨_, pss_cons (ps_set (i := 1) sc_law_as_ask.nd rfl (Or.inl rfl) (pe_non))
      (pss_cons (ps_if (pt_cmp (pc_notN (pe_dget (hu_of hr) (pv 0) (pe_str) (fun _ _ => rfl)))) (pss_one (ps_set (i := 1) sc_law_as_ask.nd rfl (Or.inl rfl) (pe_c (ok_Rule_init T) (hr.mono (by decide)) (pa_cons (pe_ix ix_tup (pe_dget (hu_of hr) (pv 0) (pe_str) (fun _ _ => rfl)) (pe_int) (fun _ _ => rfl)) (pa_cons (pe_ix ix_tup (pe_dget (hu_of hr) (pv 0) (pe_str) (fun _ _ => rfl)) (pe_int) (fun _ _ => rfl)) pa_nil))))) (pss_nil))
      (pss_one (ps_ret (pe_cK (ok_Ask_init T) (hr.mono (by decide)) (pa_cons (pe_dget (hu_of hr) (pv 0) (pe_str) (fun _ _ => rfl)) (pa_cons (pe_dget (hu_of hr) (pv 0) (pe_str) (fun _ _ => rfl)) pa_nil)) (pk_cons (pe_dget (hu_of hr) (pv 0) (pe_str) (fun _ _ => rfl)) (pk_cons (pe_dget (hu_of hr) (pv 0) (pe_str) (fun _ _ => rfl)) (pk_cons (pv 1) pk_nil))))))), ?_⟩
  obtain ⟨d, k, L, rfl, ha, ok, q⟩ := h
  obtain ⟨v1, v2, v3, v4, hd, h1, h2, h3, h4⟩ := id ha.ex
  refine seq_cut (fun σ' H' => σ' = [some (.ref d), some .non] ∧ H' = H) ?_ fun N hN => hN _ _ ⟨rfl, rfl⟩
  rintro σ0 H0 ⟨rfl, e0⟩
  rw [e0]
  clear e0 H0
  refine seq_cut (fun σ' H' => ∃ v, σ' = [some (.ref d), some v] ∧ Same H H' ∧ RuleV K H' v k.rule) ?_ ?_
  · rintro σ H1 ⟨v, rfl, s1, hv⟩
    have hd1 := s1 _ _ hd
    refine ⟨_, rfl, d, _, rfl, DGet.k (k := .inr "prompt") hd1, _, rfl, d, _, rfl, DGet.k (k := .inr "most") hd1, _, rfl, d, _, rfl, DGet.k (k := .inr "stops") hd1, _, rfl, d, _, rfl, DGet.k (k := .inr "tape") hd1, _, rfl, rfl, rfl, fun x dx hx hdx hne => ?_⟩
    generalize hG : L2.upd (L2.upd H1 dx _) x _ = H2
    obtain ⟨s2, e2⟩ := make_same hG hx hdx hne
    have s12 := s1.trans s2
    have nx0 := s1.free hx
    have m0 := ok.m0
    have m1 := ok.m1
    have sn := ok.sn
    exact ⟨_, _, _, _, _, _, rfl, x, dx, k, rfl, e2, h1.up s12.tups, rfl, m0, by omega, h2.up s12.tups, by omega, h3.up s12.tups, hv.keep s2.tups, fun H3 f3 hA => ⟨rfl, q H3 x (fun b o z => f3.k b o (by simp; exact ne_of_none z nx0) (s12 _ _ z)) hA⟩⟩
  · intro N hN
    refine ⟨_, rfl, d, _, rfl, DGet.k (k := .inr "rule") hd, ?_⟩
    rcases ruleI h4 with ⟨er, rfl⟩ | ⟨r, e, vs, er, rfl, he, hs⟩
    · refine ⟨_, rfl, hN _ _ ⟨_, rfl, Same.refl _, ?_⟩⟩
      rw [er]
      rfl
    · refine ⟨_, rfl, ?_⟩
      refine ⟨_, rfl, d, _, rfl, DGet.k (k := .inr "rule") hd, e, _, _, _, rfl, rfl, SqT.of he, rfl, _, rfl, d, _, rfl, DGet.k (k := .inr "rule") hd, e, _, _, _, rfl, rfl, SqT.of he, rfl, fun x dx hx hdx hne => ?_⟩
      generalize hG : L2.upd (L2.upd H dx _) x _ = H2
      obtain ⟨s2, e2⟩ := make_same hG hx hdx hne
      have hn := (ok.rule r er).n
      exact ⟨_, _, _, rfl, x, dx, r, rfl, e2, rfl, hs.up s2.tups, by omega, fun H3 f3 hA => ⟨rfl, hN _ _ ⟨_, rfl, fun b o z => f3.k b o (by simp; exact ne_of_none z hx) (s2 _ _ z), by rw [er]; exact ⟨x, rfl, hA⟩⟩⟩⟩
abbrev N_law_let : List Str := ["_law_rule", "_law_text", "_law_many", "_law_state", "_law_letter", "_law_goal", "_law_k"]
theorem sc_law_let : FnScope N_law_let ["_law_rule", "_law_text", "_law_many"] (defScope s_law_let) := ⟨rfl, rfl, rfl, by decide +kernel, rfl, by decide +kernel, by decide +kernel⟩
theorem ok_law_let (T : Txt K mg) : GFn P w K mg base 1 "_law_let" ["_law_rule", "_law_text", "_law_many"] (Sp3 p_law_let) := by
  refine gfn T.d_law_let T.g_law_let sc_law_let (fun _ _ _ _ _ _ us hl => match us, hl with | [_, _, _], _ => rfl) len3 fun cdv A outer s H vs Q E hr h => ?_
  obtain ⟨a0, a1, a2, rfl, h⟩ := h
  refine ⟨_, pss_cons (ps_if (pt_cmp (pc_isN (pv 0))) (pss_one (ps_ret (pe_lc (own := [("_law_k", 6)]) rfl sc_law_let.nd (pi_range1 (by rfl) T.b_range (pa_cons (pv 2) pa_nil)) (blkOk_by (N := N_law_let) (sc := defScope s_law_let) (by decide +kernel)) (fun _ _ _ _ _ => pg_name (i := 6) sc_law_let.nd rfl (Or.inl rfl) (hf := Or.inr rfl)) (fun _ _ _ _ _ => pts_nil) (fun _ _ _ _ _ => pe_int)))) (pss_nil))
      (pss_cons (ps_set (i := 3) sc_law_let.nd rfl (Or.inl rfl) (pe_ix ix_tup (pv 0) (pe_int) (fun _ _ => rfl)))
      (pss_cons (ps_for PassesOwn.never rfl (pi_tup (pv 1)) (pg_name (i := 4) sc_law_let.nd rfl (Or.inl rfl))
      (pss_one (ps_if (pt_cmp (pc_notN (pv 3))) (pss_one (ps_set (i := 3) sc_law_let.nd rfl (Or.inl rfl) (pe_ix ix_tup (pe_ix ix_tup (pe_ix ix_tup (pv 0) (pe_int) (fun _ _ => rfl)) (pv 3) (fun _ _ => rfl)) (pv 4) (fun _ _ => rfl)))) (pss_nil))))
      (pss_cons (ps_if (pt_cmp (pc_isN (pv 3))) (pss_one (ps_ret (pe_lc (own := [("_law_k", 6)]) rfl sc_law_let.nd (pi_range1 (by rfl) T.b_range (pa_cons (pv 2) pa_nil)) (blkOk_by (N := N_law_let) (sc := defScope s_law_let) (by decide +kernel)) (fun _ _ _ _ _ => pg_name (i := 6) sc_law_let.nd rfl (Or.inl rfl) (hf := Or.inr rfl)) (fun _ _ _ _ _ => pts_nil) (fun _ _ _ _ _ => pe_int)))) (pss_nil))
      (pss_one (ps_ret (pe_lc (own := [("_law_goal", 5)]) rfl sc_law_let.nd (pi_tup (pe_ix ix_tup (pe_ix ix_tup (pv 0) (pe_int) (fun _ _ => rfl)) (pv 3) (fun _ _ => rfl))) (blkOk_by (N := N_law_let) (sc := defScope s_law_let) (by decide +kernel)) (fun _ _ _ _ _ => pg_name (i := 5) sc_law_let.nd rfl (Or.inl rfl) (hf := Or.inr rfl)) (fun _ _ _ _ _ => pts_nil) (fun _ _ _ _ _ => pe_callTy call_int1 (by rfl) T.b_int (by decide +kernel) (pa_cons (pe_cmp (pc_notN (pv 5))) pa_nil)))))))), ?_⟩
  obtain ⟨rl, L, q2, t, hrl, ok, rfl, hq2, ht, rfl, hL, q⟩ := h
  rcases ruleI hrl with ⟨er, rfl⟩ | ⟨r, e, vs, er, rfl, he, hs⟩
  · subst er
    refine ⟨_, rfl, _, rfl, _, rfl, (L : Int), rfl, by omega, by omega, fun D hD => lcd_range (n := L) (ds1 := (List.replicate L (1 : Int)).map .int) hD (by simp) (by simp; omega) (fun k H2 hk s2 kp => ⟨rfl, kp _ _ _ ?_ (Same.refl _) (.int _)⟩) fun H2 ys h1 h2 s2 => q _ D s2 hD (by rw [h1, h2.intsI]; rfl)⟩
    rw [List.getElem?_map, List.getElem?_replicate, if_pos hk]
    rfl
  · subst er
    have okr := ok r rfl
    refine ⟨_, rfl, _, rfl, _, rfl, e, _, _, _, rfl, rfl, SqT.of he, rfl, ?_⟩
    obtain ⟨c, xs, rfl, hc, rc⟩ := hs.tupI
    refine ⟨_, rfl, q2, rfl, ⟨_, SqT.of hq2⟩, for_tup (K := K) (a := q2) (xs := t.map V.int) (fun i σ H' => ∃ v3 v4, σ = [some (.ref e), some (.ref q2), some (.int (L : Nat)), some v3, v4, none, none] ∧ H' = H ∧ At H v3 (dOpt (afterM r (t.take i))))
      ⟨_, none, rfl, rfl, .int _⟩ (fun i σ H' _ I => ?_) (fun i x σ H' hx I => ?_) fun σ H' I => ?_⟩
    · obtain ⟨_, _, _, rfl, _⟩ := I
      exact SqT.of hq2
    · obtain ⟨v3, v4, rfl, rfl, h2⟩ := I
      obtain ⟨l, el, rfl⟩ := map_get hx
      have hl := ht l (List.mem_of_getElem? el)
      rcases dOpt_cases h2 with ⟨e0, rfl⟩ | ⟨i2, e0, rfl⟩
      · refine ⟨_, rfl, _, rfl, ?_⟩
        refine ⟨_, _, rfl, rfl, ?_⟩
        rw [take_snoc el, afterM_snoc, e0]
        exact .non
      · obtain ⟨b0, b1⟩ := afterM_in okr _ _ e0
        obtain ⟨j, rfl⟩ := Int.eq_ofNat_of_zero_le b0
        obtain ⟨k, rfl⟩ := Int.eq_ofNat_of_zero_le hl.1
        have hj : j < r.steps.length := by omega
        obtain ⟨v3, g1, g2⟩ := rc.getD (getMap (f := dOpts) (List.getElem?_eq_getElem hj))
        obtain ⟨c3, zs, rfl, hc3, rz⟩ := g2.tupI
        have hk : k < r.steps[j].length := by
          rw [okr.w _ (List.getElem_mem hj)]; omega
        obtain ⟨v4, g3, g4⟩ := rz.getD (getMap (f := dOpt) (List.getElem?_eq_getElem hk))
        refine ⟨_, rfl, _, rfl, ?_⟩
        refine ⟨_, rfl, e, _, _, _, rfl, rfl, SqT.of he, rfl, _, rfl, c, _, _, _, rfl, rfl, SqT.of hc, atI_nat g1, _, rfl, c3, _, _, _, rfl, rfl, SqT.of hc3, atI_nat g3, _, _, rfl, rfl, ?_⟩
        have e2 : afterM r (t.take (i + 1)) = r.steps[j][k] := by
          rw [take_snoc el, afterM_snoc, e0]
          unfold stepM
          simp only [Int.toNat_natCast, List.getD_eq_getElem?_getD]
          rw [List.getElem?_eq_getElem hj]
          simp only [Option.getD_some]
          rw [List.getElem?_eq_getElem hk]
          rfl
        rw [e2]
        exact g4
    · obtain ⟨v3, v4, rfl, rfl, h2⟩ := I
      rw [List.length_map, List.take_length] at h2
      rcases dOpt_cases h2 with ⟨e0, rfl⟩ | ⟨i2, e0, rfl⟩
      · refine ⟨_, rfl, _, rfl, _, rfl, (L : Int), rfl, by omega, by omega, fun D hD => lcd_range (n := L) (ds1 := (List.replicate L (0 : Int)).map .int) hD (by simp) (by simp; omega) (fun k H2 hk s2 kp => ⟨rfl, kp _ _ _ ?_ (Same.refl _) (.int _)⟩) fun H2 ys h1 h2 s2 => q _ D s2 hD (by rw [h1, h2.intsI, letL_0 L e0])⟩
        rw [List.getElem?_map, List.getElem?_replicate, if_pos hk]
        rfl
      · obtain ⟨b0, b1⟩ := afterM_in okr _ _ e0
        obtain ⟨j, rfl⟩ := Int.eq_ofNat_of_zero_le b0
        have hj : j < r.steps.length := by omega
        obtain ⟨v3, g1, g2⟩ := rc.getD (getMap (f := dOpts) (List.getElem?_eq_getElem hj))
        obtain ⟨c3, zs, rfl, hc3, rz⟩ := g2.tupI
        have hw := okr.w _ (List.getElem_mem hj)
        have eL : letL (some r) t L = r.steps[j].map fun g => if g.isSome then 1 else 0 := by
          rw [letL_1 L e0, List.getD_eq_getElem?_getD, Int.toNat_natCast, List.getElem?_eq_getElem hj]
          rfl
        refine ⟨_, rfl, _, rfl, ?_⟩
        refine ⟨_, rfl, e, _, _, _, rfl, rfl, SqT.of he, rfl, _, rfl, c, _, _, _, rfl, rfl, SqT.of hc, atI_nat g1, c3, rfl, ⟨_, SqT.of hc3⟩, fun D hD => lcd_tup (K := K) (ds1 := (letL (some r) t L).map .int) hD hc3 rz (by rw [List.length_map, List.length_map, letL_len ok, hw]) (by rw [List.length_map, letL_len ok]; exact hL) (fun i x d H1 hd hx s1 kp => ?_) fun H1 ys h1 h2 s1 => q _ D s1 hD (by rw [h1, h2.intsI])⟩
        obtain ⟨g, eg, rfl⟩ := map_get hd
        refine ⟨rfl, _, rfl, ?_⟩
        have ei : ((letL (some r) t L).map PyData.int)[i]? = some (.int (if g.isSome then 1 else 0)) := by rw [eL, List.map_map, List.getElem?_map, eg]; rfl
        rcases dOpt_cases hx with ⟨rfl, rfl⟩ | ⟨i3, rfl, rfl⟩
        · exact .inr ⟨_, rfl, kp _ _ _ ei (Same.refl _) (.int _)⟩
        · exact .inr ⟨_, rfl, kp _ _ _ ei (Same.refl _) (.int _)⟩
abbrev N_law_choice : List Str := ["_law_ask_here", "_law_weights", "_law_text", "_law_let_here", "_law_left", "_law_rest", "_law_k"]
theorem sc_law_choice : FnScope N_law_choice ["_law_ask_here", "_law_weights", "_law_text"] (defScope s_law_choice) := ⟨rfl, rfl, rfl, by decide +kernel, rfl, by decide +kernel, by decide +kernel⟩
theorem ok_law_choice (T : Txt K mg) : GFn P w K mg base 2 "_law_choice" ["_law_ask_here", "_law_weights", "_law_text"] (Sp3 (p_law_choice)) := by
  refine gfn T.d_law_choice T.g_law_choice sc_law_choice (fun _ _ _ _ _ _ us hl => match us, hl with | [_, _, _], _ => rfl) len3 fun cdv A outer s H vs Q E hr h => ?_
  obtain ⟨a0, a1, a2, rfl, h⟩ := h
  refine ⟨_, pss_cons (ps_set (i := 3) sc_law_choice.nd rfl (Or.inr rfl) (pe_g (ok_law_let T) (hr.mono (by decide)) (pa_cons (pe_dget (hu_of hr) (pv 0) (pe_str) (fun _ _ => rfl)) (pa_cons (pv 2) (pa_cons (pe_callB call_len_seq (by rfl) T.b_len PySem.boot_len (pa_cons (pv 1) pa_nil)) pa_nil)))))
      (pss_cons (ps_setLc (i := 4) (own := [("_law_k", 6)]) rfl sc_law_choice.nd rfl rfl (sw_true rfl rfl rfl (by decide +kernel)) (pi_range1 (by rfl) T.b_range (pa_cons (pe_callB call_len_seq (by rfl) T.b_len PySem.boot_len (pa_cons (pv 1) pa_nil)) pa_nil)) (blkOk_by (N := N_law_choice) (sc := defScope s_law_choice) (by decide +kernel)) (fun _ _ _ _ _ => pg_name (i := 6) sc_law_choice.nd rfl (Or.inl rfl) (hf := Or.inr rfl)) (fun _ _ _ _ _ => pts_nil) (fun _ _ _ _ _ => pe_op op_mul (pe_ix (ix_tupK (K0 := K)) (pv 1) (pv 6) (fun _ _ => rfl)) (pe_ix (ix_listK (K0 := K)) (pv 3) (pv 6) (fun _ _ => rfl))))
      (pss_cons (ps_if (pt_cmpR op_eq (pe_callB (cr_sum rfl) (by rfl) T.b_sum (by decide +kernel) (pa_cons (pv 4) pa_nil)) (pe_int) (nomark _)) (pss_one (ps_ret (pe_non))) (pss_nil))
      (pss_cons (ps_if (pt_cmpR op_eq (pe_callB call_len_seq (by rfl) T.b_len PySem.boot_len (pa_cons (pe_dget (hu_of hr) (pv 0) (pe_str) (fun _ _ => rfl)) pa_nil)) (pe_int) (nomark _)) (pss_one (ps_ret (pe_bm PySem.F.plainAttrs_list PySem.F.slot_list_index PySem.F.type_list_index mt_index (pv 4) (pa_cons (pe_callB (cr_max rfl) (by rfl) T.b_max (by decide +kernel) (pa_cons (pv 4) pa_nil)) pa_nil)))) (pss_nil))
      (pss_cons (ps_set (i := 5) sc_law_choice.nd rfl (Or.inl rfl) (pe_op op_mod (pe_callTy call_int1 (by rfl) T.b_int (by decide +kernel) (pa_cons (pe_ix ix_tup (pe_dget (hu_of hr) (pv 0) (pe_str) (fun _ _ => rfl)) (pe_op op_mod (pe_callB call_len_seq (by rfl) T.b_len PySem.boot_len (pa_cons (pv 2) pa_nil)) (pe_callB call_len_seq (by rfl) T.b_len PySem.boot_len (pa_cons (pe_dget (hu_of hr) (pv 0) (pe_str) (fun _ _ => rfl)) pa_nil))) (fun _ _ => rfl)) pa_nil)) (pe_callB (cr_sum rfl) (by rfl) T.b_sum (by decide +kernel) (pa_cons (pv 4) pa_nil))))
      (pss_cons (ps_for PassesOwn.never rfl (pi_range1 (by rfl) T.b_range (pa_cons (pe_callB call_len_seq (by rfl) T.b_len PySem.boot_len (pa_cons (pv 4) pa_nil)) pa_nil)) (pg_name (i := 6) sc_law_choice.nd rfl (Or.inl rfl))
      (pss_cons (ps_set (i := 5) sc_law_choice.nd rfl (Or.inl rfl) (pe_op op_sub (pv 5) (pe_ix ix_list (pv 4) (pv 6) (fun _ _ => rfl))))
      (pss_one (ps_if (pt_cmpR op_lt (pv 5) (pe_int) (nomark _)) (pss_one (ps_ret (pv 6))) (pss_nil)))))
      (pss_one (ps_ret (pe_non)))))))), ?_⟩
  obtain ⟨d, q1, q2, k, L, ws, t, rfl, ha, ok, rfl, hq1, hwl, hL, hws, rfl, hq2, ht, q⟩ := h
  obtain ⟨v1, v2, v3, v4, hd, h1, h2, h3, h4⟩ := id ha.ex
  refine ⟨_, rfl, d, _, rfl, DGet.k (k := .inr "rule") hd, _, rfl, _, rfl, q1, _, rfl, .inr (SqT.of hq1), ?_⟩
  rw [List.length_map, hwl]
  refine ⟨_, _, _, rfl, k.rule, L, q2, t, h4, ok, rfl, hq2, ht, rfl, hL, fun H1 D s1 hD hD1 => ?_⟩
  have elm := letM_eq ok hwl t
  have hll := letL_len ok t
  refine ⟨_, rfl, q1, _, rfl, .inr (SqT.of (s1 _ _ hq1)), ?_⟩
  rw [List.length_map, hwl]
  refine ⟨(L : Int), rfl, by omega, by omega, fun D2 hD2 => lcd_range (n := L) (ds1 := (letM k.rule ws t).map .int) hD2 (by rw [List.length_map, letM_len, hwl]) (by rw [List.length_map, letM_len, hwl]; exact hL) (fun i H2 hi s2 kp => ?_) fun H2 ys g1 g2 s2 => ?_⟩
  · have e1 : atI (ws.map V.int) ((0 : Int) + (i : Nat)) = some (V.int ws[i]) := by rw [Int.zero_add]; exact atI_nat (getMap (List.getElem?_eq_getElem (by omega)))
    have e2 : atI ((letL k.rule t L).map V.int) ((0 : Int) + (i : Nat)) = some (V.int (letL k.rule t L)[i]) := by rw [Int.zero_add]; exact atI_nat (getMap (List.getElem?_eq_getElem (by omega)))
    have hwi := hws _ (List.getElem_mem (show i < ws.length by omega))
    refine ⟨rfl, _, rfl, _, rfl, q1, _, _, _, rfl, rfl, SqT.of (s2 _ _ (s1 _ _ hq1)), e1, _, rfl, _, rfl, D, _, _, _, rfl, rfl, SqL.of (s2 _ _ hD1), e2, _, _, rfl, rfl, .inl ⟨by omega, by omega⟩, kp _ _ _ ?_ (Same.refl _) (.int _)⟩
    rw [elm, List.getElem?_map, List.getElem?_zipWith, List.getElem?_eq_getElem (show i < ws.length by omega), List.getElem?_eq_getElem (show i < (letL k.rule t L).length by omega)]
    rfl
  · rw [g2.intsI] at g1
    have s12 := s1.trans s2
    have hd2 := s12 _ _ hd
    have hpos := letM_pos (r := k.rule) (t := t) hws (by decide)
    have hlen : (letM k.rule ws t).length = L := by rw [letM_len, hwl]
    have hnd : choiceM k ws t = if (letM k.rule ws t).sum = 0 then none else if k.tape = [] then some ((greatM (letM k.rule ws t) (letM k.rule ws t).length : Nat) : Int) else some ((byM (letM k.rule ws t) (k.tape.getD (t.length % k.tape.length) 0 % (letM k.rule ws t).sum) 0 : Nat) : Int) := rfl
    generalize letM k.rule ws t = lw at g1 hpos hlen hnd
    refine ⟨_, rfl, D2, lw, rfl, SqL.of g1, rfl, _, rfl, ?_⟩
    by_cases z : lw.sum = 0
    · rw [z, dec_t rfl]
      refine q H2 _ s12 ?_
      rw [hnd, if_pos z]
      exact .non
    rw [dec_f (show V.int lw.sum ≠ V.int 0 from fun e => z (V.int.inj e))]
    rw [if_neg z] at hnd
    have hs0 := sum_nonneg fun x hx => (hpos x hx).1
    obtain ⟨c3, rfl, hc3⟩ := h3.vecI
    have hc32 := s12 _ _ hc3
    refine ⟨_, rfl, d, _, rfl, DGet.k (k := .inr "tape") hd2, c3, _, rfl, .inr (SqT.of hc32), rfl, _, rfl, ?_⟩
    rw [List.length_map]
    by_cases zt : k.tape.length = 0
    · rw [zt, dec_t (show V.int ((0 : Nat) : Int) = V.int 0 from rfl)]
      rw [if_pos (List.eq_nil_of_length_eq_zero zt)] at hnd
      have hne : 0 < lw.length := by
        cases lw with
        | nil => simp at z
        | cons x r => simp
      refine ⟨_, rfl, ty_l g1, _, rfl, D2, lw, rfl, SqL.of g1, hne, fun m hm hle => ?_⟩
      obtain ⟨y, y1, y2, y3⟩ := greatM_first hne hm hle
      refine ⟨D2, lw.map V.int, .int m, greatM lw lw.length, .int y, rfl, rfl, SqL.of g1, rfl, ?_, getMap y1, ?_, fun j z' hj hz' => ?_, ?_⟩
      · rw [List.all_map]
        exact List.all_eq_true.mpr fun _ _ => rfl
      · rw [y2]
        exact beq_self_eq_true m
      · obtain ⟨n, en, rfl⟩ := map_get hz'
        exact beq_eq_false_iff_ne.mpr (y3 j n hj en)
      · refine q H2 _ s12 ?_
        rw [hnd]
        exact .int _
    · rw [dec_f (show V.int (k.tape.length : Int) ≠ V.int 0 from fun e => zt (by have := V.int.inj e; omega))]
      rw [if_neg (fun e => zt (by rw [e]; rfl))] at hnd
      have hmod : t.length % k.tape.length < k.tape.length := Nat.mod_lt _ (by omega)
      have e5 : atI (k.tape.map V.int) (((t.length : Nat) : Int) % ((k.tape.length : Nat) : Int)) = some (.int k.tape[t.length % k.tape.length]) := by
        rw [← Int.natCast_emod]
        exact atI_nat (getMap (List.getElem?_eq_getElem hmod))
      refine ⟨_, rfl, d, _, rfl, DGet.k (k := .inr "tape") hd2, _, rfl, q2, _, rfl, .inr (SqT.of (s12 _ _ hq2)), _, rfl, d, _, rfl, DGet.k (k := .inr "tape") hd2, c3, _, rfl, .inr (SqT.of hc32), _, _, rfl, rfl, by show (0 : Int) < ((k.tape.map V.int).length : Nat); rw [List.length_map]; omega, c3, _, _, .int k.tape[t.length % k.tape.length], rfl, rfl, SqT.of hc32, by rw [List.length_map, List.length_map]; exact e5, .inl ⟨_, rfl, _, rfl, D2, lw, rfl, SqL.of g1, _, _, rfl, rfl, by omega, ?_⟩⟩
      have e6 : k.tape.getD (t.length % k.tape.length) 0 = k.tape[t.length % k.tape.length] := by rw [List.getD_eq_getElem?_getD, List.getElem?_eq_getElem hmod]; rfl
      rw [e6] at hnd
      generalize k.tape[t.length % k.tape.length] = tn at hnd ⊢
      have r0 := Int.emod_nonneg tn z
      have r1 := Int.emod_lt_of_pos tn (show 0 < lw.sum by omega)
      refine ⟨_, rfl, D2, _, rfl, .inl (SqL.of g1), ((lw.length : Nat) : Int), by rw [List.length_map], by omega, by omega, for_range (lo := 0) (n := lw.length) (fun j σ H' => ∃ (left : Int) (v6 : Option V), σ = [some (.ref d), some (.ref q1), some (.ref q2), some (.ref D), some (.ref D2), some (.int left), v6] ∧ H' = H2 ∧ 0 ≤ left ∧ left < (lw.drop j).sum ∧ byM (lw.drop j) left j = byM lw (tn % lw.sum) 0)
        ⟨_, _, rfl, rfl, r0, r1, rfl⟩ ?_ ?_⟩
      · rintro j σ H3 hj ⟨left, v6, rfl, rfl, l0, l1, eb⟩
        rw [List.drop_eq_getElem_cons hj] at l1 eb
        rw [List.sum_cons] at l1
        have ej : atI (lw.map V.int) ((0 : Int) + (j : Nat)) = some (.int lw[j]) := by rw [Int.zero_add]; exact atI_nat (getMap (List.getElem?_eq_getElem hj))
        refine ⟨_, rfl, _, rfl, _, rfl, D2, _, _, _, rfl, rfl, SqL.of g1, ej, _, _, rfl, rfl, _, rfl, _, _, rfl, rfl, _, rfl, ?_⟩
        by_cases hlt : left - lw[j] < 0
        · rw [decide_eq_true hlt]
          refine ⟨_, rfl, q _ _ s12 ?_⟩
          rw [byM, if_neg (by omega)] at eb
          rw [hnd, ← eb, Int.zero_add]
          exact .int _
        · rw [decide_eq_false hlt]
          refine ⟨left - lw[j], _, rfl, rfl, by omega, by omega, ?_⟩
          rw [byM, if_pos (by omega)] at eb
          exact eb
      · rintro σ H3 ⟨left, v6, rfl, rfl, l0, l1, eb⟩
        rw [List.drop_length] at l1
        simp at l1
        omega
end
end Sv
end
section
set_option Elab.async false
set_option linter.all false
set_option maxRecDepth 100000
set_option maxHeartbeats 4000000
/-! The law's next text; what it reckons for an ask alone. -/
namespace Sv
open PySem PySem.Spec PyProof.Rows L2 HotX
def p_law_written_on : P4 := fun a b c d H Q => ∃ (M : NetM) (L : Nat) (dd q1 q2 : Addr) (k : AskM) (ws t : List Int), At H a (NetD M) ∧ b = .ref dd ∧ AskT H dd k ∧ AskOk k L ∧ c = .ref q1 ∧ H q1 = some (.tup (ws.map V.int)) ∧ ws.length = L ∧ L ≤ 1000 ∧ (∀ x ∈ ws, 1 ≤ x ∧ x ≤ 97) ∧
  d = .ref q2 ∧ H q2 = some (.tup (t.map V.int)) ∧ (∀ x ∈ t, 0 ≤ x ∧ x < (L : Int)) ∧ t.length ≤ 400 ∧ ∀ H' v, Same H H' → At H' v (.tuple [dVec (nextM M.fin k t ws).1, dWd (nextM M.fin k t ws).2]) → Q v H'
theorem nextM_of {fin : Option Int} {k : AskM} {t ws : List Int} : ∀ {x : Option Int}, choiceM k ws t = x → nextM fin k t ws = match x with
      | none => (t, some .stuck)
      | some l => if some l = fin then (t, some .fin) else
        if 0 < stopM k.stops (t ++ [l]) then ((t ++ [l]).take ((t ++ [l]).length - stopM k.stops (t ++ [l])), some .stop)
        else (t ++ [l], if ((t ++ [l]).length : Int) = k.most then some .most else none) := by
  intro x e
  subst e
  rfl
theorem seq_cutN {A B : TS} {D : Ends} {r : VK} {k c : L2.St → Hp → Prop} {σ : L2.St} {H : Hp} (Pv : L2.St → Hp → Prop) (h2 : ∀ σ' H', Pv σ' H' → B D σ' H') (h1 : ∀ N : L2.St → Hp → Prop, (∀ σ' H', Pv σ' H' → N σ' H') → A { D with nx := N } σ H) : tNext ⟨tSeq A B D, r, k, c⟩ σ H := h1 _ h2
section
variable {P : Program} {w : World} {K : PySem.W.Frag} {mg : Str → Option Value} {base : Heap}
abbrev N_law_written_on : List Str := ["_law_net_here", "_law_ask_here", "_law_weights", "_law_text", "_law_c", "_law_more", "_law_longest", "_law_stop"]
theorem sc_law_written_on : FnScope N_law_written_on ["_law_net_here", "_law_ask_here", "_law_weights", "_law_text"] (defScope s_law_written_on) := ⟨rfl, rfl, rfl, by decide +kernel, rfl, by decide +kernel, by decide +kernel⟩
theorem ok_law_written_on (T : Txt K mg) : GFn P w K mg base 3 "_law_written_on" ["_law_net_here", "_law_ask_here", "_law_weights", "_law_text"] (Sp4 p_law_written_on) := by
  refine gfn T.d_law_written_on T.g_law_written_on sc_law_written_on (fun _ _ _ _ _ _ us hl => match us, hl with | [_, _, _, _], _ => rfl) len4 fun cdv A outer s H vs Q E hr h => ?_
  obtain ⟨a0, a1, a2, a3, rfl, h⟩ := h
  refine ⟨_, pss_cons (ps_set (i := 4) sc_law_written_on.nd rfl (Or.inl rfl) (pe_g (ok_law_choice T) (hr.mono (by decide)) (pa_cons (pv 1) (pa_cons (pv 2) (pa_cons (pv 3) pa_nil)))))
      (pss_cons (ps_if (pt_cmp (pc_isN (pv 4))) (pss_one (ps_ret (pe_tup (pa_cons (pv 3) (pa_cons (pe_str) pa_nil))))) (pss_nil))
      (pss_cons (ps_if (PW.pt (pw_and (pt_cmp (pc_notN (pe_ix ix_tup (pv 0) (pe_int) (fun _ _ => rfl)))) (pw_and1 (pt_cmpR op_eq (pv 4) (pe_ix ix_tup (pv 0) (pe_int) (fun _ _ => rfl)) (nomark _))))) (pss_one (ps_ret (pe_tup (pa_cons (pv 3) (pa_cons (pe_str) pa_nil))))) (pss_nil))
      (pss_cons (ps_set (i := 5) sc_law_written_on.nd rfl (Or.inr rfl) (pe_op op_catA (pv 3) (pe_tup (pa_cons (pv 4) pa_nil))))
      (pss_cons (ps_set (i := 6) sc_law_written_on.nd rfl (Or.inl rfl) (pe_callB (cr_max rfl) (by rfl) T.b_max (by decide +kernel) (pa_cons (pe_op op_cat (pe_lst (pa_cons (pe_int) pa_nil)) (pe_lc (own := [("_law_stop", 7)]) rfl sc_law_written_on.nd (pi_tup (pe_dget (hu_of hr) (pv 1) (pe_str) (fun _ _ => rfl))) (blkOk_by (N := N_law_written_on) (sc := defScope s_law_written_on) (by decide +kernel)) (fun _ _ _ _ _ => pg_name (i := 7) sc_law_written_on.nd rfl (Or.inl rfl) (hf := Or.inr rfl)) (fun _ _ _ _ _ => pts_one (pt_cmpR (op_eqDK (K0 := K) hr.units) (pe_slice (sl_tupAK (K0 := K)) (pv 5) (po_some (pe_callB (call_max2 rfl) (by rfl) T.b_max (by decide +kernel) (pa_cons (pe_int) (pa_cons (pe_op op_sub (pe_callB (call_len_seqK (K0 := K)) (by rfl) T.b_len PySem.boot_len (pa_cons (pv 5) pa_nil)) (pe_callB (call_len_seqK (K0 := K)) (by rfl) T.b_len PySem.boot_len (pa_cons (pv 7) pa_nil))) pa_nil)))) po_none) (pv 7) (nomark _))) (fun _ _ _ _ _ => pe_callB (call_len_seqK (K0 := K)) (by rfl) T.b_len PySem.boot_len (pa_cons (pv 7) pa_nil)))) pa_nil)))
      (pss_cons (ps_if (pt_cmpR op_gt (pv 6) (pe_int) (nomark _)) (pss_one (ps_ret (pe_tup (pa_cons (pe_slice sl_tupA (pv 5) po_none (po_some (pe_op op_sub (pe_callB call_len_seq (by rfl) T.b_len PySem.boot_len (pa_cons (pv 5) pa_nil)) (pv 6)))) (pa_cons (pe_str) pa_nil))))) (pss_nil))
      (pss_cons (ps_if (pt_cmpR op_eq (pe_callB call_len_seq (by rfl) T.b_len PySem.boot_len (pa_cons (pv 5) pa_nil)) (pe_dget (hu_of hr) (pv 1) (pe_str) (fun _ _ => rfl)) (nomark _)) (pss_one (ps_ret (pe_tup (pa_cons (pv 5) (pa_cons (pe_str) pa_nil))))) (pss_nil))
      (pss_one (ps_ret (pe_tup (pa_cons (pv 5) (pa_cons (pe_non) pa_nil))))))))))), ?_⟩
  obtain ⟨M, L, dd, q1, q2, k, ws, t, hnet, rfl, ha, ok, rfl, hq1, hwl, hL, hws, rfl, hq2, ht, htl, q⟩ := h
  obtain ⟨en, ve, vs, vl, vo, vf, rfl, he, me, ms, ml, mo, mf⟩ := netD hnet
  obtain ⟨v1, v2, v3, v4, hd, h1, h2, h3, h4⟩ := id ha.ex
  refine ⟨_, rfl, _, rfl, _, rfl, _, _, _, rfl, dd, q1, q2, k, L, ws, t, rfl, ha, ok.rule, rfl, hq1, hwl, hL, hws, rfl, hq2, ht, fun H1 v s1 hv => ?_⟩
  rcases dOpt_cases hv with ⟨e, rfl⟩ | ⟨l, e, rfl⟩
  · refine ⟨_, rfl, _, rfl, ?_⟩
    refine ⟨_, rfl, ll2, fun e1 he1 => q _ _ (s1.trans (same_new he1)) ?_⟩
    rw [nextM_of e]
    exact at_tup upd_same (.cons (At.up (at_vec (s1 _ _ hq2)) (same_new he1).tups) (.cons (.str _) .nil))
  refine ⟨_, rfl, false, rfl, iteF ?_⟩
  have hl := choiceM_in (a := k) (t := t) hwl hws e
  have hn2 := nextM_of (fin := M.fin) e
  dsimp only at hn2
  refine seq_cutN (fun σ' H' => σ' = [some (.ref en), some (.ref dd), some (.ref q1), some (.ref q2), some (.int l), none, none, none] ∧ H' = H1 ∧ some l ≠ M.fin) ?_ ?_
  · rintro σ' H' ⟨rfl, rfl, hf⟩
    rw [if_neg hf] at hn2
    refine ⟨_, rfl, _, rfl, ll1, fun e2 he2 => ?_⟩
    obtain ⟨s2, g2⟩ := gen_new (o := .tup [V.int l]) he2 rfl
    have s3 := s1.trans s2
    refine catA_at (K := K) (s3 _ _ hq2) g2 (by rw [List.length_map]; show _ + 1 ≤ 1000; omega) fun H3 c3 s4 hc3 => ?_
    have s5 := s3.trans s4
    have hc3' : H3 c3 = some (.tup ((t ++ [l]).map V.int)) := by rw [hc3, List.map_append]; rfl
    generalize hT : t ++ [l] = t2 at hc3' hn2
    have ht2 : t2.length = t.length + 1 := by rw [← hT, List.length_append]; rfl
    obtain ⟨c2, xs, rfl, hc2, r2⟩ := id h2.matI
    refine ⟨by show (1 : Nat) ≤ sizeLine; decide, fun o1 ho1 => ?_⟩
    generalize hG : L2.upd H3 o1 _ = H4
    obtain ⟨s6, e6⟩ := gen_new ho1 hG
    have s7 := s5.trans s6
    refine ⟨_, rfl, dd, _, rfl, DGet.k (k := .inr "stops") (s7 _ _ hd), c2, rfl, ⟨_, SqT.of (s7 _ _ hc2)⟩, fun D hD => lc_tup (K := K) (a := c2) (xs := xs) (fun i H' => Same H4 H' ∧ H' D = some (.lst (((k.stops.take i).filter (tailIs t2)).map fun s => V.int (s.length : Nat)))) ⟨same_new hD, upd_same⟩ (fun i H' _ I => SqT.of (I.1 _ _ (s7 _ _ hc2))) (fun i x H5 hx I => ?_) fun H5 I => ?_⟩
    · obtain ⟨s8, hD5⟩ := I
      obtain ⟨d5, ed, hx'⟩ := r2.get hx
      obtain ⟨st, est, rfl⟩ := map_get ed
      obtain ⟨c5, rfl, hc5⟩ := (hx'.up (s7.trans s8).tups).vecI
      have hst := ok.s0 st (List.mem_of_getElem? est)
      have hct := s8 _ _ (s6 _ _ hc3')
      have hil := (List.getElem?_eq_some_iff.mp est).1
      have hsn := ok.sn
      refine ⟨rfl, _, rfl, _, rfl, c3, _, rfl, .inr (SqT.of hct), _, rfl, c5, _, rfl, .inr (SqT.of hc5), _, _, rfl, rfl, _, _, rfl, ?_⟩
      refine ⟨((t2.length - st.length : Nat) : Int), congrArg V.int (by rw [List.length_map, List.length_map]; split <;> omega), ?_⟩
      dsimp only [tNoPart]
      refine slA_at (K := K) hct fun H6 c6 s9 hc6 => ?_
      rw [cut_drop, ← List.map_drop] at hc6
      refine ⟨_, rfl, eqD_vec (at_vec hc6) (at_vec (s9 _ _ hc5)) ⟨_, rfl, ?_⟩⟩
      have efl : (k.stops.take (i + 1)).filter (tailIs t2) = (k.stops.take i).filter (tailIs t2) ++ (if tailIs t2 st = true then [st] else []) := by
        rw [take_snoc est, List.filter_append]
        congr 1
        rw [List.filter_cons]
        rfl
      have hfl : ((k.stops.take i).filter (tailIs t2)).length ≤ i := by
        have := List.length_filter_le (tailIs t2) (k.stops.take i)
        rw [List.length_take] at this
        omega
      show if tailIs t2 st = true then _ else _
      by_cases hm : tailIs t2 st = true
      · rw [if_pos hm] at efl ⊢
        refine ⟨_, rfl, c5, _, rfl, .inr (SqT.of (s9 _ _ hc5)), _, s9 _ _ hD5, small1000 (by rw [List.length_map]; omega), fun z u hz => ?_, ?_⟩
        · rw [upd_ne (ne_of_none hz hD)]
          exact s9 _ _ (s8 _ _ hz)
        · rw [upd_same, efl, List.map_append, List.length_map]
          rfl
      · rw [if_neg hm] at efl ⊢
        refine ⟨s8.trans s9, ?_⟩
        rw [efl, List.append_nil]
        exact s9 _ _ hD5
    · obtain ⟨s8, hD5⟩ := I
      have hxl := r2.len
      rw [List.length_map] at hxl
      rw [hxl, List.take_length] at hD5
      have hfl := List.length_filter_le (tailIs t2) k.stops
      have hsn := ok.sn
      have em : (k.stops.filter (tailIs t2)).map (fun s => V.int (s.length : Nat)) = ((k.stops.filter (tailIs t2)).map fun s => (s.length : Int)).map V.int := by rw [List.map_map]; rfl
      rw [em] at hD5
      have e65 := s8 _ _ e6
      refine ⟨o1, D, _, _, rfl, rfl, e65, hD5, Nat.le_of_lt (small1000 (by rw [List.length_map, List.length_map]; show 1 + _ ≤ 1000; omega)), fun o2 ho2 => ?_⟩
      generalize hG : L2.upd H5 o2 _ = H6
      obtain ⟨s9, e9⟩ := gen_new ho2 hG
      have s10 := s7.trans (s8.trans s9)
      have s310 : Same H3 H6 := s6.trans (s8.trans s9)
      refine ⟨o2, [0] ++ ((k.stops.filter (tailIs t2)).map fun s => (s.length : Int)), rfl, SqL.of (by rw [e9]; rfl), by simp, fun m hm hle => ?_⟩
      obtain rfl := stopM_max hm hle
      have hct := s310 _ _ hc3'
      refine ⟨_, rfl, _, _, rfl, rfl, _, rfl, ?_⟩
      by_cases hz : ((stopM k.stops t2 : Nat) : Int) > 0
      · rw [decide_eq_true hz]
        rw [if_pos (by omega)] at hn2
        have hsl : stopM k.stops t2 ≤ t2.length := stopM_le _ _
        refine ⟨_, rfl, _, rfl, c3, _, rfl, .inr (SqT.of hct), _, rfl, _, _, rfl, rfl, ?_⟩
        have elo : (((t2.map V.int).length : Nat) : Int) - ((stopM k.stops t2 : Nat) : Int) = ((t2.length - stopM k.stops t2 : Nat) : Int) := by
          rw [List.length_map]
          omega
        refine ⟨_, congrArg V.int elo, ?_⟩
        refine slA_at (K := K) hct fun H7 c7 s11 hc7 => ?_
        rw [cut_take, ← List.map_take] at hc7
        refine ⟨ll2, fun e1 he1 => q _ _ ((s10.trans s11).trans (same_new he1)) ?_⟩
        rw [hn2]
        exact at_tup upd_same (.cons (At.up (at_vec hc7) (same_new he1).tups) (.cons (.str _) .nil))
      · rw [decide_eq_false hz]
        rw [if_neg (by omega)] at hn2
        refine ⟨_, rfl, c3, _, rfl, .inr (SqT.of hct), _, rfl, dd, _, rfl, DGet.k (k := .inr "most") (s10 _ _ hd), rfl, _, rfl, ?_⟩
        by_cases hm : (t2.length : Int) = k.most
        · rw [dec_t (show V.int (((t2.map V.int).length : Nat) : Int) = V.int k.most by rw [List.length_map, hm])]
          rw [if_pos hm] at hn2
          refine ⟨_, rfl, ll2, fun e1 he1 => q _ _ (s10.trans (same_new he1)) ?_⟩
          rw [hn2]
          exact at_tup upd_same (.cons (At.up (at_vec hct) (same_new he1).tups) (.cons (.str _) .nil))
        · rw [dec_f (show V.int (((t2.map V.int).length : Nat) : Int) ≠ V.int k.most from fun z => hm (by have := V.int.inj z; rw [List.length_map] at this; exact this))]
          rw [if_neg hm] at hn2
          refine ⟨_, rfl, ll2, fun e1 he1 => q _ _ (s10.trans (same_new he1)) ?_⟩
          rw [hn2]
          exact at_tup upd_same (.cons (At.up (at_vec hct) (same_new he1).tups) (.cons .non .nil))
  · intro N hN
    refine ⟨_, rfl, en, _, _, _, rfl, rfl, SqT.of (s1 _ _ he), rfl, ?_⟩
    rcases dOpt_cases mf with ⟨ef, rfl⟩ | ⟨fi, ef, rfl⟩
    · exact ⟨_, rfl, hN _ _ ⟨rfl, rfl, by rw [ef]; nofun⟩⟩
    · refine ⟨_, rfl, _, rfl, _, rfl, en, _, _, _, rfl, rfl, SqT.of (s1 _ _ he), rfl, rfl, _, rfl, ?_⟩
      by_cases hlf : l = fi
      · rw [hlf, dec_t rfl]
        refine ⟨_, rfl, ll2, fun e1 he1 => q _ _ (s1.trans (same_new he1)) ?_⟩
        rw [if_pos (by rw [ef, hlf])] at hn2
        rw [hn2]
        exact at_tup upd_same (.cons (At.up (at_vec (s1 _ _ hq2)) (same_new he1).tups) (.cons (.str _) .nil))
      · rw [dec_f (show V.int l ≠ V.int fi from fun z => hlf (V.int.inj z))]
        exact hN _ _ ⟨rfl, rfl, by rw [ef]; exact fun z => hlf (Option.some.inj z)⟩
end
end Sv
end
section
set_option Elab.async false
set_option linter.all false
set_option maxRecDepth 100000
set_option maxHeartbeats 4000000
/-! What the law reckons for an ask alone. -/
namespace Sv
open PySem PySem.Spec PyProof.Rows L2 HotX
theorem KnownAt.mono {M : NetM} {H : Hp} {kn : Addr} {n m : Nat} (h : KnownAt M H kn n) (l : n ≤ m) : KnownAt M H kn m := by
  obtain ⟨tbl, h1, h2, h3⟩ := h.ex
  exact ⟨tbl, h1, Nat.le_trans h2 l, h3⟩
def dAlone (x : AloneM) : PyData := .tuple [.tuple [dVec x.t, .str (wdS x.wd)], dVec x.ls]
def p_law_alone : P3 := fun a b c H Q => ∃ (M : NetM) (L w : Nat) (kn dd : Addr) (n : Nat) (k : AskM), At H a (NetD M) ∧ NetOk M L w ∧ b = .ref kn ∧ KnownAt M H kn n ∧ c = .ref dd ∧ AskT H dd k ∧ AskOk k L ∧ n + 160 ≤ 1000 ∧
  ∀ H' v x, Fr [kn] H H' → KnownAt M H' kn (n + 160) → AloneS M k x → At H' v (dAlone x) → Q v H'
theorem at2 {H : Hp} {v : V} {a b : PyData} (h : At H v (.tuple [a, b])) : ∃ e x y, v = .ref e ∧ H e = some (.tup [x, y]) ∧ At H x a ∧ At H y b := by
  obtain ⟨e, xs, rfl, he, hx⟩ := h.tupI
  cases hx with
  | cons h1 hx =>
  cases hx with
  | cons h2 hx =>
  cases hx
  exact ⟨e, _, _, rfl, he, h1, h2⟩
theorem wts_of {M : NetM} {ls : List Int} {r : RowM} (h : (rowsM M ls).getLast? = some r) : wts M ls = r.2 := by unfold wts; rw [h]; rfl
theorem nextM_letter {fin : Option Int} {a : AskM} {t ws : List Int} (h : (nextM fin a t ws).2 = some .stop ∨ (nextM fin a t ws).2 = some .most) : ∃ l, choiceM a ws t = some l := by
  cases e : choiceM a ws t with
  | none => rw [nextM_of e] at h; rcases h with h | h <;> cases h
  | some l => exact ⟨l, rfl⟩
section
variable {P : Program} {w : World} {K : PySem.W.Frag} {mg : Str → Option Value} {base : Heap}
abbrev N_law_alone : List Str := ["_law_net_here", "_law_known", "_law_ask_here", "_law_told", "_law_letters_here", "_law_k", "_law_weights", "_law_c"]
theorem sc_law_alone : FnScope N_law_alone ["_law_net_here", "_law_known", "_law_ask_here"] (defScope s_law_alone) := ⟨rfl, rfl, rfl, by decide +kernel, rfl, by decide +kernel, by decide +kernel⟩
theorem ok_law_alone (T : Txt K mg) : GFn P w K mg base 4 "_law_alone" ["_law_net_here", "_law_known", "_law_ask_here"] (Sp3 p_law_alone) := by
  refine gfn T.d_law_alone T.g_law_alone sc_law_alone (fun _ _ _ _ _ _ us hl => match us, hl with | [_, _, _], _ => rfl) len3 fun cdv A outer s H vs Q E hr h => ?_
  obtain ⟨a0, a1, a2, rfl, h⟩ := h
  refine ⟨_, pss_cons (ps_set (i := 3) sc_law_alone.nd rfl (Or.inl rfl) (pe_tup (pa_cons (pe_tup pa_nil) (pa_cons (pe_non) pa_nil))))
      (pss_cons (ps_set (i := 4) sc_law_alone.nd rfl (Or.inl rfl) (pe_tup pa_nil))
      (pss_cons (ps_for PassesOwn.never rfl (pi_range1 (by rfl) T.b_range (pa_cons (pe_dget (hu_of hr) (pv 2) (pe_str) (fun _ _ => rfl)) pa_nil)) (pg_name (i := 5) sc_law_alone.nd rfl (Or.inl rfl))
      (pss_cons (ps_set (i := 6) sc_law_alone.nd rfl (Or.inl rfl) (pe_ix ix_tup (pe_g (ok_law_behind T) (hr.mono (by decide)) (pa_cons (pv 0) (pa_cons (pv 1) (pa_cons (pe_op op_catA (pe_dget (hu_of hr) (pv 2) (pe_str) (fun _ _ => rfl)) (pe_ix ix_tup (pv 3) (pe_int) (fun _ _ => rfl))) pa_nil)))) (pe_int) (fun _ _ => rfl)))
      (pss_cons (ps_set (i := 7) sc_law_alone.nd rfl (Or.inl rfl) (pe_g (ok_law_choice T) (hr.mono (by decide)) (pa_cons (pv 2) (pa_cons (pv 6) (pa_cons (pe_ix ix_tup (pv 3) (pe_int) (fun _ _ => rfl)) pa_nil)))))
      (pss_cons (ps_set (i := 3) sc_law_alone.nd rfl (Or.inl rfl) (pe_g (ok_law_written_on T) (hr.mono (by decide)) (pa_cons (pv 0) (pa_cons (pv 2) (pa_cons (pv 6) (pa_cons (pe_ix ix_tup (pv 3) (pe_int) (fun _ _ => rfl)) pa_nil))))))
      (pss_cons (ps_if (pt_cmpR op_in_seq (pe_ix ix_tup (pv 3) (pe_int) (fun _ _ => rfl)) (pe_lst (pa_cons (pe_str) (pa_cons (pe_str) (pa_cons (pe_non) pa_nil)))) (by rfl)) (pss_one (ps_set (i := 4) sc_law_alone.nd rfl (Or.inl rfl) (pe_op op_catA (pv 4) (pe_tup (pa_cons (pv 7) pa_nil))))) (pss_nil))
      (pss_one (ps_if (pt_cmp (pc_notN (pe_ix ix_tup (pv 3) (pe_int) (fun _ _ => rfl)))) (pss_one (ps_break)) (pss_nil))))))))
      (pss_one (ps_ret (pe_tup (pa_cons (pv 3) (pa_cons (pv 4) pa_nil))))))), ?_⟩
  obtain ⟨M, L, w', kn, dd, n, k, hnet, nok, rfl, hkn, rfl, ha, ok, hn, q⟩ := h
  have nkd : dd ≠ kn := fun z => by
    obtain ⟨_, z1, _⟩ := hkn.ex
    obtain ⟨_, _, _, _, z2, _⟩ := ha.ex
    rw [z, z1] at z2
    cases z2
  have hm0 := ok.m0
  have hm1 := ok.m1
  have hp1 := ok.p1
  have hp0 := ok.p0
  refine ⟨ll0, fun o1 ho1 => ?_⟩
  generalize hG : L2.upd H o1 _ = H1
  obtain ⟨s1, e1⟩ := gen_new ho1 hG
  refine ⟨ll2, fun o2 ho2 => ?_⟩
  generalize hG : L2.upd H1 o2 _ = H2
  obtain ⟨s2, e2⟩ := gen_new ho2 hG
  refine ⟨ll0, fun o3 ho3 => ?_⟩
  generalize hG : L2.upd H2 o3 _ = H3
  obtain ⟨s3, e3⟩ := gen_new ho3 hG
  have sA := (s1.trans s2).trans s3
  have hd3 : AskT H3 dd k := ha.up sA
  obtain ⟨mo, emo⟩ := Int.eq_ofNat_of_zero_le (show 0 ≤ k.most by omega)
  obtain ⟨v1, v2, v3, v4, hd, _⟩ := id hd3.ex
  have i0 : At H3 (.ref o2) (.tuple [dVec [], .none]) := at_tup (s3 _ _ e2) (.cons (at_vec (ns := []) (s3 _ _ (s2 _ _ e1))) (.cons .non .nil))
  refine ⟨_, rfl, dd, _, rfl, DGet.k (k := .inr "most") hd, (mo : Int), (by show [V.int k.most] = [V.int (mo : Int)]; rw [emo]), by omega, by omega, for_range (lo := 0) (n := mo) (fun i σ H' => ∃ v5 v6 v7 ct cl t, σ = [some a0, some (.ref kn), some (.ref dd), some ct, some cl, v5, v6, v7] ∧ Fr [kn] H H' ∧ KnownAt M H' kn (n + i * 20) ∧ At H' ct (.tuple [dVec t, .none]) ∧ At H' cl (dVec t) ∧ Reach M k t none ∧ t.length = i ∧ ∀ x ∈ t, Below L x)
    ⟨_, _, _, _, _, [], rfl, Fr.same sA, hkn.keep (F := []) (Fr.same sA) (by simp), i0, at_vec (ns := []) e3, .start, rfl, by simp⟩ ?_ ?_⟩
  · rintro i σ H4 hi ⟨v5, v6, v7, ct, cl, t, rfl, f4, k4, hct, hcl, hre, htl, htb⟩
    obtain ⟨e4, vt, vn, rfl, he4, ht4, hn4⟩ := at2 hct
    obtain ⟨et, rfl, het⟩ := id ht4.vecI
    have ha4 := ha.keep f4 (by simp; exact nkd)
    obtain ⟨u1, u2, u3, u4, hd4, g1, g2, g3, g4⟩ := id ha4.ex
    obtain ⟨cp, rfl, hcp⟩ := id g1.vecI
    refine ⟨_, rfl, _, rfl, _, rfl, dd, _, rfl, DGet.k (k := .inr "prompt") hd4, _, rfl, e4, _, _, _, rfl, rfl, SqT.of he4, rfl, ?_⟩
    refine catA_at (K := K) hcp het (by rw [List.length_map, List.length_map]; omega) fun H5 c5 s5 hc5 => ?_
    rw [← List.map_append] at hc5
    have hwb : ∀ x ∈ k.prompt ++ t, Below L x := fun x hx => by
      rcases List.mem_append.mp hx with hx | hx
      · exact ok.pl x hx
      · exact htb x hx
    have hpl : (k.prompt ++ t).length = k.prompt.length + t.length := List.length_append
    refine ⟨_, _, _, rfl, M, L, w', kn, c5, n + i * 20, k.prompt ++ t, (hnet.up f4.t).up s5.tups, nok, rfl, k4.keep (F := []) (Fr.same s5) (by simp), rfl, hc5, by omega, by omega, hwb, by omega, fun H6 v r f6 k6 er hr' => ?_⟩
    obtain ⟨rr, rp, rw', rfl, hrr, _, hrw⟩ := at2 (show At H6 v (.tuple [.tuple (r.1.map dPair), dVec r.2]) from hr')
    obtain ⟨cw, rfl, hcw⟩ := id hrw.vecI
    have hrm : r ∈ rowsM M (k.prompt ++ t) := List.mem_of_getLast? er
    have rok := rowsM_ok nok (k.prompt ++ t) hwb r hrm
    have hp97 := nok.p1
    have hL12 := nok.l1
    have hws : ∀ x ∈ r.2, 1 ≤ x ∧ x ≤ 97 := fun x hx => ⟨(rok.ws x hx).1, Int.le_trans (rok.ws x hx).2 hp97⟩
    have ew := wts_of er
    have f46 : Fr [kn] H4 H6 := (Fr.same s5).trans f6
    have ha6 := ha4.keep f46 (by simp; exact nkd)
    refine ⟨rr, _, _, _, rfl, rfl, SqT.of hrr, rfl, ?_⟩
    refine ⟨_, rfl, _, rfl, _, rfl, e4, _, _, _, rfl, rfl, SqT.of (f46.t _ _ rfl he4), rfl, _, _, _, rfl, dd, cw, et, k, L, r.2, t, rfl, ha6, ok.rule, rfl, hcw, rok.l, by omega, hws, rfl, f46.t _ _ rfl het, htb, fun H7 vc s7 hvc => ?_⟩
    have f47 : Fr [kn] H4 H7 := f46.trans (Fr.same s7)
    refine ⟨_, rfl, _, rfl, _, rfl, _, rfl, e4, _, _, _, rfl, rfl, SqT.of (f47.t _ _ rfl he4), rfl, _, _, _, _, rfl, M, L, dd, cw, et, k, r.2, t, (hnet.up f4.t).up f47.t, rfl, ha6.up s7, ok, rfl, s7 _ _ hcw, rok.l, by omega, hws, rfl, f47.t _ _ rfl het, htb, by omega, fun H8 v8 s8 hv8 => ?_⟩
    rw [← ew] at hvc hv8
    have f48 : Fr [kn] H4 H8 := f47.trans (Fr.same s8)
    have k8 : KnownAt M H8 kn (n + (i + 1) * 20) := ((k6.keep (F := []) (Fr.same (s7.trans s8)) (by simp))).mono (by omega)
    have hst := hre.step
    have hnb := (nextM_cases M.fin k t (wts M (k.prompt ++ t)) (L := L) (p := 97) (by rw [ew]; exact rok.l) (by rw [ew]; exact hws) htb).1
    have hcl8 := hcl.up f48.t
    obtain ⟨cc, rfl, hcc⟩ := id hcl8.vecI
    obtain ⟨e8, x1, x2, rfl, he8, hx1, hx2⟩ := at2 hv8
    obtain rfl := hx2.wdI
    refine ⟨_, rfl, e8, _, _, _, rfl, rfl, SqT.of he8, rfl, by show (3 : Nat) ≤ sizeLine; decide, fun o9 ho9 => ?_⟩
    generalize hG : L2.upd H8 o9 _ = H9
    obtain ⟨s9, e9⟩ := gen_new ho9 hG
    have fin : ∀ (wd : Wd) (ls : List Int) (H' : Hp) (c' : Addr), Same H8 H' → (nextM M.fin k t (wts M (k.prompt ++ t))).2 = some wd → H' c' = some (.tup (ls.map V.int)) → (((wd = .stop ∨ wd = .most) ∧ ∃ c, ls = t ++ [c]) ∨ ((wd = .stuck ∨ wd = .fin) ∧ ls = t)) → ∀ o, H' o = none → Q (.ref o) (upd H' o (.tup [.ref e8, .ref c'])) := fun wd ls H' c' s8' ew' hc' hcs o ho => by
      have so := s8'.trans (same_new (o := .tup [.ref e8, .ref c']) ho)
      refine q _ _ ⟨(nextM M.fin k t (wts M (k.prompt ++ t))).1, wd, ls⟩ (f4.trans (f48.trans (Fr.same so))) ((k8.keep (F := []) (Fr.same so) (by simp)).mono (by omega)) ⟨t, hre, Prod.ext rfl ew', hcs⟩ (at_tup upd_same (.cons (At.up ?_ so.tups) (.cons (At.up (at_vec hc') (same_new ho).tups) .nil)))
      refine at_tup he8 (.cons hx1 (.cons ?_ .nil))
      rw [ew']
      exact .str _
    cases e : (nextM M.fin k t (wts M (k.prompt ++ t))).2 with
    | none =>
      rw [e] at he8 hst
      obtain ⟨l, el, et', _⟩ := nextM_none e
      rw [el] at hvc
      obtain rfl := hvc.intI
      refine ⟨o9, _, rfl, .inl (SqL.of e9), rfl, rfl, true, rfl, ?_⟩
      refine ⟨_, rfl, _, rfl, ll1, fun o10 ho10 => ?_⟩
      generalize hG : L2.upd H9 o10 _ = H10
      obtain ⟨s10, e10⟩ := gen_new ho10 hG
      refine catA_at (K := K) (s10 _ _ (s9 _ _ hcc)) e10 (by rw [List.length_map]; show _ + 1 ≤ 1000; omega) fun H11 c11 s11 hc11 => ?_
      have hc11' : H11 c11 = some (.tup ((t ++ [l]).map V.int)) := by rw [hc11, List.map_append]; rfl
      have s811 := s9.trans (s10.trans s11)
      refine ⟨_, rfl, e8, _, _, _, rfl, rfl, SqT.of (s811 _ _ he8), rfl, _, rfl, ?_⟩
      refine ⟨_, _, _, .ref e8, .ref c11, t ++ [l], rfl, f4.trans (f48.trans (Fr.same s811)), k8.keep (F := []) (Fr.same s811) (by simp), ?_, at_vec hc11', ?_, ?_, ?_⟩
      · refine At.up (at_tup he8 (.cons ?_ (.cons .non .nil))) s811.tups
        rw [← et']
        exact hx1
      · rw [← et']
        exact hst
      · rw [List.length_append, htl]
        rfl
      · rw [← et']
        exact hnb
    | some x =>
      rw [e] at he8
      cases x with
      | stuck =>
        refine ⟨o9, _, rfl, .inl (SqL.of e9), rfl, rfl, false, rfl, ?_⟩
        refine ⟨_, rfl, e8, _, _, _, rfl, rfl, SqT.of (s9 _ _ he8), rfl, _, rfl, ?_⟩
        exact ⟨_, rfl, _, rfl, ll2, fun o12 ho12 => fin _ _ _ _ s9 e (s9 _ _ hcc) (.inr ⟨.inl rfl, rfl⟩) o12 ho12⟩
      | fin =>
        refine ⟨o9, _, rfl, .inl (SqL.of e9), rfl, rfl, false, rfl, ?_⟩
        refine ⟨_, rfl, e8, _, _, _, rfl, rfl, SqT.of (s9 _ _ he8), rfl, _, rfl, ?_⟩
        exact ⟨_, rfl, _, rfl, ll2, fun o12 ho12 => fin _ _ _ _ s9 e (s9 _ _ hcc) (.inr ⟨.inr rfl, rfl⟩) o12 ho12⟩
      | stop =>
        obtain ⟨l, el⟩ := nextM_letter (.inl e)
        rw [el] at hvc
        obtain rfl := hvc.intI
        refine ⟨o9, _, rfl, .inl (SqL.of e9), rfl, rfl, true, rfl, ?_⟩
        refine ⟨_, rfl, _, rfl, ll1, fun o10 ho10 => ?_⟩
        generalize hG : L2.upd H9 o10 _ = H10
        obtain ⟨s10, e10⟩ := gen_new ho10 hG
        refine catA_at (K := K) (s10 _ _ (s9 _ _ hcc)) e10 (by rw [List.length_map]; show _ + 1 ≤ 1000; omega) fun H11 c11 s11 hc11 => ?_
        have hc11' : H11 c11 = some (.tup ((t ++ [l]).map V.int)) := by rw [hc11, List.map_append]; rfl
        have s811 := s9.trans (s10.trans s11)
        refine ⟨_, rfl, e8, _, _, _, rfl, rfl, SqT.of (s811 _ _ he8), rfl, _, rfl, ?_⟩
        exact ⟨_, rfl, _, rfl, ll2, fun o12 ho12 => fin _ _ _ _ s811 e hc11' (.inl ⟨.inl rfl, l, rfl⟩) o12 ho12⟩
      | most =>
        obtain ⟨l, el⟩ := nextM_letter (.inr e)
        rw [el] at hvc
        obtain rfl := hvc.intI
        refine ⟨o9, _, rfl, .inl (SqL.of e9), rfl, rfl, true, rfl, ?_⟩
        refine ⟨_, rfl, _, rfl, ll1, fun o10 ho10 => ?_⟩
        generalize hG : L2.upd H9 o10 _ = H10
        obtain ⟨s10, e10⟩ := gen_new ho10 hG
        refine catA_at (K := K) (s10 _ _ (s9 _ _ hcc)) e10 (by rw [List.length_map]; show _ + 1 ≤ 1000; omega) fun H11 c11 s11 hc11 => ?_
        have hc11' : H11 c11 = some (.tup ((t ++ [l]).map V.int)) := by rw [hc11, List.map_append]; rfl
        have s811 := s9.trans (s10.trans s11)
        refine ⟨_, rfl, e8, _, _, _, rfl, rfl, SqT.of (s811 _ _ he8), rfl, _, rfl, ?_⟩
        exact ⟨_, rfl, _, rfl, ll2, fun o12 ho12 => fin _ _ _ _ s811 e hc11' (.inl ⟨.inr rfl, l, rfl⟩) o12 ho12⟩
  · rintro σ H4 ⟨v5, v6, v7, ct, cl, t, rfl, f4, k4, hct, hcl, hre, htl, htb⟩
    have := reach_lt hm0 hre rfl
    omega
end
end Sv
end
section
set_option Elab.async false
set_option linter.all false
set_option maxRecDepth 100000
set_option maxHeartbeats 4000000
/-! What is told is what is due. -/
namespace Sv
open PySem PySem.Spec PyProof.Rows L2 HotX
/-- data of at most n tuples inside one another, no truth values, short -/
inductive Sm : Nat → PyData → Prop
  | non (n : Nat) : Sm n .none
  | int (n : Nat) (i : Int) : Sm n (.int i)
  | str (n : Nat) (x : Str) : Sm n (.str x)
  | tup {n : Nat} {ds : List PyData} (h : ∀ d ∈ ds, Sm n d) (l : ds.length ≤ 1000) : Sm (n + 1) (.tuple ds)
def p_same (n : Nat) : P2 := fun a b H Q => ∃ d, Sm n d ∧ At H a d ∧ At H b d ∧ Q (.bl true) H
section
variable {P : Program} {w : World} {K : PySem.W.Frag} {mg : Str → Option Value} {base : Heap}
abbrev N_law_same : List Str := ["_law_told", "_law_due", "_law_k"]
theorem sc_law_same : FnScope N_law_same ["_law_told", "_law_due"] (defScope s_law_same) := ⟨rfl, rfl, rfl, by decide +kernel, rfl, by decide +kernel, by decide +kernel⟩
theorem same0 (T : Txt K mg) : GFn P w K mg base 1 "_law_same" ["_law_told", "_law_due"] (Sp2 (p_same 0)) := by
  refine gfn T.d_law_same T.g_law_same sc_law_same (fun _ _ _ _ _ _ us hl => match us, hl with | [_, _], _ => rfl) len2 fun cdv A outer s H vs Q E hr h => ?_
  obtain ⟨a0, a1, rfl, d, hs, hx, hy, q⟩ := h
  refine ⟨_, pss_cons (ps_if (pt_val (pe_callB call_isi (by rfl) T.b_isinstance (by decide +kernel) (pa_cons (pv 1) (pa_cons (pe_bltn (v := .ty "tuple") (by rfl) T.b_tuple (by decide +kernel) rfl) pa_nil)))) (pss_never) (pss_nil))
      (pss_cons (ps_if (pt_cmp (pc_isN (pv 1))) (pss_one (ps_ret (pe_cmp (pc_isN (pv 0))))) (pss_nil))
      (pss_cons (ps_if (pt_val (pe_callB call_isi (by rfl) T.b_isinstance (by decide +kernel) (pa_cons (pv 1) (pa_cons (pe_bltn (v := .ty "bool") (by rfl) T.b_bool (by decide +kernel) rfl) pa_nil)))) (pss_one (ps_ret (pe_and (pe_callB call_isi (by rfl) T.b_isinstance (by decide +kernel) (pa_cons (pv 0) (pa_cons (pe_bltn (v := .ty "bool") (by rfl) T.b_bool (by decide +kernel) rfl) pa_nil))) (pe_one (pe_cmpR op_eq (pv 0) (pv 1) (nomark _)))))) (pss_nil))
      (pss_cons (ps_if (pt_val (pe_callB call_isi (by rfl) T.b_isinstance (by decide +kernel) (pa_cons (pv 1) (pa_cons (pe_bltn (v := .ty "str") (by rfl) T.b_str (by decide +kernel) rfl) pa_nil)))) (pss_one (ps_ret (pe_and (pe_callB call_isi (by rfl) T.b_isinstance (by decide +kernel) (pa_cons (pv 0) (pa_cons (pe_bltn (v := .ty "str") (by rfl) T.b_str (by decide +kernel) rfl) pa_nil))) (pe_one (pe_cmpR op_eq (pv 0) (pv 1) (nomark _)))))) (pss_nil))
      (pss_one (ps_ret (pe_and (pe_callB call_isi (by rfl) T.b_isinstance (by decide +kernel) (pa_cons (pv 0) (pa_cons (pe_bltn (v := .ty "int") (by rfl) T.b_int (by decide +kernel) rfl) pa_nil))) (pe_and (pe_not (pe_callB call_isi (by rfl) T.b_isinstance (by decide +kernel) (pa_cons (pv 0) (pa_cons (pe_bltn (v := .ty "bool") (by rfl) T.b_bool (by decide +kernel) rfl) pa_nil)))) (pe_one (pe_cmpR op_eq (pv 0) (pv 1) (nomark _)))))))))), ?_⟩
  cases hs
  · obtain rfl := hx.nonI
    obtain rfl := hy.nonI
    exact ⟨_, rfl, .non, .ty "tuple", _, _, false, rfl, .ty _, .base .non, kit_ty (by decide +kernel), false, rfl, _, rfl, _, rfl, _, rfl, q⟩
  · rename_i i
    obtain rfl := hx.intI
    obtain rfl := hy.intI
    refine ⟨_, rfl, .int i, .ty "tuple", _, _, false, rfl, .ty _, .base (.int _), kit_ty (by decide +kernel), false, rfl, _, rfl, _, rfl, _, rfl, .int i, .ty "bool", _, _, false, rfl, .ty _, .base (.int _), kit_ty (by decide +kernel), false, rfl, ?_⟩
    refine ⟨_, rfl, .int i, .ty "str", _, _, false, rfl, .ty _, .base (.int _), kit_ty (by decide +kernel), false, rfl, ?_⟩
    refine ⟨_, rfl, .int i, .ty "int", _, _, true, rfl, .ty _, .base (.int _), kit_ty (by decide +kernel), true, rfl, ?_⟩
    refine ⟨_, rfl, .int i, .ty "bool", _, _, false, rfl, .ty _, .base (.int _), kit_ty (by decide +kernel), false, rfl, true, rfl, ?_⟩
    refine ⟨_, rfl, _, rfl, rfl, ?_⟩
    rw [dec_t rfl]
    exact q
  · rename_i x
    obtain rfl := hx.strI
    obtain rfl := hy.strI
    refine ⟨_, rfl, .str x, .ty "tuple", _, _, false, rfl, .ty _, .base (.str _), kit_ty (by decide +kernel), false, rfl, _, rfl, _, rfl, _, rfl, .str x, .ty "bool", _, _, false, rfl, .ty _, .base (.str _), kit_ty (by decide +kernel), false, rfl, ?_⟩
    refine ⟨_, rfl, .str x, .ty "str", _, _, true, rfl, .ty _, .base (.str _), kit_ty (by decide +kernel), true, rfl, ?_⟩
    refine ⟨_, rfl, .str x, .ty "str", _, _, true, rfl, .ty _, .base (.str _), kit_ty (by decide +kernel), true, rfl, ?_⟩
    refine ⟨_, rfl, _, rfl, rfl, ?_⟩
    rw [dec_t rfl]
    exact q
theorem sameS (T : Txt K mg) {n k : Nat} (G : GFn P w K mg base k "_law_same" ["_law_told", "_law_due"] (Sp2 (p_same n))) : GFn P w K mg base (k + 1) "_law_same" ["_law_told", "_law_due"] (Sp2 (p_same (n + 1))) := by
  refine gfn T.d_law_same T.g_law_same sc_law_same (fun _ _ _ _ _ _ us hl => match us, hl with | [_, _], _ => rfl) len2 fun cdv A outer s H vs Q E hr1 h => ?_
  obtain ⟨a0, a1, rfl, d, hs, hx, hy, q⟩ := h
  refine ⟨_, pss_cons (ps_if (pt_val (pe_callB call_isi (by rfl) T.b_isinstance (by decide +kernel) (pa_cons (pv 1) (pa_cons (pe_bltn (v := .ty "tuple") (by rfl) T.b_tuple (by decide +kernel) rfl) pa_nil)))) (pss_cons (ps_if (PW.pt (pw_or (pt_not (pt_val (pe_callB call_isi (by rfl) T.b_isinstance (by decide +kernel) (pa_cons (pv 0) (pa_cons (pe_bltn (v := .ty "tuple") (by rfl) T.b_tuple (by decide +kernel) rfl) pa_nil))))) (pw_or1 (pt_cmpR op_ne (pe_callB call_len_seq (by rfl) T.b_len PySem.boot_len (pa_cons (pv 0) pa_nil)) (pe_callB call_len_seq (by rfl) T.b_len PySem.boot_len (pa_cons (pv 1) pa_nil)) (nomark _))))) (pss_one (ps_ret (pe_bl))) (pss_nil))
      (pss_cons (ps_for PassesOwn.never rfl (pi_range1 (by rfl) T.b_range (pa_cons (pe_callB call_len_seq (by rfl) T.b_len PySem.boot_len (pa_cons (pv 1) pa_nil)) pa_nil)) (pg_name (i := 2) sc_law_same.nd rfl (Or.inl rfl))
      (pss_one (ps_if (pt_not (pt_val (pe_g G hr1 (pa_cons (pe_ix ix_tup (pv 0) (pv 2) (fun _ _ => rfl)) (pa_cons (pe_ix ix_tup (pv 1) (pv 2) (fun _ _ => rfl)) pa_nil))))) (pss_one (ps_ret (pe_bl))) (pss_nil))))
      (pss_one (ps_ret (pe_bl))))) (pss_nil))
      (pss_cons (ps_if (pt_cmp (pc_isN (pv 1))) (pss_one (ps_ret (pe_cmp (pc_isN (pv 0))))) (pss_nil))
      (pss_cons (ps_if (pt_val (pe_callB call_isi (by rfl) T.b_isinstance (by decide +kernel) (pa_cons (pv 1) (pa_cons (pe_bltn (v := .ty "bool") (by rfl) T.b_bool (by decide +kernel) rfl) pa_nil)))) (pss_one (ps_ret (pe_and (pe_callB call_isi (by rfl) T.b_isinstance (by decide +kernel) (pa_cons (pv 0) (pa_cons (pe_bltn (v := .ty "bool") (by rfl) T.b_bool (by decide +kernel) rfl) pa_nil))) (pe_one (pe_cmpR op_eq (pv 0) (pv 1) (nomark _)))))) (pss_nil))
      (pss_cons (ps_if (pt_val (pe_callB call_isi (by rfl) T.b_isinstance (by decide +kernel) (pa_cons (pv 1) (pa_cons (pe_bltn (v := .ty "str") (by rfl) T.b_str (by decide +kernel) rfl) pa_nil)))) (pss_one (ps_ret (pe_and (pe_callB call_isi (by rfl) T.b_isinstance (by decide +kernel) (pa_cons (pv 0) (pa_cons (pe_bltn (v := .ty "str") (by rfl) T.b_str (by decide +kernel) rfl) pa_nil))) (pe_one (pe_cmpR op_eq (pv 0) (pv 1) (nomark _)))))) (pss_nil))
      (pss_one (ps_ret (pe_and (pe_callB call_isi (by rfl) T.b_isinstance (by decide +kernel) (pa_cons (pv 0) (pa_cons (pe_bltn (v := .ty "int") (by rfl) T.b_int (by decide +kernel) rfl) pa_nil))) (pe_and (pe_not (pe_callB call_isi (by rfl) T.b_isinstance (by decide +kernel) (pa_cons (pv 0) (pa_cons (pe_bltn (v := .ty "bool") (by rfl) T.b_bool (by decide +kernel) rfl) pa_nil)))) (pe_one (pe_cmpR op_eq (pv 0) (pv 1) (nomark _)))))))))), ?_⟩
  cases hs
  · obtain rfl := hx.nonI
    obtain rfl := hy.nonI
    exact ⟨_, rfl, .non, .ty "tuple", _, _, false, rfl, .ty _, .base .non, kit_ty (by decide +kernel), false, rfl, _, rfl, _, rfl, _, rfl, q⟩
  · rename_i i
    obtain rfl := hx.intI
    obtain rfl := hy.intI
    refine ⟨_, rfl, .int i, .ty "tuple", _, _, false, rfl, .ty _, .base (.int _), kit_ty (by decide +kernel), false, rfl, _, rfl, _, rfl, _, rfl, .int i, .ty "bool", _, _, false, rfl, .ty _, .base (.int _), kit_ty (by decide +kernel), false, rfl, ?_⟩
    refine ⟨_, rfl, .int i, .ty "str", _, _, false, rfl, .ty _, .base (.int _), kit_ty (by decide +kernel), false, rfl, ?_⟩
    refine ⟨_, rfl, .int i, .ty "int", _, _, true, rfl, .ty _, .base (.int _), kit_ty (by decide +kernel), true, rfl, ?_⟩
    refine ⟨_, rfl, .int i, .ty "bool", _, _, false, rfl, .ty _, .base (.int _), kit_ty (by decide +kernel), false, rfl, true, rfl, ?_⟩
    refine ⟨_, rfl, _, rfl, rfl, ?_⟩
    rw [dec_t rfl]
    exact q
  · rename_i x
    obtain rfl := hx.strI
    obtain rfl := hy.strI
    refine ⟨_, rfl, .str x, .ty "tuple", _, _, false, rfl, .ty _, .base (.str _), kit_ty (by decide +kernel), false, rfl, _, rfl, _, rfl, _, rfl, .str x, .ty "bool", _, _, false, rfl, .ty _, .base (.str _), kit_ty (by decide +kernel), false, rfl, ?_⟩
    refine ⟨_, rfl, .str x, .ty "str", _, _, true, rfl, .ty _, .base (.str _), kit_ty (by decide +kernel), true, rfl, ?_⟩
    refine ⟨_, rfl, .str x, .ty "str", _, _, true, rfl, .ty _, .base (.str _), kit_ty (by decide +kernel), true, rfl, ?_⟩
    refine ⟨_, rfl, _, rfl, rfl, ?_⟩
    rw [dec_t rfl]
    exact q
  · rename_i ds hl hds
    obtain ⟨e1, xs, rfl, he1, r1⟩ := hx.tupI
    obtain ⟨e2, ys, rfl, he2, r2⟩ := hy.tupI
    have l1 := r1.len
    have l2 := r2.len
    refine ⟨_, rfl, .ref e2, .ty "tuple", _, _, true, rfl, .ty _, .base (.tup he2), kit_ty (by decide +kernel), true, rfl, ?_⟩
    refine ⟨_, rfl, .ref e1, .ty "tuple", _, _, true, rfl, .ty _, .base (.tup he1), kit_ty (by decide +kernel), true, rfl, ?_⟩
    refine ⟨_, rfl, e1, _, rfl, .inr (SqT.of he1), _, rfl, e2, _, rfl, .inr (SqT.of he2), rfl, _, rfl, ?_⟩
    rw [l1, l2, dec_t rfl]
    refine ⟨_, rfl, e2, _, rfl, .inr (SqT.of he2), ((ys.length : Nat) : Int), rfl, by omega, by omega, for_range (lo := 0) (n := ys.length) (fun i σ H' => ∃ v2, σ = [some (.ref e1), some (.ref e2), v2] ∧ H' = H) ⟨_, rfl, rfl⟩ ?_ ?_⟩
    · rintro i σ H' hi ⟨v2, rfl, rfl⟩
      have hd : ds[i]? = some ds[i] := List.getElem?_eq_getElem (by omega)
      obtain ⟨x, hx1, hx2⟩ := r1.getD hd
      obtain ⟨y, hy1, hy2⟩ := r2.getD hd
      have ei1 : atI xs ((0 : Int) + (i : Nat)) = some x := by rw [Int.zero_add]; exact atI_nat hx1
      have ei2 : atI ys ((0 : Int) + (i : Nat)) = some y := by rw [Int.zero_add]; exact atI_nat hy1
      exact ⟨_, rfl, _, rfl, e1, _, _, _, rfl, rfl, SqT.of he1, ei1, _, rfl, _, rfl, e2, _, _, _, rfl, rfl, SqT.of he2, ei2, _, _, rfl, ds[i], hds _ (List.getElem_mem _), hx2, hy2, true, rfl, _, rfl, rfl⟩
    · rintro σ H' ⟨v2, rfl, rfl⟩
      exact q
theorem ok_law_same (T : Txt K mg) : GFn P w K mg base 3 "_law_same" ["_law_told", "_law_due"] (Sp2 (p_same 2)) := sameS T (sameS T (same0 T))
end
end Sv
end
section
set_option autoImplicit false
set_option linter.all false
set_option maxRecDepth 100000
set_option maxHeartbeats 1000000
/-! The house in plain Lean: at first, and with one more ask. -/
namespace Sv
theorem HGood.init {M : NetM} {L w m s : Nat} (nok : NetOk M L w) (h1 : 1 ≤ m) (h2 : m ≤ 60) (h3 : 1 ≤ s) (h4 : s ≤ 8) : HGood M L w ⟨⟨m, s, List.replicate m 0, List.replicate m []⟩, ⟨[], [], [], 0⟩, []⟩ := by
  refine ⟨⟨fun _ => 0, ?_, fun i r hr => by simp at hr⟩, fun i r hr => by simp at hr, fun i r hr => by simp at hr⟩
  have c0 : ∀ b, (⟨m, s, List.replicate m 0, List.replicate m []⟩ : StoreM).c b = 0 := fun b => by
    unfold StoreM.c
    rw [List.getD_eq_getElem?_getD, List.getElem?_replicate]
    split <;> rfl
  have k0 : ∀ b, (⟨m, s, List.replicate m 0, List.replicate m []⟩ : StoreM).k b = [] := fun b => by
    unfold StoreM.k
    rw [List.getD_eq_getElem?_getD, List.getElem?_replicate]
    split <;> rfl
  exact { net := nok, s0 := h3, s8 := h4, m60 := h2, lc := List.length_replicate, lk := List.length_replicate, cnt := fun b _ => by rw [c0]; rfl, zer := fun b _ _ => k0 b, pnd := .nil, pmem := fun q => ⟨fun h => by simp at h, fun h => by simp [TreeM.has, aget] at h⟩, und := .nil, usd := .nil, use := fun q => rfl, plen := fun q h => by simp at h, ppre := fun q h => by simp at h, pblk := fun q h => by simp at h, pinj := fun q h => by simp at h, req := fun i r hr => by simp at hr }
theorem HGood.add {M : NetM} {L w : Nat} {D : HouseM} (g : HGood M L w D) {k : AskM} (ok : AskOk k L) : HGood M L w { D with rs := D.rs ++ [⟨k, [], none, [], 0⟩] } := by
  have sp : ∀ (i : Nat) (r : ReqM), (D.rs ++ [(⟨k, [], none, [], 0⟩ : ReqM)])[i]? = some r → (i < D.rs.length ∧ D.rs[i]? = some r) ∨ (i = D.rs.length ∧ r = ⟨k, [], none, [], 0⟩) := fun i r hr => by
    by_cases e : i < D.rs.length
    · rw [List.getElem?_append_left e] at hr
      exact .inl ⟨e, hr⟩
    · have h1 := (List.getElem?_eq_some_iff.mp hr).1
      rw [List.length_append] at h1
      have e2 : i = D.rs.length := by
        have : i < D.rs.length + 1 := h1
        omega
      subst e2
      rw [List.getElem?_append_right (Nat.le_refl _), Nat.sub_self] at hr
      cases hr
      exact .inr ⟨rfl, rfl⟩
  obtain ⟨f, h, hf⟩ := g.ex
  refine ⟨⟨_, h.add ok, fun i r hr => ?_⟩, fun i r hr hw => ?_, fun i r hr => ?_⟩
  · rcases sp i r hr with ⟨e, hr'⟩ | ⟨rfl, rfl⟩
    · rw [fset_ne _ _ (Nat.ne_of_lt e)]
      exact hf i r hr'
    · rw [fset_same]
      exact (Nat.zero_div _).symm
  · rcases sp i r hr with ⟨e, hr'⟩ | ⟨rfl, rfl⟩
    · exact g.go i r hr' hw
    · show 0 < (k.prompt ++ []).length
      rw [List.append_nil]
      exact ok.p0
  · rcases sp i r hr with ⟨e, hr'⟩ | ⟨rfl, rfl⟩
    · exact g.re i r hr'
    · exact .start
theorem needM_add (D : HouseM) (r : ReqM) : needM { D with rs := D.rs ++ [r] } = needM D + needR D.S.size r := by
  unfold needM
  simp
theorem needR_int {k : AskM} {L s : Nat} (ok : AskOk k L) (hs : 1 ≤ s) : (((k.prompt.length : Nat) : Int) + k.most + (s : Nat) - 2) / ((s : Nat) : Int) = ((needR s ⟨k, [], none, [], 0⟩ : Nat) : Int) := by
  have h0 := ok.p0
  have h1 := ok.m0
  show _ = (((k.prompt.length + k.most.toNat + s - 2) / s : Nat) : Int)
  rw [Int.natCast_ediv]
  congr 1
  omega
structure AllS (M : NetM) (D : HouseM) (xs : List AloneM) : Prop where
  len : xs.length = D.rs.length
  ok : ∀ (i : Nat) x r, xs[i]? = some x → D.rs[i]? = some r → AloneS M r.ask x
theorem AllS.add {M : NetM} {D : HouseM} {xs : List AloneM} (h : AllS M D xs) {k : AskM} {x : AloneM} (hx : AloneS M k x) : AllS M { D with rs := D.rs ++ [⟨k, [], none, [], 0⟩] } (xs ++ [x]) := by
  refine ⟨by simp [h.len], fun i y r hy hr => ?_⟩
  have hr' : (D.rs ++ [(⟨k, [], none, [], 0⟩ : ReqM)])[i]? = some r := hr
  by_cases e : i < D.rs.length
  · rw [List.getElem?_append_left e] at hr'
    rw [List.getElem?_append_left (by rw [h.len]; exact e)] at hy
    exact h.ok i y r hy hr'
  · have h1 := (List.getElem?_eq_some_iff.mp hr').1
    rw [List.length_append] at h1
    have e2 : i = D.rs.length := by
      have : i < D.rs.length + 1 := h1
      omega
    subst e2
    rw [List.getElem?_append_right (Nat.le_refl _), Nat.sub_self] at hr'
    rw [← h.len, List.getElem?_append_right (Nat.le_refl _), Nat.sub_self] at hy
    cases hr'
    cases hy
    exact hx
end Sv
end
section
set_option Elab.async false
set_option linter.all false
set_option maxRecDepth 100000
set_option maxHeartbeats 4000000
/-! Each request is as alone. -/
namespace Sv
open PySem PySem.Spec PyProof.Rows L2 HotX
def p_law_right (K : PySem.W.Frag) : P2 := fun a b H Q => ∃ (A : HouseA) (M : NetM) (L w : Nat) (D : HouseM) (al : Addr) (vs : List V) (xs : List AloneM), a = .ref A.hp ∧ HouseAt K H A M D ∧ HGood M L w D ∧ b = .ref al ∧ H al = some (.lst vs) ∧ AtAll H vs (xs.map dAlone) ∧ AllS M D xs ∧ xs.length ≤ 100 ∧ ∀ H', Same H H' → Q (.bl true) H'
theorem sm_vec (n : Nat) {ns : List Int} (h : ns.length ≤ 1000) : Sm (n + 1) (dVec ns) := .tup (fun d hd => by
  obtain ⟨i, _, rfl⟩ := List.mem_map.mp hd
  exact .int _ i) (by rw [List.length_map]; exact h)
section
variable {P : Program} {w : World} {K : PySem.W.Frag} {mg : Str → Option Value} {base : Heap}
abbrev N_law_right : List Str := ["_law_house", "_law_alones", "_law_ticket", "_law_word", "_law_text"]
theorem sc_law_right : FnScope N_law_right ["_law_house", "_law_alones"] (defScope s_law_right) := ⟨rfl, rfl, rfl, by decide +kernel, rfl, by decide +kernel, by decide +kernel⟩
theorem ok_law_right (T : Txt K mg) : GFn P w K mg base 6 "_law_right" ["_law_house", "_law_alones"] (Sp2 (p_law_right K)) := by
  refine gfn T.d_law_right T.g_law_right sc_law_right (fun _ _ _ _ _ _ us hl => match us, hl with | [_, _], _ => rfl) len2 fun cdv A outer s H vs Q E hr h => ?_
  obtain ⟨a0, a1, rfl, h⟩ := h
  refine ⟨_, pss_cons (ps_for PassesOwn.never rfl (pi_range1 (by rfl) T.b_range (pa_cons (pe_callB call_len_seq (by rfl) T.b_len PySem.boot_len (pa_cons (pv 1) pa_nil)) pa_nil)) (pg_name (i := 2) sc_law_right.nd rfl (Or.inl rfl))
      (pss_cons (ps_set (i := 3) sc_law_right.nd rfl (Or.inl rfl) (pe_m (ok_House_word T) T.cl_House (hr.mono (by decide)) (pv 0) (pa_cons (pv 2) pa_nil)))
      (pss_cons (ps_set (i := 4) sc_law_right.nd rfl (Or.inl rfl) (pe_m (ok_House_text T) T.cl_House (hr.mono (by decide)) (pv 0) (pa_cons (pv 2) pa_nil)))
      (pss_cons (ps_if (PW.pt (pw_and (pt_cmp (pc_isN (pv 3))) (pw_and1 (pt_not (pt_val (pe_g (ok_law_same T) (hr.mono (by decide)) (pa_cons (pv 4) (pa_cons (pe_slice sl_tupA (pe_ix ix_tup (pe_ix ix_list (pv 1) (pv 2) (fun _ _ => rfl)) (pe_int) (fun _ _ => rfl)) po_none (po_some (pe_callB call_len_seq (by rfl) T.b_len PySem.boot_len (pa_cons (pv 4) pa_nil)))) pa_nil)))))))) (pss_one (ps_ret (pe_bl))) (pss_nil))
      (pss_cons (ps_if (PW.pt (pw_and (pt_cmp (pc_notN (pv 3))) (pw_and1 (pt_not (pt_val (pe_g (ok_law_same T) (hr.mono (by decide)) (pa_cons (pe_tup (pa_cons (pv 4) (pa_cons (pv 3) pa_nil))) (pa_cons (pe_ix ix_tup (pe_ix ix_list (pv 1) (pv 2) (fun _ _ => rfl)) (pe_int) (fun _ _ => rfl)) pa_nil)))))))) (pss_one (ps_ret (pe_bl))) (pss_nil))
      (pss_one (ps_if (PW.pt (pw_and (pt_cmp (pc_isN (pv 3))) (pw_and (pt_cmpR op_eq (pe_callB call_len_seq (by rfl) T.b_len PySem.boot_len (pa_cons (pv 4) pa_nil)) (pe_callB call_len_seq (by rfl) T.b_len PySem.boot_len (pa_cons (pe_ix ix_tup (pe_ix ix_list (pv 1) (pv 2) (fun _ _ => rfl)) (pe_int) (fun _ _ => rfl)) pa_nil)) (nomark _)) (pw_and1 (pt_cmpR op_in_seq (pe_ix ix_tup (pe_ix ix_tup (pe_ix ix_list (pv 1) (pv 2) (fun _ _ => rfl)) (pe_int) (fun _ _ => rfl)) (pe_int) (fun _ _ => rfl)) (pe_lst (pa_cons (pe_str) (pa_cons (pe_str) pa_nil))) (by rfl)))))) (pss_one (ps_ret (pe_bl))) (pss_nil))))))))
      (pss_one (ps_ret (pe_bl))), ?_⟩
  obtain ⟨A, M, L, w', D, al, vs, xs, rfl, ho, hg, rfl, hal, hvs, hall, hxl, q⟩ := h
  have hvl := hvs.len
  rw [List.length_map] at hvl
  refine ⟨_, rfl, al, _, rfl, .inl (SqL.of hal), ((vs.length : Nat) : Int), rfl, by omega, by omega, for_range (lo := 0) (n := vs.length) (fun i σ H' => ∃ v2 v3 v4, σ = [some (.ref A.hp), some (.ref al), v2, v3, v4] ∧ Same H H')
    ⟨_, _, _, rfl, Same.refl _⟩ ?_ ?_⟩
  · rintro i σ H1 hi ⟨v2, v3, v4, rfl, s1⟩
    have hiD : i < D.rs.length := by rw [← hall.len]; omega
    have hix : i < xs.length := by omega
    have hr : D.rs[i]? = some D.rs[i] := List.getElem?_eq_getElem hiD
    have hx : xs[i]? = some xs[i] := List.getElem?_eq_getElem hix
    have hS := hall.ok i _ _ hx hr
    obtain ⟨v, hv, hav⟩ := hvs.getD (i := i) (d := dAlone xs[i]) (by rw [List.getElem?_map, hx]; rfl)
    generalize xs[i] = x at hS hav hx
    have hre := hg.re i _ hr
    obtain ⟨f0, hI, _⟩ := hg.ex
    have htl := (hI.req i _ hr).tl
    generalize D.rs[i] = r at hr hS hre htl
    obtain ⟨dx, rm, h1⟩ := id (ho.up s1).ins
    obtain ⟨e, vw, vl, rfl, he, haw, hal2⟩ := at2 (hav.up s1.tups)
    obtain ⟨cl, rfl, hcl⟩ := id hal2.vecI
    obtain ⟨ew, vt, vd, rfl, hew, hat, had⟩ := at2 haw
    have ei : atI vs ((0 : Int) + (i : Nat)) = some (.ref e) := by rw [Int.zero_add]; exact atI_nat hv
    refine ⟨_, rfl, A.hp, dx, _, rfl, h1, rfl, _, rfl, _, _, rfl, A, M, D, i, r, rfl, by rw [Int.zero_add], ho.up s1, hr, ?_⟩
    refine ⟨_, rfl, A.hp, dx, _, rfl, h1, rfl, _, rfl, _, _, rfl, A, M, D, i, r, rfl, by rw [Int.zero_add], ho.up s1, hr, fun c hc => ?_⟩
    have hal1 := s1 _ _ hal
    obtain rfl := had.strI
    have ecx : (r.text.map V.int).length = r.text.length := List.length_map ..
    cases hw : r.wd with
    | none =>
      rw [hw] at hre
      obtain ⟨g1, g2⟩ := hS.going hre
      refine ⟨_, rfl, true, rfl, ?_⟩
      refine ⟨_, rfl, _, rfl, _, rfl, al, _, _, _, rfl, rfl, SqL.of hal1, ei, e, _, _, _, rfl, rfl, SqT.of he, rfl, _, rfl, c, _, rfl, .inr (SqT.of hc), _, rfl, ?_⟩
      refine slA_at (K := K) hcl fun H2 c2 s2 hc2 => ?_
      rw [cut_take, ← List.map_take, ecx, g1] at hc2
      refine ⟨_, _, rfl, dVec r.text, sm_vec 1 (by omega), at_vec (s2 _ _ hc), at_vec hc2, true, rfl, ?_⟩
      refine ⟨_, rfl, false, rfl, ?_⟩
      refine ⟨_, rfl, true, rfl, ?_⟩
      refine ⟨_, rfl, c, _, rfl, .inr (SqT.of (s2 _ _ hc)), _, rfl, _, rfl, al, _, _, _, rfl, rfl, SqL.of (s2 _ _ hal1), ei, e, _, _, _, rfl, rfl, SqT.of (s2 _ _ he), rfl, cl, _, rfl, .inr (SqT.of (s2 _ _ hcl)), rfl, _, rfl, ?_⟩
      rw [List.length_map, List.length_map]
      by_cases hle : r.text.length = x.ls.length
      · rw [hle, dec_t rfl]
        refine ⟨_, rfl, _, rfl, al, _, _, _, rfl, rfl, SqL.of (s2 _ _ hal1), ei, e, _, _, _, rfl, rfl, SqT.of (s2 _ _ he), rfl, ew, _, _, _, rfl, rfl, SqT.of (s2 _ _ hew), rfl, ll2, fun o ho => ?_⟩
        generalize hG : L2.upd H2 o _ = H3
        obtain ⟨s3, e3⟩ := gen_new ho hG
        refine ⟨o, _, rfl, .inl (SqL.of e3), rfl, rfl, false, ?_, _, _, _, rfl, s1.trans (s2.trans s3)⟩
        cases hx : x.wd with
        | stuck => rfl
        | fin => rfl
        | stop => exact (g2 ⟨hle, .inl hx⟩).elim
        | most => exact (g2 ⟨hle, .inr hx⟩).elim
      · rw [dec_f (show V.int (r.text.length : Int) ≠ V.int (x.ls.length : Int) from fun z => hle (by have := V.int.inj z; omega))]
        exact ⟨_, _, _, rfl, s1.trans s2⟩
    | some y =>
      rw [hw] at hre
      obtain ⟨g1, g2⟩ := hS.ended hre
      refine ⟨_, rfl, false, rfl, ?_⟩
      refine ⟨_, rfl, true, rfl, ?_⟩
      refine ⟨_, rfl, _, rfl, ll2, fun o ho => ?_⟩
      generalize hG : L2.upd H1 o _ = H2
      obtain ⟨s2, e2⟩ := gen_new ho hG
      refine ⟨_, rfl, _, rfl, al, _, _, _, rfl, rfl, SqL.of (s2 _ _ hal1), ei, e, _, _, _, rfl, rfl, SqT.of (s2 _ _ he), rfl, ?_⟩
      refine ⟨_, _, rfl, .tuple [dVec r.text, .str (wdS y)], .tup (fun d hd => ?_) (by show (2 : Nat) ≤ 1000; decide), at_tup e2 (.cons (at_vec (s2 _ _ hc)) (.cons (.str _) .nil)), ?_, true, rfl, ?_⟩
      · simp only [List.mem_cons, List.not_mem_nil, or_false] at hd
        rcases hd with rfl | rfl
        · exact sm_vec 0 (by omega)
        · exact .str _ _
      · rw [g1, g2]
        exact haw.up s2.tups
      · refine ⟨_, rfl, false, rfl, ?_⟩
        exact ⟨_, _, _, rfl, s1.trans s2⟩
  · rintro σ H1 ⟨v2, v3, v4, rfl, s1⟩
    exact q H1 s1
end
end Sv
end
section
set_option Elab.async false
set_option linter.all false
set_option maxRecDepth 100000
set_option maxHeartbeats 4000000
/-! What stands while the law runs. -/
namespace Sv
open PySem PySem.Spec PyProof.Rows L2 HotX
structure LSt (K : PySem.W.Frag) (H : Hp) (M : NetM) (L w : Nat) (A : HouseA) (D : HouseM) (pa kn al lt : Addr) (vn : V) (ls : List Int) (n : Nat) (vs : List V) (xs : List AloneM) : Prop where
  pool : PoolAt H pa
  net : At H vn (NetD M)
  base : H lt = some (.tup (ls.map V.int))
  ho : HouseAt K H A M D
  hg : HGood M L w D
  hk : KnownAt M H kn n
  ha : H al = some (.lst vs)
  av : AtAll H vs (xs.map dAlone)
  all : AllS M D xs
  sep : ∀ a ∈ A.all, a ≠ pa ∧ a ≠ kn ∧ a ≠ al
  npa : pa ≠ al
theorem pool_kn {M : NetM} {H : Hp} {pa kn : Addr} {n : Nat} (p : PoolAt H pa) (k : KnownAt M H kn n) : pa ≠ kn := fun z => by
  obtain ⟨_, _, h1, _⟩ := p
  obtain ⟨_, h2, _⟩ := k.ex
  rw [z, h2] at h1
  cases h1
theorem lst_kn {M : NetM} {H : Hp} {al kn : Addr} {vs : List V} {n : Nat} (h : H al = some (.lst vs)) (k : KnownAt M H kn n) : al ≠ kn := fun z => by
  obtain ⟨_, h2, _⟩ := k.ex
  rw [z, h2] at h
  cases h
section
variable {K : PySem.W.Frag} {H H' : Hp} {M : NetM} {L w : Nat} {A : HouseA} {D : HouseM} {pa kn al lt : Addr} {vn : V} {ls : List Int} {n : Nat} {vs : List V} {xs : List AloneM}
theorem LSt.draw (h : LSt K H M L w A D pa kn al lt vn ls n vs xs) (f : Fr [pa] H H') (p : PoolAt H' pa) : LSt K H' M L w A D pa kn al lt vn ls n vs xs :=
  ⟨p, h.net.up f.t, f.t _ _ rfl h.base, h.ho.keep f (fun a ha => by simp; exact (h.sep a ha).1), h.hg, h.hk.keep f (by simp; exact Ne.symm (pool_kn h.pool h.hk)), f.k _ _ (by simp; exact Ne.symm h.npa) h.ha, h.av.up f.t, h.all, h.sep, h.npa⟩
theorem LSt.up (h : LSt K H M L w A D pa kn al lt vn ls n vs xs) (s : Same H H') : LSt K H' M L w A D pa kn al lt vn ls n vs xs := h.draw (Fr.same s) (h.pool.keep (F := []) (Fr.same s) (by simp))
theorem AllS.step {D' : HouseM} (h : AllS M D xs) (s : StepR D D') : AllS M D' xs := by
  refine ⟨by rw [s.len]; exact h.len, fun i x r hx hr => ?_⟩
  have hi : i < D.rs.length := by rw [← s.len]; exact (List.getElem?_eq_some_iff.mp hr).1
  obtain ⟨r', e1, e2⟩ := s.get (List.getElem?_eq_getElem hi)
  rw [hr] at e1
  cases e1
  rw [e2]
  exact h.ok i x _ hx (List.getElem?_eq_getElem hi)
theorem LSt.fresh (h : LSt K H M L w A D pa kn al lt vn ls n vs xs) {a : Addr} (ha : H a = none) : a ∉ A.all ∧ a ≠ pa ∧ a ≠ kn ∧ a ≠ al :=
  ⟨fun m => h.ho.there a m ha, fun z => h.pool.there (by rw [← z]; exact ha), (fun z => by
    obtain ⟨_, h2, _⟩ := h.hk.ex
    rw [← z, ha] at h2
    cases h2), fun z => by
    have := h.ha
    rw [← z, ha] at this
    cases this⟩
theorem LSt.stepd (h : LSt K H M L w A D pa kn al lt vn ls n vs xs) {D' : HouseM} {pl' : Addr} (f : Fr A.mut H H') (hp : pl' = A.pl ∨ H pl' = none) (ho : HouseAt K H' { A with pl := pl' } M D') (hg : HGood M L w D') (sr : StepR D D') : LSt K H' M L w { A with pl := pl' } D' pa kn al lt vn ls n vs xs := by
  have nm : ∀ x, (∀ a ∈ A.all, a ≠ x) → x ∉ A.mut := fun x hx m => hx x (A.mut_all x m) rfl
  refine ⟨h.pool.keep f (nm _ fun a ha => (h.sep a ha).1), h.net.up f.t, f.t _ _ rfl h.base, ho, hg, h.hk.keep f (nm _ fun a ha => (h.sep a ha).2.1), f.k _ _ (nm _ fun a ha => (h.sep a ha).2.2) h.ha, h.av.up f.t, h.all.step sr, fun a ha => ?_, h.npa⟩
  have : a ∈ A.all ∨ a = pl' := by
    simp only [HouseA.all, List.mem_append, List.mem_cons, List.not_mem_nil, or_false] at ha ⊢
    rcases ha with (ha | ha) | ha
    · rcases ha with ha | ha | ha | ha | ha | ha | ha | ha <;> simp [ha]
    · exact .inl (.inl (.inr ha))
    · exact .inl (.inr ha)
  rcases this with m | rfl
  · exact h.sep a m
  · rcases hp with e | e
    · rw [e]
      exact h.sep _ (mem_all (by simp))
    · exact (h.fresh e).2
theorem LSt.add {H4 H5 H6 : Hp} (h : LSt K H M L w A D pa kn al lt vn ls n vs xs) {k : AskM} {rp ap tb : Addr} {m : Nat} {v : V} {x : AloneM} (ok : AskOk k L) (f4 : Fr [A.rq] H H4) (hrp : H rp = none) (htb : H tb = none) (ho4 : HouseAt K H4 { A with ra := A.ra ++ [⟨rp, ap, tb⟩] } M { D with rs := D.rs ++ [⟨k, [], none, [], 0⟩] })
    (f5 : Fr [kn] H4 H5) (hk5 : KnownAt M H5 kn m) (hS : AloneS M k x) (hv : At H5 v (dAlone x)) (f6 : Fr [al] H5 H6) (e6 : H6 al = some (.lst (vs ++ [v]))) :
    LSt K H6 M L w { A with ra := A.ra ++ [⟨rp, ap, tb⟩] } { D with rs := D.rs ++ [⟨k, [], none, [], 0⟩] } pa kn al lt vn ls m (vs ++ [v]) (xs ++ [x]) := by
  have hq := h.sep A.rq (mem_all (by simp))
  have sep' : ∀ a ∈ ({ A with ra := A.ra ++ [⟨rp, ap, tb⟩] } : HouseA).all, a ≠ pa ∧ a ≠ kn ∧ a ≠ al := fun a ha => by
    have : a ∈ A.all ∨ a = rp ∨ a = tb := by
      simp only [HouseA.all, List.map_append, List.mem_append, List.map_cons, List.map_nil, List.mem_cons, List.not_mem_nil, or_false] at ha ⊢
      rcases ha with (ha | ha | ha) | ha | ha
      · exact .inl (.inl (.inl ha))
      · exact .inl (.inl (.inr ha))
      · exact .inr (.inl ha)
      · exact .inl (.inr ha)
      · exact .inr (.inr ha)
    rcases this with m | rfl | rfl
    · exact h.sep a m
    · exact (h.fresh hrp).2
    · exact (h.fresh htb).2
  have npk := pool_kn h.pool h.hk
  have nak := lst_kn h.ha h.hk
  have t46 : Tups H H6 := (f4.t.trans f5.t).trans f6.t
  refine ⟨((h.pool.keep f4 (by simp; exact Ne.symm hq.1)).keep f5 (by simp; exact npk)).keep f6 (by simp; exact h.npa), h.net.up t46, t46 _ _ rfl h.base, (ho4.keep f5 fun a ha => by simp; exact (sep' a ha).2.1).keep f6 fun a ha => by simp; exact (sep' a ha).2.2, h.hg.add ok, hk5.keep f6 (by simp; exact Ne.symm nak), e6, ?_, h.all.add hS, sep', h.npa⟩
  rw [List.map_append]
  exact (h.av.up t46).snoc (hv.up f6.t)
end
end Sv
end
section
set_option Elab.async false
set_option linter.all false
set_option maxRecDepth 100000
set_option maxHeartbeats 8000000
/-! The law. -/
namespace Sv
open PySem PySem.Spec PyProof.Rows L2 HotX
theorem if_cut {t : TT} {a b : TS} {D : Ends} {σ : L2.St} {H : Hp} (Pb : Bool → Hp → Prop) (h2 : ∀ k H', Pb k H' → (if k = true then a D σ H' else b D σ H')) (h1 : ∀ N : Bool → Hp → Prop, (∀ k H', Pb k H' → N k H') → t σ H N) : tIfS t a b D σ H := h1 _ h2
def LInv (K : PySem.W.Frag) (M : NetM) (L w m s : Nat) (hp pa kn al lt : Addr) (vn : V) (ls : List Int) (need : Int) (lo : Nat) (H : Hp) : Prop := ∃ A D n vs xs, LSt K H M L w A D pa kn al lt vn ls n vs xs ∧ A.hp = hp ∧ D.S.many = m ∧ D.S.size = s ∧ n ≤ xs.length * 160 ∧ xs.length ≤ 6 ∧ lo ≤ xs.length ∧ need = (needM D : Nat)
theorem LInv.draw {K : PySem.W.Frag} {M : NetM} {L w m s : Nat} {hp pa kn al lt : Addr} {vn : V} {ls : List Int} {need : Int} {lo : Nat} {H H' : Hp} (h : LInv K M L w m s hp pa kn al lt vn ls need lo H) (f : Fr [pa] H H') (p : PoolAt H' pa) : LInv K M L w m s hp pa kn al lt vn ls need lo H' := by
  obtain ⟨A, D, n, vs, xs, h1, h2⟩ := h
  exact ⟨A, D, n, vs, xs, h1.draw f p, h2⟩
def dPr (q : Nat × Nat) : PyData := dVec [(q.1 : Int), (q.2 : Int)]
abbrev szs : List V := [.int 1, .int 1, .int 2, .int 2, .int 3, .int 3, .int 4, .int 8]
theorem szs_ok : ∀ v ∈ szs, ∃ n : Nat, v = .int n ∧ 1 ≤ n ∧ n ≤ 8 := by
  intro v hv
  simp only [szs, List.mem_cons, List.not_mem_nil, or_false] at hv
  rcases hv with rfl | rfl | rfl | rfl | rfl | rfl | rfl | rfl
  · exact ⟨1, rfl, by decide, by decide⟩
  · exact ⟨1, rfl, by decide, by decide⟩
  · exact ⟨2, rfl, by decide, by decide⟩
  · exact ⟨2, rfl, by decide, by decide⟩
  · exact ⟨3, rfl, by decide, by decide⟩
  · exact ⟨3, rfl, by decide, by decide⟩
  · exact ⟨4, rfl, by decide, by decide⟩
  · exact ⟨8, rfl, by decide, by decide⟩
def p_law (K : PySem.W.Frag) : P1 := fun a H Q => ∃ (p : Addr) (ns : List Int), a = .ref p ∧ SqL K H p (ns.map V.int) ∧ ns.length ≤ 63 ∧ ∀ H', Q (.bl true) H'
section
variable {P : Program} {w : World} {K : PySem.W.Frag} {mg : Str → Option Value} {base : Heap}
abbrev N_law : List Str := ["_law_script", "_law_pool_here", "_law_net_here", "_law_base", "_law_many", "_law_size", "_law_house", "_law_known", "_law_alones", "_law_need", "_law_k", "_law_ask_here", "_law_j", "_law_ticket"]
theorem sc_law : FnScope N_law ["_law_script"] (defScope s_law) := ⟨rfl, rfl, rfl, by decide +kernel, rfl, by decide +kernel, by decide +kernel⟩
theorem body_law (T : Txt K mg) : BodyP P w K mg base 10 "law" s_law N_law (Sp1 (p_law K)) (He.ga K "law") := by
  intro cdv A outer s H vs Q E hr h
  obtain ⟨a0, rfl, h⟩ := h
  refine ⟨_, pss_cons (ps_set (i := 1) sc_law.nd rfl (Or.inr rfl) (pe_g (ok_law_pool T) (hr.mono (by decide)) (pa_cons (pv 0) (pa_cons (pe_int) pa_nil))))
      (pss_cons (ps_set (i := 2) sc_law.nd rfl (Or.inl rfl) (pe_g (ok_law_net T) (hr.mono (by decide)) (pa_cons (pv 1) pa_nil)))
      (pss_cons (ps_set (i := 3) sc_law.nd rfl (Or.inl rfl) (pe_g (ok_law_letters T) (hr.mono (by decide)) (pa_cons (pv 1) (pa_cons (pv 2) (pa_cons (pe_int) pa_nil)))))
      (pss_cons (ps_set (i := 4) sc_law.nd rfl (Or.inl rfl) (pe_ix ix_list (pe_lst (pa_cons (pe_op op_add (pe_int) (pe_g (ok_law_draw T) (hr.mono (by decide)) (pa_cons (pv 1) (pa_cons (pe_int) pa_nil)))) (pa_cons (pe_op op_add (pe_int) (pe_g (ok_law_draw T) (hr.mono (by decide)) (pa_cons (pv 1) (pa_cons (pe_int) pa_nil)))) pa_nil))) (pe_callTy call_int1 (by rfl) T.b_int (by decide +kernel) (pa_cons (pe_cmpR op_eq (pe_g (ok_law_draw T) (hr.mono (by decide)) (pa_cons (pv 1) (pa_cons (pe_int) pa_nil))) (pe_int) (nomark _)) pa_nil)) (fun _ _ => rfl)))
      (pss_cons (ps_set (i := 5) sc_law.nd rfl (Or.inl rfl) (pe_ix ix_list (pe_lst (pa_cons (pe_int) (pa_cons (pe_int) (pa_cons (pe_int) (pa_cons (pe_int) (pa_cons (pe_int) (pa_cons (pe_int) (pa_cons (pe_int) (pa_cons (pe_int) pa_nil))))))))) (pe_g (ok_law_draw T) (hr.mono (by decide)) (pa_cons (pv 1) (pa_cons (pe_int) pa_nil))) (fun _ _ => rfl)))
      (pss_cons (ps_set (i := 6) sc_law.nd rfl (Or.inl rfl) (pe_c (ok_House_init T) (hr.mono (by decide)) (pa_cons (pe_g (ok_law_as_net T) (hr.mono (by decide)) (pa_cons (pv 2) pa_nil)) (pa_cons (pv 4) (pa_cons (pv 5) pa_nil)))))
      (pss_cons (ps_set (i := 7) sc_law.nd rfl (Or.inl rfl) (pe_dnewT))
      (pss_cons (ps_set (i := 8) sc_law.nd rfl (Or.inr rfl) (pe_lst pa_nil))
      (pss_cons (ps_set (i := 9) sc_law.nd rfl (Or.inl rfl) (pe_int))
      (pss_cons (ps_for PassesOwn.never rfl (pi_range1 (by rfl) T.b_range (pa_cons (pe_g (ok_law_draw T) (hr.mono (by decide)) (pa_cons (pv 1) (pa_cons (pe_int) pa_nil))) pa_nil)) (pg_name (i := 10) sc_law.nd rfl (Or.inl rfl))
      (pss_cons (ps_if (PW.pt (pw_or (PW.pt (pw_and (pt_cmpR op_lt (pe_callB call_len_seq (by rfl) T.b_len PySem.boot_len (pa_cons (pv 8) pa_nil)) (pe_int) (nomark _)) (pw_and1 (pt_cmpR op_eq (pe_g (ok_law_draw T) (hr.mono (by decide)) (pa_cons (pv 1) (pa_cons (pe_int) pa_nil))) (pe_int) (nomark _))))) (pw_or1 (pt_cmpR op_eq (pe_callB call_len_seq (by rfl) T.b_len PySem.boot_len (pa_cons (pv 8) pa_nil)) (pe_int) (nomark _))))) (pss_cons (ps_set (i := 11) sc_law.nd rfl (Or.inl rfl) (pe_g (ok_law_ask T) (hr.mono (by decide)) (pa_cons (pv 1) (pa_cons (pv 2) (pa_cons (pv 3) pa_nil)))))
      (pss_cons (ps_if (pt_not (pt_val (pe_g (ok_law_same T) (hr.mono (by decide)) (pa_cons (pe_m (ok_House_ask T) T.cl_House (hr.mono (by decide)) (pv 6) (pa_cons (pe_g (ok_law_as_ask T) (hr.mono (by decide)) (pa_cons (pv 11) pa_nil)) pa_nil)) (pa_cons (pe_callB call_len_seq (by rfl) T.b_len PySem.boot_len (pa_cons (pv 8) pa_nil)) pa_nil))))) (pss_one (ps_ret (pe_bl))) (pss_nil))
      (pss_cons (ps_expr (pe_bm PySem.F.plainAttrs_list PySem.F.slot_list_append PySem.F.type_list_append mt_append (pv 8) (pa_cons (pe_g (ok_law_alone T) (hr.mono (by decide)) (pa_cons (pv 2) (pa_cons (pv 7) (pa_cons (pv 11) pa_nil)))) pa_nil)))
      (pss_one (ps_set (i := 9) sc_law.nd rfl (Or.inl rfl) (pe_op op_add (pv 9) (pe_op op_fdiv (pe_op op_sub (pe_op op_add (pe_op op_add (pe_callB call_len_seq (by rfl) T.b_len PySem.boot_len (pa_cons (pe_dget (hu_of hr) (pv 11) (pe_str) (fun _ _ => rfl)) pa_nil)) (pe_dget (hu_of hr) (pv 11) (pe_str) (fun _ _ => rfl))) (pv 5)) (pe_int)) (pv 5)))))))) (pss_nil))
      (pss_cons (ps_expr (pe_m (ok_House_step T) T.cl_House (hr.mono (by decide)) (pv 6) (pa_cons (pe_lc (own := [("_law_j", 12)]) rfl sc_law.nd (pi_range1 (by rfl) T.b_range (pa_cons (pe_g (ok_law_draw T) (hr.mono (by decide)) (pa_cons (pv 1) (pa_cons (pe_int) pa_nil))) pa_nil)) (blkOk_by (N := N_law) (sc := defScope s_law) (by decide +kernel)) (fun _ _ _ _ _ => pg_name (i := 12) sc_law.nd rfl (Or.inl rfl) (hf := Or.inr rfl)) (fun _ _ _ _ _ => pts_nil) (fun _ _ _ _ _ => pe_tup (pa_cons (pe_g (ok_law_draw T) (hr.mono (by decide)) (pa_cons (pv 1) (pa_cons (pe_callB (call_len_seqK (K0 := K)) (by rfl) T.b_len PySem.boot_len (pa_cons (pv 8) pa_nil)) pa_nil))) (pa_cons (pe_g (ok_law_draw T) (hr.mono (by decide)) (pa_cons (pv 1) (pa_cons (pe_int) pa_nil))) pa_nil)))) pa_nil)))
      (pss_one (ps_if (pt_not (pt_val (pe_g (ok_law_right T) (hr.mono (by decide)) (pa_cons (pv 6) (pa_cons (pv 8) pa_nil))))) (pss_one (ps_ret (pe_bl))) (pss_nil))))))
      (pss_cons (ps_expr (pe_m (ok_House_step T) T.cl_House (hr.mono (by decide)) (pv 6) (pa_cons (pe_callTy call_tuple_of (by rfl) T.b_tuple (by decide +kernel) (pa_cons (pe_lc (own := [("_law_ticket", 13)]) rfl sc_law.nd (pi_range1 (by rfl) T.b_range (pa_cons (pe_callB call_len_seq (by rfl) T.b_len PySem.boot_len (pa_cons (pv 8) pa_nil)) pa_nil)) (blkOk_by (N := N_law) (sc := defScope s_law) (by decide +kernel)) (fun _ _ _ _ _ => pg_name (i := 13) sc_law.nd rfl (Or.inl rfl) (hf := Or.inr rfl)) (fun _ _ _ _ _ => pts_nil) (fun _ _ _ _ _ => pe_tup (pa_cons (pv 13) (pa_cons (pe_int) pa_nil)))) pa_nil)) pa_nil)))
      (pss_cons (ps_if (pt_not (pt_val (pe_g (ok_law_right T) (hr.mono (by decide)) (pa_cons (pv 6) (pa_cons (pv 8) pa_nil))))) (pss_one (ps_ret (pe_bl))) (pss_nil))
      (pss_one (ps_ret (pe_or (pe_cmpR op_gt (pv 9) (pv 4) (nomark _)) (pe_one (pe_g (ok_law_same T) (hr.mono (by decide)) (pa_cons (pe_m0 (ok_House_going T) T.cl_House (hr.mono (by decide)) (pv 6)) (pa_cons (pe_tup pa_nil) pa_nil)))))))))))))))))), ?_⟩
  obtain ⟨sp, ns, rfl, hsp, hns, q⟩ := h
  refine ⟨_, rfl, _, _, rfl, sp, ns, 1000, rfl, rfl, by decide, hsp, hns, fun H1 pa hpa s1 p1 => ?_⟩
  refine ⟨_, rfl, _, rfl, pa, rfl, p1, fun H2 vn M L w' f2 p2 nok hpv hvn => ?_⟩
  have hML : M.embed.length = L := nok.embed.1
  have hL1 := nok.l0
  have hL12 := nok.l1
  refine ⟨_, rfl, _, rfl, _, _, _, rfl, pa, M, 6, rfl, hvn, rfl, by omega, by decide, p2, fun H3 v3 ls f3 p3 hl6 hls hv3 => ?_⟩
  rw [hML] at hls
  obtain ⟨lt, rfl, hlt⟩ := id hv3.vecI
  refine ⟨_, rfl, _, _, rfl, pa, 14, rfl, rfl, by decide, p3, fun H4 r4 a4 b4 f4 p4 => ⟨_, _, rfl, rfl, ?_⟩⟩
  refine ⟨_, rfl, _, _, rfl, pa, 60, rfl, rfl, by decide, p4, fun H5 r5 a5 b5 f5 p5 => ⟨_, _, rfl, rfl, ?_⟩⟩
  refine ⟨ll2, fun o5 ho5 => ?_⟩
  obtain ⟨pp6, k6⟩ := mkL (ys := [V.int (1 + r4), V.int (1 + r5)]) ho5 p5
  refine ⟨_, rfl, _, _, rfl, pa, 4, rfl, rfl, by decide, pp6, fun H6 r6 a6 b6 f6 p6 => ?_⟩
  obtain ⟨f6', g6⟩ := k6 H6 f6
  refine ⟨rfl, .inr ⟨_, rfl, ?_⟩⟩
  have hix : 0 ≤ (if decide (V.int r6 = V.int 0) = true then (1 : Int) else 0) ∧ (if decide (V.int r6 = V.int 0) = true then (1 : Int) else 0) < (([V.int (1 + r4), V.int (1 + r5)] : List V).length : Int) := by split <;> exact ⟨by decide, by show _ < (2 : Int); decide⟩
  obtain ⟨v6, m6, e6⟩ := pick hix.1 hix.2
  refine ⟨o5, _, _, _, rfl, rfl, SqL.of g6, e6, ?_⟩
  obtain ⟨m, rfl, hm1, hm60⟩ : ∃ m : Nat, v6 = .int (m : Nat) ∧ 1 ≤ m ∧ m ≤ 60 := by
    simp only [List.mem_cons, List.not_mem_nil, or_false] at m6
    rcases m6 with rfl | rfl
    · obtain ⟨x, rfl⟩ := Int.eq_ofNat_of_zero_le a4
      exact ⟨x + 1, congrArg V.int (by omega), by omega, by omega⟩
    · obtain ⟨x, rfl⟩ := Int.eq_ofNat_of_zero_le a5
      exact ⟨x + 1, congrArg V.int (by omega), by omega, by omega⟩
  clear e6 m6 hix
  refine ⟨by decide, fun o7 ho7 => ?_⟩
  obtain ⟨pp7, k7⟩ := mkL (ys := szs) ho7 p6
  refine ⟨_, rfl, _, _, rfl, pa, 8, rfl, rfl, by decide, pp7, fun H7 r7 a7 b7 f7 p7 => ?_⟩
  obtain ⟨f7', g7⟩ := k7 H7 f7
  obtain ⟨v7, m7, e7⟩ := pick (ys := szs) a7 b7
  refine ⟨o7, _, _, _, rfl, rfl, SqL.of g7, e7, ?_⟩
  obtain ⟨sz, rfl, hs1, hs8⟩ := szs_ok v7 m7
  clear e7 m7 a7 b7
  have f37 : Fr [pa] H3 H7 := ((f4.trans f5).trans f6').trans f7'
  have hvn7 := (hvn.up f3.t).up f37.t
  have hlt7 := f37.t _ _ rfl hlt
  refine ⟨_, rfl, _, rfl, M, L, w', hvn7, nok, hpv, fun H8 np s8 hnp N8 => ?_⟩
  refine ⟨_, rfl, _, rfl, fun hp dx hx hdx hne => ?_⟩
  generalize hG : L2.upd (L2.upd H8 dx _) hp _ = H9
  obtain ⟨s9, e9⟩ := make_same hG hx hdx hne
  refine ⟨_, _, _, _, rfl, hp, dx, np, M, m, sz, rfl, rfl, rfl, rfl, e9, N8.up s9, hm1, hm60, hs1, hs8, fun H10 A f10 hA1 hA2 hA3 ho10 => ⟨rfl, ?_⟩⟩
  have p8 := p7.keep (F := []) (Fr.same s8) (by simp)
  have p9 := p8.keep (F := []) (Fr.same s9) (by simp)
  have nhp : hp ≠ pa := fun z => p8.there (by rw [← z]; exact hx)
  have p10 := p9.keep f10 (by simp; exact Ne.symm nhp)
  refine fun kn hkn => ?_
  generalize hG : L2.upd H10 kn _ = H11
  obtain ⟨s11, e11⟩ := gen_new hkn hG
  refine ⟨ll0, fun al hal => ?_⟩
  generalize hG : L2.upd H11 al _ = H12
  obtain ⟨s12, e12⟩ := gen_new hal hG
  have hso := (s8.trans s9)
  have hst : LSt K H12 M L w' A ⟨⟨m, sz, List.replicate m 0, List.replicate m []⟩, ⟨[], [], [], 0⟩, []⟩ pa kn al lt vn ls 0 [] [] := by
    refine ⟨(p10.keep (F := []) (Fr.same s11) (by simp)).keep (F := []) (Fr.same s12) (by simp), (((hvn7.up hso.tups).up f10.t).up s11.tups).up s12.tups, s12 _ _ (s11 _ _ (f10.t _ _ rfl (hso _ _ hlt7))), (ho10.up s11).up s12, HGood.init nok hm1 hm60 hs1 hs8, ⟨[], s12 _ _ e11, Nat.le_refl _, fun p a e => by simp [aget] at e⟩, e12, .nil, ⟨rfl, fun i x r hx => by simp at hx⟩, fun a ha => ?_, ?_⟩
    · have hth := ho10.there a ha
      refine ⟨fun z => ?_, fun z => hth (by rw [z]; exact hkn), fun z => hth ?_⟩
      · rcases hA3 a ha with e | e
        · exact nhp (by rw [← e, z])
        · exact p9.there (by rw [← z]; exact e)
      · rw [z]
        cases e : H10 al with
        | none => rfl
        | some o => rw [s11 _ _ e] at hal; cases hal
    · intro z
      exact (p10.keep (F := []) (Fr.same s11) (by simp)).there (by rw [z]; exact hal)
  have hinv : LInv K M L w' m sz hp pa kn al lt vn ls 0 0 H12 := ⟨A, _, 0, [], [], hst, hA1, rfl, rfl, Nat.le_refl _, by decide, Nat.le_refl _, rfl⟩
  clear hst hso hA3 ho10
  obtain ⟨_, _, _, _, _, h0, _⟩ := id hinv
  refine ⟨_, rfl, _, _, rfl, pa, 15, rfl, rfl, by decide, h0.pool, fun H13 cnt a13 b13 f13 p13 => ?_⟩
  obtain ⟨cn, rfl⟩ := Int.eq_ofNat_of_zero_le a13
  have hinv13 := hinv.draw f13 p13
  clear hinv h0 f13 p13
  refine ⟨(cn : Int), rfl, by omega, by omega, for_range (lo := 0) (n := cn) (fun i σ H' => ∃ v10 v11 need, σ = [some (.ref sp), some (.ref pa), some vn, some (.ref lt), some (.int (m : Nat)), some (.int (sz : Nat)), some (.ref hp), some (.ref kn), some (.ref al), some (.int need), v10, v11, none, none] ∧ LInv K M L w' m sz hp pa kn al lt vn ls need 0 H') ⟨_, _, _, rfl, hinv13⟩ ?_ ?_⟩
  · clear hinv13
    rintro i σ Ha hi ⟨v10, v11, need, rfl, hI⟩
    refine seq_cut (fun σ' H' => ∃ v10 v11 need, σ' = [some (.ref sp), some (.ref pa), some vn, some (.ref lt), some (.int (m : Nat)), some (.int (sz : Nat)), some (.ref hp), some (.ref kn), some (.ref al), some (.int need), v10, v11, none, none] ∧ LInv K M L w' m sz hp pa kn al lt vn ls need 1 H') ?_ ?_
    · clear hI v10 v11 need
      rintro σ Hb ⟨v10, v11, need, rfl, hI⟩
      obtain ⟨A, D, n, vs, xs, h, hA, hDm, hDs, hn, hx6, hx1, hnd⟩ := hI
      have hvx := h.av.len
      rw [List.length_map] at hvx
      have hra : A.ra.length = xs.length := by rw [h.ho.len, h.all.len]
      have hrl : D.rs.length = xs.length := h.all.len.symm
      obtain ⟨hdx, hrm, hins⟩ := id h.ho.ins
      rw [hA] at hins
      refine ⟨_, rfl, hp, hdx, _, rfl, hins, rfl, _, rfl, _, _, rfl, pa, 6, rfl, rfl, by decide, h.pool, fun H2 r a b f2 p2 => ?_⟩
      obtain ⟨nr, rfl⟩ := Int.eq_ofNat_of_zero_le a
      have h2 := h.draw f2 p2
      refine ⟨(nr : Int), rfl, by omega, by omega, fun D2 hD2 => lc_range (lo := 0) (n := nr) (LcD dPr (fun q : Nat × Nat => q.1 < D.rs.length ∧ q.2 ≤ 60) H2 pa D2) (lcD_0 hD2 p2) (fun j H3 hj I => ?_) fun H3 I => ?_⟩
      · have h3 := h2.draw I.1 I.2.1
        refine ⟨rfl, _, rfl, _, rfl, al, _, rfl, .inl (SqL.of h3.ha), _, _, rfl, pa, _, rfl, rfl, by omega, h3.pool, fun H4 r4 a4 b4 f4 p4 => ?_⟩
        refine ⟨_, rfl, _, _, rfl, pa, 10, rfl, rfl, by decide, p4, fun H5 r5 a5 b5 f5 p5 => ?_⟩
        obtain ⟨t4, rfl⟩ := Int.eq_ofNat_of_zero_le a4
        obtain ⟨t5, rfl⟩ := Int.eq_ofNat_of_zero_le a5
        refine ⟨ll2, fun o ho => ?_⟩
        generalize hG : L2.upd H5 o _ = H6
        obtain ⟨s6, e6⟩ := gen_new ho hG
        exact lcD_step (x := (t4, t5)) hD2 p2 I ((f4.trans f5).trans (Fr.same s6)) (p5.keep (F := []) (Fr.same s6) (by simp)) ⟨by omega, by omega⟩ (at_vec (ns := [(t4 : Int), (t5 : Int)]) e6) (by omega)
      · have h3 := h2.draw I.1 I.2.1
        obtain ⟨f3, p3', plan, ys, c1, c2, hD3, hys⟩ := id I
        refine ⟨_, _, rfl, A, M, L, w', D, false, D2, ys, plan, by rw [hA], rfl, h3.ho, h3.hg, SqL.of hD3, hys, (h2.fresh hD2).1, fun q hq => c2 q hq, by omega, by omega, fun H4 D' pl' e f4 hpl ho4 hg4 sr _ => ?_⟩
        have h4 := h3.stepd f4 hpl ho4 hg4 sr
        refine ⟨_, rfl, _, rfl, _, _, rfl, { A with pl := pl' }, M, L, w', D', al, vs, xs, by rw [hA], h4.ho, h4.hg, rfl, h4.ha, h4.av, h4.all, by omega, fun H5 s5 => ⟨true, rfl, ?_⟩⟩
        exact ⟨_, _, need, rfl, { A with pl := pl' }, D', n, vs, xs, h4.up s5, hA, sr.many.trans hDm, sr.size.trans hDs, hn, hx6, Nat.zero_le _, by rw [sr.need]; exact hnd⟩
    · intro N hN
      obtain ⟨A, D, n, vs, xs, h, hA, hDm, hDs, hn, hx6, _, hnd⟩ := hI
      have hvx := h.av.len
      rw [List.length_map] at hvx
      refine if_cut (fun b H' => LSt K H' M L w' A D pa kn al lt vn ls n vs xs ∧ (b = true → xs.length < 6) ∧ (b = false → 0 < xs.length)) ?_ ?_
      · rintro b Hb ⟨hb, hb1, hb2⟩
        cases b with
        | false => exact hN _ _ ⟨_, _, need, rfl, A, D, n, vs, xs, hb, hA, hDm, hDs, hn, hx6, hb2 rfl, hnd⟩
        | true =>
          have hx5 := hb1 rfl
          clear hb1 hb2 h
          have hra : A.ra.length = xs.length := by rw [hb.ho.len, hb.all.len]
          refine ⟨_, rfl, _, rfl, _, rfl, _, _, _, rfl, pa, lt, M, L, ls, rfl, hb.net, hML, hL1, hL12, rfl, hb.base, hl6, hls, hb.pool, fun H2 d k f2 p2 hd ha ok => ?_⟩
          have h2 := hb.draw f2 p2
          obtain ⟨n1, n2, n3, n4⟩ := hb.fresh hd
          clear hb f2 p2
          obtain ⟨hdx, hrm, hins⟩ := id h2.ho.ins
          rw [hA] at hins
          refine ⟨_, rfl, hp, hdx, _, rfl, hins, rfl, _, rfl, _, rfl, d, k, L, rfl, ha, ok, fun H3 ap s3 haa => ?_⟩
          have h3 := h2.up s3
          have ha3 := ha.up s3
          refine ⟨_, _, rfl, A, M, D, ap, k, L, by rw [hA], rfl, h3.ho, haa, ok, hML, by omega, fun H4 rp tb f4 hrp htb ho4 => ?_⟩
          have hrq := h3.sep A.rq (mem_all (by simp))
          have hal4 := f4.k _ _ (by simp; exact Ne.symm hrq.2.2) h3.ha
          have ndq : d ≠ A.rq := fun z => n1 (by rw [z]; exact mem_all (by simp))
          have ha4 := ha3.keep f4 (by simp; exact ndq)
          refine ⟨_, rfl, al, _, rfl, .inl (SqL.of hal4), _, _, rfl, .int (A.ra.length : Nat), .int _ _, .int _, by rw [hra, ← hvx]; exact .int _, true, rfl, ?_⟩
          refine ⟨_, rfl, ty_l hal4, _, rfl, _, rfl, _, rfl, _, _, _, rfl, M, L, w', kn, d, n, k, h3.net.up f4.t, nok, rfl, h3.hk.keep f4 (by simp; exact Ne.symm hrq.2.1), rfl, ha4, ok, by omega, fun H5 v x f5 hk5 hS hv => ?_⟩
          have nak := lst_kn h3.ha h3.hk
          have hal5 := f5.k _ _ (by simp; exact nak) hal4
          have ha5 := ha4.keep f5 (by simp; exact n3)
          refine ⟨al, vs, _, rfl, rfl, hal5, small1000 (by omega), ?_⟩
          generalize hG : L2.upd H5 al _ = H6
          obtain ⟨f6, e6⟩ := gen_lst [al] hal5 hG (.head _)
          have h6 := h3.add ok f4 hrp htb ho4 f5 hk5 hS hv f6 e6
          have ha6 := ha5.keep f6 (by simp; exact n4)
          obtain ⟨v1, v2, v3, v4, hd6, g1, _⟩ := id ha6.ex
          obtain ⟨c1, rfl, hc1⟩ := g1.vecI
          refine ⟨_, rfl, _, rfl, d, _, rfl, DGet.k (k := .inr "prompt") hd6, c1, _, rfl, .inr (SqT.of hc1), _, rfl, d, _, rfl, DGet.k (k := .inr "most") hd6, _, _, rfl, rfl, _, rfl, _, _, rfl, rfl, _, _, rfl, rfl, _, rfl, _, _, rfl, rfl, ⟨by omega, by omega⟩, _, _, rfl, rfl, ?_⟩
          refine hN _ _ ⟨_, _, _, rfl, _, _, _, _, _, h6, hA, hDm, hDs, ?_, ?_, ?_, ?_⟩
          · rw [List.length_append]
            show n + 160 ≤ (xs.length + 1) * 160
            omega
          · rw [List.length_append]
            show xs.length + 1 ≤ 6
            omega
          · rw [List.length_append]
            exact Nat.le_add_left _ _
          · rw [needM_add, hnd, List.length_map, hDs, needR_int ok hs1]
            rfl
      · intro N2 hN2
        have third : ∀ H', LSt K H' M L w' A D pa kn al lt vn ls n vs xs → ∀ (Q2 : Bool → Hp → Prop), (∀ k, (k = true → xs.length < 6) → (k = false → 0 < xs.length) → Q2 k H') → Q2 (decide (V.int (vs.length : Nat) = V.int 0)) H' := fun H' h' Q2 hQ => by
          by_cases z : vs.length = 0
          · rw [z, dec_t (show V.int ((0 : Nat) : Int) = V.int 0 from rfl)]
            exact hQ true (fun _ => by omega) nofun
          · rw [dec_f (show V.int (vs.length : Int) ≠ V.int 0 from fun e => z (by have := V.int.inj e; omega))]
            exact hQ false nofun fun _ => by omega
        refine ⟨_, rfl, al, _, rfl, .inl (SqL.of h.ha), _, _, rfl, rfl, _, rfl, ?_⟩
        by_cases h6 : ((vs.length : Nat) : Int) < 6
        · rw [decide_eq_true h6]
          refine ⟨_, rfl, _, _, rfl, pa, 2, rfl, rfl, by decide, h.pool, fun H2 r a b f p => ⟨rfl, _, rfl, ?_⟩⟩
          have h' := h.draw f p
          generalize decide (V.int r = V.int 0) = z
          cases z with
          | true => exact hN2 true _ ⟨h', fun _ => by omega, nofun⟩
          | false =>
            refine ⟨_, rfl, al, _, rfl, .inl (SqL.of h'.ha), rfl, _, rfl, ?_⟩
            exact third H2 h' _ fun k k1 k2 => hN2 k _ ⟨h', k1, k2⟩
        · rw [decide_eq_false h6]
          refine ⟨_, rfl, al, _, rfl, .inl (SqL.of h.ha), rfl, _, rfl, ?_⟩
          exact third _ h _ fun k k1 k2 => hN2 k _ ⟨h, k1, k2⟩
  · rintro σ Ha ⟨v10, v11, need, rfl, hI⟩
    obtain ⟨A, D, n, vs, xs, h, hA, hDm, hDs, hn, hx6, _, hnd⟩ := hI
    have hvx := h.av.len
    rw [List.length_map] at hvx
    have hra : A.ra.length = xs.length := by rw [h.ho.len, h.all.len]
    have hrl : D.rs.length = xs.length := h.all.len.symm
    obtain ⟨hdx, hrm, hins⟩ := id h.ho.ins
    rw [hA] at hins
    refine ⟨_, rfl, hp, hdx, _, rfl, hins, rfl, _, rfl, al, _, rfl, .inl (SqL.of h.ha), ((vs.length : Nat) : Int), rfl, by omega, by omega, fun D2 hD2 => lcd_range (n := vs.length) (ds1 := ((List.range vs.length).map fun t => (t, 60)).map dPr) hD2 (by simp) (by simp; omega) (fun j H3 hj s3 kp => ?_) fun H3 ys g1 g2 s3 => ?_⟩
    · refine ⟨rfl, _, rfl, ll2, fun o ho => kp (dPr (j, 60)) _ _ ?_ (same_new ho) (at_vec (ns := [(j : Int), 60]) ?_)⟩
      · rw [List.map_map, List.getElem?_map, List.getElem?_range hj]
        rfl
      · rw [upd_same, Int.zero_add]
        rfl
    · refine ⟨D2, ys, rfl, .inl ⟨SqL.of g1, fun l hl => ?_⟩⟩
      generalize hG : L2.upd H3 l _ = H4
      obtain ⟨s4, e4⟩ := gen_new hl hG
      have h4 := h.up (s3.trans s4)
      have hln := (h.up s3).fresh hl
      refine ⟨_, _, rfl, A, M, L, w', D, true, l, ys, (List.range vs.length).map fun t => (t, 60), by rw [hA], rfl, h4.ho, h4.hg, SqT.of e4, g2.up s4.tups, hln.1, fun q hq => ?_, by simp; omega, by omega, fun H5 D' pl' e f5 hpl ho5 hg5 sr hprog => ?_⟩
      · obtain ⟨t, ht, rfl⟩ := List.mem_map.mp hq
        have := List.mem_range.mp ht
        exact ⟨by show t < _; omega, Nat.le_refl _⟩
      have h5 := h4.stepd f5 hpl ho5 hg5 sr
      refine ⟨_, rfl, _, rfl, _, _, rfl, { A with pl := pl' }, M, L, w', D', al, vs, xs, by rw [hA], h5.ho, h5.hg, rfl, h5.ha, h5.av, h5.all, by omega, fun H6 s6 => ⟨true, rfl, ?_⟩⟩
      have h6 := h5.up s6
      refine ⟨_, rfl, _, rfl, _, _, rfl, rfl, _, rfl, ?_⟩
      by_cases hgt : ((m : Nat) : Int) < need
      · rw [decide_eq_true hgt]
        exact q H6
      · rw [decide_eq_false hgt]
        obtain ⟨hdx6, hrm6, hins6⟩ : ∃ dx rm, H6 A.hp = some (.ins (He.ga K "House") dx [("net", .ref A.np), ("store", .ref A.p), ("tree", .ref A.tr), ("requests", .ref A.rq), ("rows_made", .int rm)]) := h6.ho.ins
        have hgo : goM D' = [] := by
          refine List.filter_eq_nil_iff.mpr fun i hi => ?_
          have hi' := List.mem_range.mp hi
          rw [sr.len] at hi'
          have hl' : i < D'.rs.length := by rw [sr.len]; exact hi'
          have := hprog (by rw [hDm]; omega) (i, 60) (List.mem_map.mpr ⟨i, List.mem_range.mpr (by omega), rfl⟩) (by show 20 ≤ 60; decide) _ (List.getElem?_eq_getElem hl')
          rw [List.getElem?_eq_getElem hl']
          simpa using this
        rw [hA] at hins6
        refine ⟨_, rfl, hp, hdx6, _, rfl, hins6, rfl, _, rfl, { A with pl := pl' }, M, D', by rw [hA], h6.ho, by show A.ra.length ≤ 100; omega, fun H7 v s7 hv => ?_⟩
        rw [hgo] at hv
        refine ⟨ll0, fun o ho => ?_⟩
        generalize hG : L2.upd H7 o _ = H8
        obtain ⟨s8, e8⟩ := gen_new ho hG
        exact ⟨_, _, rfl, .tuple [], .tup (fun d hd => by cases hd) (by decide), hv.up s8.tups, at_tup e8 .nil, q _⟩
end
end Sv
end
set_option Elab.async false
set_option linter.all false
set_option maxRecDepth 100000
set_option maxHeartbeats 8000000
namespace Sv
open PySem PySem.Spec PyProof.Rows L2
theorem facts {P : Program} {w : World} {K : PySem.W.Frag} {h : Heap} {mg : Str → Option Value} {f : Addr} (X : K.In h) (G : h.Ns mainGlobals mg) (hfa : mg ("law" : Str) = some (.ref f)) (c : He.SaysD faA fnA K) (m : moreB K = true) :
    ∃ fd : FuncData, (∀ (s : Shared) (v : Value), BindsTo s fd ⟨[v], []⟩ [("_law_script", v)]) ∧ ∀ base : Heap, K.In base → base.Ns mainGlobals mg → FnOk P w K mg base CX0 11 f fd ["_law_script"] (Sp1 (p_law K)) := by
  have T := txt_of X G c m
  obtain ⟨fd, F⟩ := T.d_law
  have e := hfa.symm.trans T.g_law
  cases e
  have b := FunD.bindsA (ps := ["_law_script"]) F fun _ _ _ _ _ _ us hl => match us, hl with | [_], _ => rfl
  refine ⟨fd, fun s v => b s [v] rfl, fun base _ _ => F.ok sc_law len1 fun cdv A outer s H vs Q E hr h => ?_⟩
  obtain ⟨t, ht, q⟩ := body_law T cdv A outer s H vs Q E hr h
  exact ⟨t, ht.nox, q⟩
end Sv
open PySem PySem.W PySem.Calls PyProof.Rows
theorem PySem.Challenge.cw_servedalone_k27_whole_each_as_if_alone_holds : PySem.Challenge.rw_servedalone_k27_whole_each_as_if_alone.Holds := by
  w_on; o_law
  refine HandSHeadRun.head_any (r := OpenLaw.row PySem.Challenge.rw_servedalone_k27_whole_each_as_if_alone) (q := view (OpenLaw.row PySem.Challenge.rw_servedalone_k27_whole_each_as_if_alone).prog [57]) (H := Sv.hk) (ob := Sv.ob) (M := 8000) (loose := Sv.looseA) (d := HandSHeadRun.topDef (OpenLaw.row PySem.Challenge.rw_servedalone_k27_whole_each_as_if_alone).prog 57) (kwd := []) Sv.ob_eq
    (by kernel_rfl) (fun s => by kernel_rfl) Sv.run (by kernel_rfl) (by kernel_rfl) (by kernel_rfl) (by rfl) (by first | assumption | decide +kernel) (by decide +kernel) ⟨rfl, rfl, rfl, rfl, rfl, by decide +kernel⟩ ?hw ?hc
  case hw => w_witness2
  case hc =>
    refine L2.walk_ofE (l := PySem.Challenge.rw_servedalone_k27_whole_each_as_if_alone) (n := 63) (k := 11) (x := "_law_script") (CX := L2.CX0) rfl (by decide) (by kernel_rfl) ⟨rfl, by decide, by decide⟩ ?F (fun _ _ _ _ z => z)
    intro w mg fa h Y G hmg0
    obtain ⟨K, KX, c, m⟩ := Y
    have hmg : mg ("law" : PySem.Str) = some (.ref fa) := by
      have e : (HandSHeadRun.topDef (OpenLaw.row PySem.Challenge.rw_servedalone_k27_whole_each_as_if_alone).prog 57).name = ("law" : PySem.Str) := by kernel_rfl
      rw [← e]
      exact hmg0
    obtain ⟨fd, hb, hF⟩ := Sv.facts (P := (PySem.Challenge.rw_servedalone_k27_whole_each_as_if_alone).prog) (w := w) KX G hmg c m
    exact ⟨K, fd, Sv.Sp1 (Sv.p_law K), KX, hb, fun H a ns hl _ hS => ⟨_, rfl, a, ns, rfl, hS, hl, fun _ => rfl⟩, hF⟩
