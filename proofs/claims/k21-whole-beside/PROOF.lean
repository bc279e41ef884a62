import PyProof.Rows.All
import Wide.All
import OpenK.AllK
import Wide.FinOn
import KE.KStateDown
import HandS.ForMost
import HandS.ForExc
import HandS.Defaults
import HandS.Codes
import HandS.Head0
import HandS.Head1
import HandS.Head2
import HandS.HeadEnd
import HandS.EndBits
import HandS.HeadHook1
import HandS.HeadHook2
import HandS.HeadHook3
import HandS.HeadHook4
import PySem.Challenge.RW_unknowncalls_k21_whole_beside
import HandS.IsInst
import HandS.Conv
import HandS.Walk
import HandS.TupAny
import HandS.Deep
import HandS.Style
import HandS.Flow
import HandS.Wide
import HandS.More
import HandS.DictComp
import HandS.NoneIn
import HandS.OwnEq
import KE.GoesEnum
import KE.KDictIter
import HandS.ListItems
import HandS.TupSets
import KE.KDictZip
import PyProof.NeKinds
import HandS.Small
set_option Elab.async false
set_option linter.all false
set_option maxRecDepth 100000
set_option maxHeartbeats 4000000
namespace K21
open PySem PySem.Spec PyProof.Rows L2
/-- what else is asked of the class Names: isinstance, ==, != -/
def exB (K : PySem.W.Frag) : Bool :=
  He.eqO (PySem.W.findIn K (.ref (He.ga K "Names")) "__class__") (some (some (.builtin "object.__class__"))) &&
  (He.eqO (PySem.W.specialIn K (.builtin "object.__class__") "__get__") (some (some (.builtin "getset_descriptor.__get__"))) &&
  (decide (PySem.W.takesIn K (.builtin "object.__class__") = some true) &&
  (decide (PySem.W.mroIn K (He.ga K "Names") (.type "object") = some true) &&
  (He.eqO (PySem.W.findIn K (.ref (He.ga K "Names")) "__eq__") (some (some (.ref (He.ma K (He.ga K "Names") "__eq__")))) &&
  (PySem.W.isFn K (.ref (He.ma K (He.ga K "Names") "__eq__")) &&
  (He.eqO (PySem.W.findIn K (.ref (He.ga K "Names")) "__ne__") (some (some (.builtin "object.__ne__"))) &&
  He.eqO (PySem.W.specialIn K (.builtin "object.__ne__") "__get__") (some (some (.builtin "wrapper_descriptor.__get__")))))))))
/-! ### the text by places -/
def topS (i : Nat) : Stmt := PySem.Challenge.pw_unknowncalls_k21_whole_beside.main.body.getD i (.Pass ⟨0, 0, 0, 0⟩)
abbrev s_begun : Stmt := topS 19
abbrev s_is_name : Stmt := topS 23
abbrev s_is_number : Stmt := topS 24
abbrev s_is_row_names : Stmt := topS 26
abbrev s_is_row_loops : Stmt := topS 31
abbrev s_frozen : Stmt := topS 33
abbrev s_spare_names : Stmt := topS 39
abbrev s_leaves_at : Stmt := topS 40
abbrev s_check_leaves : Stmt := topS 42
abbrev s_flag_of : Stmt := topS 43
abbrev s_beside : Stmt := topS 44
abbrev s_law_cell : Stmt := topS 46
abbrev s_law_row : Stmt := topS 47
abbrev s_law_source : Stmt := topS 50
abbrev s_law_statement : Stmt := topS 51
abbrev s_law_test : Stmt := topS 52
abbrev s_law_block : Stmt := topS 53
abbrev s_law_loop : Stmt := topS 54
abbrev s_law_made : Stmt := topS 55
abbrev s_law_with_leaves : Stmt := topS 56
abbrev s_law_pairs : Stmt := topS 58
abbrev s_law_of_one : Stmt := topS 59
abbrev s_law_tables : Stmt := topS 60
abbrev s_law_thing : Stmt := topS 63
abbrev s_law_says : Stmt := topS 64
abbrev s_law_played_part : Stmt := topS 65
abbrev s_law_played : Stmt := topS 66
abbrev s_law_fresh_run : Stmt := topS 67
abbrev s_law_joint_thing : Stmt := topS 68
abbrev s_law_joint_does : Stmt := topS 69
abbrev s_law_joint_part : Stmt := topS 70
abbrev s_law_joint_played : Stmt := topS 71
abbrev s_law_leaves : Stmt := topS 72
abbrev s_law : Stmt := topS 73
abbrev s_Scene_init : Stmt := L2.inClass (topS 18) 0
abbrev s_Scene_new : Stmt := L2.inClass (topS 18) 2
abbrev s_Scene_find : Stmt := L2.inClass (topS 18) 3
abbrev s_Scene_make_of : Stmt := L2.inClass (topS 18) 6
abbrev s_Scene_part : Stmt := L2.inClass (topS 18) 19
abbrev s_Scene_close : Stmt := L2.inClass (topS 18) 8
abbrev s_Scene_settle_calls : Stmt := L2.inClass (topS 18) 9
abbrev s_Scene_settle_said : Stmt := L2.inClass (topS 18) 10
abbrev s_Scene_settle_unlike : Stmt := L2.inClass (topS 18) 11
abbrev s_Scene_settle_order : Stmt := L2.inClass (topS 18) 13
abbrev s_Scene_settle_shares : Stmt := L2.inClass (topS 18) 15
abbrev s_Scene_settle_squeezed : Stmt := L2.inClass (topS 18) 16
abbrev s_Names_init : Stmt := L2.inClass (topS 28) 0
abbrev s_Names_check_names : Stmt := L2.inClass (topS 28) 1
abbrev s_Names_check_numbers : Stmt := L2.inClass (topS 28) 2
abbrev s_Names_check_rules : Stmt := L2.inClass (topS 28) 3
abbrev s_Names_are_constants : Stmt := L2.inClass (topS 28) 4
abbrev s_Names_checked_pair : Stmt := L2.inClass (topS 28) 6
abbrev s_Names_all_names : Stmt := L2.inClass (topS 28) 7
abbrev s_Names_functions : Stmt := L2.inClass (topS 28) 8
abbrev s_Names_tests : Stmt := L2.inClass (topS 28) 9
abbrev s_Names_deeds : Stmt := L2.inClass (topS 28) 10
abbrev s_Names_facts : Stmt := L2.inClass (topS 28) 12
abbrev s_Names_apart : Stmt := L2.inClass (topS 28) 13
abbrev s_Names_eq : Stmt := L2.inClass (topS 28) 15
abbrev s_Reader_init : Stmt := L2.inClass (topS 34) 0
abbrev s_Reader_is_register : Stmt := L2.inClass (topS 34) 1
abbrev s_Reader_is_source : Stmt := L2.inClass (topS 34) 2
abbrev s_Reader_are_sources : Stmt := L2.inClass (topS 34) 3
abbrev s_Reader_is_test : Stmt := L2.inClass (topS 34) 4
abbrev s_Reader_is_plain : Stmt := L2.inClass (topS 34) 5
abbrev s_Reader_is_leave : Stmt := L2.inClass (topS 34) 6
abbrev s_Reader_read : Stmt := L2.inClass (topS 34) 7
abbrev s_Reader_read_if : Stmt := L2.inClass (topS 34) 8
abbrev s_Reader_with_put : Stmt := L2.inClass (topS 34) 9
abbrev s_Loop_init : Stmt := L2.inClass (topS 36) 0
abbrev s_Loop_section : Stmt := L2.inClass (topS 36) 1
abbrev s_Loop_registers : Stmt := L2.inClass (topS 36) 2
abbrev s_Turner_init : Stmt := L2.inClass (topS 41) 0
abbrev s_Turner_named : Stmt := L2.inClass (topS 41) 1
abbrev s_Turner_turned_all : Stmt := L2.inClass (topS 41) 2
abbrev s_Turner_turned_one : Stmt := L2.inClass (topS 41) 3
abbrev s_Turner_guarded : Stmt := L2.inClass (topS 41) 4
abbrev s_Turner_raised : Stmt := L2.inClass (topS 41) 5
/-- a def as it stands behind the top -/
abbrev FnP (K : PySem.W.Frag) (x qual : Str) (st : Stmt) (dvs : List V) (f : Addr) (fd : FuncData) : Prop := FunD K x qual (defArgs st) (defBody st) (defScope st) dvs [] f fd
/-! ### what is known of the top -/
def dWords : List He.Dv := [.str "item", .str "same", .str "if", .str "else", .str "do", .str "leave"]
def dSects : List He.Dv := [.str "start", .str "turn", .str "end"]
structure Txt (K : PySem.W.Frag) (mg : Str → Option Value) : Prop where
  g_begun : mg "begun" = some (.ref (He.ga K "begun"))
  g_is_name : mg "is_name" = some (.ref (He.ga K "is_name"))
  g_is_number : mg "is_number" = some (.ref (He.ga K "is_number"))
  g_is_row_names : mg "is_row_names" = some (.ref (He.ga K "is_row_names"))
  g_is_row_loops : mg "is_row_loops" = some (.ref (He.ga K "is_row_loops"))
  g_frozen : mg "frozen" = some (.ref (He.ga K "frozen"))
  g_spare_names : mg "spare_names" = some (.ref (He.ga K "spare_names"))
  g_leaves_at : mg "leaves_at" = some (.ref (He.ga K "leaves_at"))
  g_check_leaves : mg "check_leaves" = some (.ref (He.ga K "check_leaves"))
  g_flag_of : mg "flag_of" = some (.ref (He.ga K "flag_of"))
  g_beside : mg "beside" = some (.ref (He.ga K "beside"))
  g_law_cell : mg "_law_cell" = some (.ref (He.ga K "_law_cell"))
  g_law_row : mg "_law_row" = some (.ref (He.ga K "_law_row"))
  g_law_source : mg "_law_source" = some (.ref (He.ga K "_law_source"))
  g_law_statement : mg "_law_statement" = some (.ref (He.ga K "_law_statement"))
  g_law_test : mg "_law_test" = some (.ref (He.ga K "_law_test"))
  g_law_block : mg "_law_block" = some (.ref (He.ga K "_law_block"))
  g_law_loop : mg "_law_loop" = some (.ref (He.ga K "_law_loop"))
  g_law_made : mg "_law_made" = some (.ref (He.ga K "_law_made"))
  g_law_with_leaves : mg "_law_with_leaves" = some (.ref (He.ga K "_law_with_leaves"))
  g_law_pairs : mg "_law_pairs" = some (.ref (He.ga K "_law_pairs"))
  g_law_of_one : mg "_law_of_one" = some (.ref (He.ga K "_law_of_one"))
  g_law_tables : mg "_law_tables" = some (.ref (He.ga K "_law_tables"))
  g_law_thing : mg "_law_thing" = some (.ref (He.ga K "_law_thing"))
  g_law_says : mg "_law_says" = some (.ref (He.ga K "_law_says"))
  g_law_played_part : mg "_law_played_part" = some (.ref (He.ga K "_law_played_part"))
  g_law_played : mg "_law_played" = some (.ref (He.ga K "_law_played"))
  g_law_fresh_run : mg "_law_fresh_run" = some (.ref (He.ga K "_law_fresh_run"))
  g_law_joint_thing : mg "_law_joint_thing" = some (.ref (He.ga K "_law_joint_thing"))
  g_law_joint_does : mg "_law_joint_does" = some (.ref (He.ga K "_law_joint_does"))
  g_law_joint_part : mg "_law_joint_part" = some (.ref (He.ga K "_law_joint_part"))
  g_law_joint_played : mg "_law_joint_played" = some (.ref (He.ga K "_law_joint_played"))
  g_law_leaves : mg "_law_leaves" = some (.ref (He.ga K "_law_leaves"))
  g_law : mg "law" = some (.ref (He.ga K "law"))
  b_len : mg "len" = none
  b_isinstance : mg "isinstance" = none
  b_range : mg "range" = none
  b_enumerate : mg "enumerate" = none
  b_sorted : mg "sorted" = none
  b_list : mg "list" = none
  b_tuple : mg "tuple" = none
  b_dict : mg "dict" = none
  b_max : mg "max" = none
  b_min : mg "min" = none
  b_all : mg "all" = none
  b_any : mg "any" = none
  b_int : mg "int" = none
  b_zip : mg "zip" = none
  b_str : mg "str" = none
  b_bool : mg "bool" = none
  i_BARE : ∃ t, mg "BARE" = some (.int 0 t)
  i_MADE_OF : ∃ t, mg "MADE_OF" = some (.int 2 t)
  t_LETTERS_names : ∃ t, mg "LETTERS_names" = some (.str "abcdefghijklmnopqrstuvwxyz" t)
  t_LETTERS_pipes : ∃ t, mg "LETTERS_pipes" = some (.str "abcdefghijklmnopqrstuvwxyz" t)
  g_WORDS : mg "WORDS" = some (.ref (He.ga K "WORDS"))
  g_SECTIONS : mg "SECTIONS" = some (.ref (He.ga K "SECTIONS"))
  g_Scene : mg "Scene" = some (.ref (He.ga K "Scene"))
  c_Scene : Cls K (He.ga K "Scene")
  k_Scene : Mk K (He.ga K "Scene") (He.ma K (He.ga K "Scene") "__init__")
  n_Scene_names : NoAttr K (He.ga K "Scene") "names"
  n_Scene_up : NoAttr K (He.ga K "Scene") "up"
  n_Scene_made : NoAttr K (He.ga K "Scene") "made"
  n_Scene_calls : NoAttr K (He.ga K "Scene") "calls"
  n_Scene_said : NoAttr K (He.ga K "Scene") "said"
  n_Scene_unlike : NoAttr K (He.ga K "Scene") "unlike"
  n_Scene_order : NoAttr K (He.ga K "Scene") "order"
  n_Scene_shares : NoAttr K (He.ga K "Scene") "shares"
  n_Scene_squeezed : NoAttr K (He.ga K "Scene") "squeezed"
  m_Scene_new : Meth K (He.ga K "Scene") "new" (He.ma K (He.ga K "Scene") "new")
  m_Scene_find : Meth K (He.ga K "Scene") "find" (He.ma K (He.ga K "Scene") "find")
  m_Scene_make_of : Meth K (He.ga K "Scene") "make_of" (He.ma K (He.ga K "Scene") "make_of")
  m_Scene_part : Meth K (He.ga K "Scene") "part" (He.ma K (He.ga K "Scene") "part")
  m_Scene_close : Meth K (He.ga K "Scene") "close" (He.ma K (He.ga K "Scene") "close")
  m_Scene_settle_calls : Meth K (He.ga K "Scene") "settle_calls" (He.ma K (He.ga K "Scene") "settle_calls")
  m_Scene_settle_said : Meth K (He.ga K "Scene") "settle_said" (He.ma K (He.ga K "Scene") "settle_said")
  m_Scene_settle_unlike : Meth K (He.ga K "Scene") "settle_unlike" (He.ma K (He.ga K "Scene") "settle_unlike")
  m_Scene_settle_order : Meth K (He.ga K "Scene") "settle_order" (He.ma K (He.ga K "Scene") "settle_order")
  m_Scene_settle_shares : Meth K (He.ga K "Scene") "settle_shares" (He.ma K (He.ga K "Scene") "settle_shares")
  m_Scene_settle_squeezed : Meth K (He.ga K "Scene") "settle_squeezed" (He.ma K (He.ga K "Scene") "settle_squeezed")
  g_Names : mg "Names" = some (.ref (He.ga K "Names"))
  c_Names : Cls K (He.ga K "Names")
  k_Names : Mk K (He.ga K "Names") (He.ma K (He.ga K "Names") "__init__")
  n_Names_constants : NoAttr K (He.ga K "Names") "constants"
  n_Names_some_functions : NoAttr K (He.ga K "Names") "some_functions"
  n_Names_some_tests : NoAttr K (He.ga K "Names") "some_tests"
  n_Names_some_deeds : NoAttr K (He.ga K "Names") "some_deeds"
  n_Names_some_rules : NoAttr K (He.ga K "Names") "some_rules"
  n_Names_some_facts : NoAttr K (He.ga K "Names") "some_facts"
  n_Names_some_pairs : NoAttr K (He.ga K "Names") "some_pairs"
  m_Names_check_names : Meth K (He.ga K "Names") "check_names" (He.ma K (He.ga K "Names") "check_names")
  m_Names_check_numbers : Meth K (He.ga K "Names") "check_numbers" (He.ma K (He.ga K "Names") "check_numbers")
  m_Names_check_rules : Meth K (He.ga K "Names") "check_rules" (He.ma K (He.ga K "Names") "check_rules")
  m_Names_are_constants : Meth K (He.ga K "Names") "are_constants" (He.ma K (He.ga K "Names") "are_constants")
  m_Names_checked_pair : Meth K (He.ga K "Names") "checked_pair" (He.ma K (He.ga K "Names") "checked_pair")
  m_Names_all_names : Meth K (He.ga K "Names") "all_names" (He.ma K (He.ga K "Names") "all_names")
  m_Names_functions : Meth K (He.ga K "Names") "functions" (He.ma K (He.ga K "Names") "functions")
  m_Names_tests : Meth K (He.ga K "Names") "tests" (He.ma K (He.ga K "Names") "tests")
  m_Names_deeds : Meth K (He.ga K "Names") "deeds" (He.ma K (He.ga K "Names") "deeds")
  m_Names_facts : Meth K (He.ga K "Names") "facts" (He.ma K (He.ga K "Names") "facts")
  m_Names_apart : Meth K (He.ga K "Names") "apart" (He.ma K (He.ga K "Names") "apart")
  g_Reader : mg "Reader" = some (.ref (He.ga K "Reader"))
  c_Reader : Cls K (He.ga K "Reader")
  k_Reader : Mk K (He.ga K "Reader") (He.ma K (He.ga K "Reader") "__init__")
  n_Reader_names : NoAttr K (He.ga K "Reader") "names"
  n_Reader_used : NoAttr K (He.ga K "Reader") "used"
  n_Reader_found : NoAttr K (He.ga K "Reader") "found"
  m_Reader_is_register : Meth K (He.ga K "Reader") "is_register" (He.ma K (He.ga K "Reader") "is_register")
  m_Reader_is_source : Meth K (He.ga K "Reader") "is_source" (He.ma K (He.ga K "Reader") "is_source")
  m_Reader_are_sources : Meth K (He.ga K "Reader") "are_sources" (He.ma K (He.ga K "Reader") "are_sources")
  m_Reader_is_test : Meth K (He.ga K "Reader") "is_test" (He.ma K (He.ga K "Reader") "is_test")
  m_Reader_is_plain : Meth K (He.ga K "Reader") "is_plain" (He.ma K (He.ga K "Reader") "is_plain")
  m_Reader_is_leave : Meth K (He.ga K "Reader") "is_leave" (He.ma K (He.ga K "Reader") "is_leave")
  m_Reader_read : Meth K (He.ga K "Reader") "read" (He.ma K (He.ga K "Reader") "read")
  m_Reader_read_if : Meth K (He.ga K "Reader") "read_if" (He.ma K (He.ga K "Reader") "read_if")
  m_Reader_with_put : Meth K (He.ga K "Reader") "with_put" (He.ma K (He.ga K "Reader") "with_put")
  g_Loop : mg "Loop" = some (.ref (He.ga K "Loop"))
  c_Loop : Cls K (He.ga K "Loop")
  k_Loop : Mk K (He.ga K "Loop") (He.ma K (He.ga K "Loop") "__init__")
  n_Loop_names : NoAttr K (He.ga K "Loop") "names"
  n_Loop_laid : NoAttr K (He.ga K "Loop") "laid"
  n_Loop_all_registers : NoAttr K (He.ga K "Loop") "all_registers"
  n_Loop_kept : NoAttr K (He.ga K "Loop") "kept"
  m_Loop_section : Meth K (He.ga K "Loop") "section" (He.ma K (He.ga K "Loop") "section")
  m_Loop_registers : Meth K (He.ga K "Loop") "registers" (He.ma K (He.ga K "Loop") "registers")
  g_Turner : mg "Turner" = some (.ref (He.ga K "Turner"))
  c_Turner : Cls K (He.ga K "Turner")
  k_Turner : Mk K (He.ga K "Turner") (He.ma K (He.ga K "Turner") "__init__")
  n_Turner_turned : NoAttr K (He.ga K "Turner") "turned"
  n_Turner_spot : NoAttr K (He.ga K "Turner") "spot"
  n_Turner_flag : NoAttr K (He.ga K "Turner") "flag"
  m_Turner_named : Meth K (He.ga K "Turner") "named" (He.ma K (He.ga K "Turner") "named")
  m_Turner_turned_all : Meth K (He.ga K "Turner") "turned_all" (He.ma K (He.ga K "Turner") "turned_all")
  m_Turner_turned_one : Meth K (He.ga K "Turner") "turned_one" (He.ma K (He.ga K "Turner") "turned_one")
  m_Turner_guarded : Meth K (He.ga K "Turner") "guarded" (He.ma K (He.ga K "Turner") "guarded")
  m_Turner_raised : Meth K (He.ga K "Turner") "raised" (He.ma K (He.ga K "Turner") "raised")
  d_begun : ∃ fd, FnP K "begun" "begun" s_begun (([] : List He.Dv).map (He.Dv.v K)) (He.fAd K ("begun", none)) fd
  d_is_name : ∃ fd, FnP K "is_name" "is_name" s_is_name (([] : List He.Dv).map (He.Dv.v K)) (He.fAd K ("is_name", none)) fd
  d_is_number : ∃ fd, FnP K "is_number" "is_number" s_is_number (([] : List He.Dv).map (He.Dv.v K)) (He.fAd K ("is_number", none)) fd
  d_is_row_names : ∃ fd, FnP K "is_row" "is_row" s_is_row_names (([] : List He.Dv).map (He.Dv.v K)) (He.fAd K ("is_row_names", none)) fd
  d_is_row_loops : ∃ fd, FnP K "is_row" "is_row" s_is_row_loops (([] : List He.Dv).map (He.Dv.v K)) (He.fAd K ("is_row_loops", none)) fd
  d_frozen : ∃ fd, FnP K "frozen" "frozen" s_frozen (([] : List He.Dv).map (He.Dv.v K)) (He.fAd K ("frozen", none)) fd
  d_spare_names : ∃ fd, FnP K "spare_names" "spare_names" s_spare_names (([] : List He.Dv).map (He.Dv.v K)) (He.fAd K ("spare_names", none)) fd
  d_leaves_at : ∃ fd, FnP K "leaves_at" "leaves_at" s_leaves_at (([] : List He.Dv).map (He.Dv.v K)) (He.fAd K ("leaves_at", none)) fd
  d_check_leaves : ∃ fd, FnP K "check_leaves" "check_leaves" s_check_leaves (([] : List He.Dv).map (He.Dv.v K)) (He.fAd K ("check_leaves", none)) fd
  d_flag_of : ∃ fd, FnP K "flag_of" "flag_of" s_flag_of (([] : List He.Dv).map (He.Dv.v K)) (He.fAd K ("flag_of", none)) fd
  d_beside : ∃ fd, FnP K "beside" "beside" s_beside (([] : List He.Dv).map (He.Dv.v K)) (He.fAd K ("beside", none)) fd
  d_law_cell : ∃ fd, FnP K "_law_cell" "_law_cell" s_law_cell (([] : List He.Dv).map (He.Dv.v K)) (He.fAd K ("_law_cell", none)) fd
  d_law_row : ∃ fd, FnP K "_law_row" "_law_row" s_law_row (([] : List He.Dv).map (He.Dv.v K)) (He.fAd K ("_law_row", none)) fd
  d_law_source : ∃ fd, FnP K "_law_source" "_law_source" s_law_source (([] : List He.Dv).map (He.Dv.v K)) (He.fAd K ("_law_source", none)) fd
  d_law_statement : ∃ fd, FnP K "_law_statement" "_law_statement" s_law_statement (([] : List He.Dv).map (He.Dv.v K)) (He.fAd K ("_law_statement", none)) fd
  d_law_test : ∃ fd, FnP K "_law_test" "_law_test" s_law_test (([] : List He.Dv).map (He.Dv.v K)) (He.fAd K ("_law_test", none)) fd
  d_law_block : ∃ fd, FnP K "_law_block" "_law_block" s_law_block (([] : List He.Dv).map (He.Dv.v K)) (He.fAd K ("_law_block", none)) fd
  d_law_loop : ∃ fd, FnP K "_law_loop" "_law_loop" s_law_loop (([] : List He.Dv).map (He.Dv.v K)) (He.fAd K ("_law_loop", none)) fd
  d_law_made : ∃ fd, FnP K "_law_made" "_law_made" s_law_made (([] : List He.Dv).map (He.Dv.v K)) (He.fAd K ("_law_made", none)) fd
  d_law_with_leaves : ∃ fd, FnP K "_law_with_leaves" "_law_with_leaves" s_law_with_leaves (([] : List He.Dv).map (He.Dv.v K)) (He.fAd K ("_law_with_leaves", none)) fd
  d_law_pairs : ∃ fd, FnP K "_law_pairs" "_law_pairs" s_law_pairs (([] : List He.Dv).map (He.Dv.v K)) (He.fAd K ("_law_pairs", none)) fd
  d_law_of_one : ∃ fd, FnP K "_law_of_one" "_law_of_one" s_law_of_one (([] : List He.Dv).map (He.Dv.v K)) (He.fAd K ("_law_of_one", none)) fd
  d_law_tables : ∃ fd, FnP K "_law_tables" "_law_tables" s_law_tables (([] : List He.Dv).map (He.Dv.v K)) (He.fAd K ("_law_tables", none)) fd
  d_law_thing : ∃ fd, FnP K "_law_thing" "_law_thing" s_law_thing (([] : List He.Dv).map (He.Dv.v K)) (He.fAd K ("_law_thing", none)) fd
  d_law_says : ∃ fd, FnP K "_law_says" "_law_says" s_law_says (([] : List He.Dv).map (He.Dv.v K)) (He.fAd K ("_law_says", none)) fd
  d_law_played_part : ∃ fd, FnP K "_law_played_part" "_law_played_part" s_law_played_part (([] : List He.Dv).map (He.Dv.v K)) (He.fAd K ("_law_played_part", none)) fd
  d_law_played : ∃ fd, FnP K "_law_played" "_law_played" s_law_played (([] : List He.Dv).map (He.Dv.v K)) (He.fAd K ("_law_played", none)) fd
  d_law_fresh_run : ∃ fd, FnP K "_law_fresh_run" "_law_fresh_run" s_law_fresh_run (([] : List He.Dv).map (He.Dv.v K)) (He.fAd K ("_law_fresh_run", none)) fd
  d_law_joint_thing : ∃ fd, FnP K "_law_joint_thing" "_law_joint_thing" s_law_joint_thing (([] : List He.Dv).map (He.Dv.v K)) (He.fAd K ("_law_joint_thing", none)) fd
  d_law_joint_does : ∃ fd, FnP K "_law_joint_does" "_law_joint_does" s_law_joint_does (([] : List He.Dv).map (He.Dv.v K)) (He.fAd K ("_law_joint_does", none)) fd
  d_law_joint_part : ∃ fd, FnP K "_law_joint_part" "_law_joint_part" s_law_joint_part (([] : List He.Dv).map (He.Dv.v K)) (He.fAd K ("_law_joint_part", none)) fd
  d_law_joint_played : ∃ fd, FnP K "_law_joint_played" "_law_joint_played" s_law_joint_played (([] : List He.Dv).map (He.Dv.v K)) (He.fAd K ("_law_joint_played", none)) fd
  d_law_leaves : ∃ fd, FnP K "_law_leaves" "_law_leaves" s_law_leaves (([] : List He.Dv).map (He.Dv.v K)) (He.fAd K ("_law_leaves", none)) fd
  d_law : ∃ fd, FnP K "law" "law" s_law (([] : List He.Dv).map (He.Dv.v K)) (He.fAd K ("law", none)) fd
  d_Scene_init : ∃ fd, FnP K "__init__" "Scene.__init__" s_Scene_init (([] : List He.Dv).map (He.Dv.v K)) (He.fAd K ("Scene", some "__init__")) fd
  d_Scene_new : ∃ fd, FnP K "new" "Scene.new" s_Scene_new (([] : List He.Dv).map (He.Dv.v K)) (He.fAd K ("Scene", some "new")) fd
  d_Scene_find : ∃ fd, FnP K "find" "Scene.find" s_Scene_find (([] : List He.Dv).map (He.Dv.v K)) (He.fAd K ("Scene", some "find")) fd
  d_Scene_make_of : ∃ fd, FnP K "make_of" "Scene.make_of" s_Scene_make_of (([] : List He.Dv).map (He.Dv.v K)) (He.fAd K ("Scene", some "make_of")) fd
  d_Scene_part : ∃ fd, FnP K "part" "Scene.part" s_Scene_part (([] : List He.Dv).map (He.Dv.v K)) (He.fAd K ("Scene", some "part")) fd
  d_Scene_close : ∃ fd, FnP K "close" "Scene.close" s_Scene_close (([] : List He.Dv).map (He.Dv.v K)) (He.fAd K ("Scene", some "close")) fd
  d_Scene_settle_calls : ∃ fd, FnP K "settle_calls" "Scene.settle_calls" s_Scene_settle_calls (([] : List He.Dv).map (He.Dv.v K)) (He.fAd K ("Scene", some "settle_calls")) fd
  d_Scene_settle_said : ∃ fd, FnP K "settle_said" "Scene.settle_said" s_Scene_settle_said (([] : List He.Dv).map (He.Dv.v K)) (He.fAd K ("Scene", some "settle_said")) fd
  d_Scene_settle_unlike : ∃ fd, FnP K "settle_unlike" "Scene.settle_unlike" s_Scene_settle_unlike (([] : List He.Dv).map (He.Dv.v K)) (He.fAd K ("Scene", some "settle_unlike")) fd
  d_Scene_settle_order : ∃ fd, FnP K "settle_order" "Scene.settle_order" s_Scene_settle_order (([] : List He.Dv).map (He.Dv.v K)) (He.fAd K ("Scene", some "settle_order")) fd
  d_Scene_settle_shares : ∃ fd, FnP K "settle_shares" "Scene.settle_shares" s_Scene_settle_shares (([] : List He.Dv).map (He.Dv.v K)) (He.fAd K ("Scene", some "settle_shares")) fd
  d_Scene_settle_squeezed : ∃ fd, FnP K "settle_squeezed" "Scene.settle_squeezed" s_Scene_settle_squeezed (([] : List He.Dv).map (He.Dv.v K)) (He.fAd K ("Scene", some "settle_squeezed")) fd
  d_Names_init : ∃ fd, FnP K "__init__" "Names.__init__" s_Names_init (([.adr (He.dflAt ("Names", some "__init__") 0), .non, .non, .non, .non, .adr (He.dflAt ("Names", some "__init__") 5), .adr (He.dflAt ("Names", some "__init__") 6)] : List He.Dv).map (He.Dv.v K)) (He.fAd K ("Names", some "__init__")) fd
  d_Names_check_names : ∃ fd, FnP K "check_names" "Names.check_names" s_Names_check_names (([] : List He.Dv).map (He.Dv.v K)) (He.fAd K ("Names", some "check_names")) fd
  d_Names_check_numbers : ∃ fd, FnP K "check_numbers" "Names.check_numbers" s_Names_check_numbers (([] : List He.Dv).map (He.Dv.v K)) (He.fAd K ("Names", some "check_numbers")) fd
  d_Names_check_rules : ∃ fd, FnP K "check_rules" "Names.check_rules" s_Names_check_rules (([] : List He.Dv).map (He.Dv.v K)) (He.fAd K ("Names", some "check_rules")) fd
  d_Names_are_constants : ∃ fd, FnP K "are_constants" "Names.are_constants" s_Names_are_constants (([] : List He.Dv).map (He.Dv.v K)) (He.fAd K ("Names", some "are_constants")) fd
  d_Names_checked_pair : ∃ fd, FnP K "checked_pair" "Names.checked_pair" s_Names_checked_pair (([] : List He.Dv).map (He.Dv.v K)) (He.fAd K ("Names", some "checked_pair")) fd
  d_Names_all_names : ∃ fd, FnP K "all_names" "Names.all_names" s_Names_all_names (([] : List He.Dv).map (He.Dv.v K)) (He.fAd K ("Names", some "all_names")) fd
  d_Names_functions : ∃ fd, FnP K "functions" "Names.functions" s_Names_functions (([] : List He.Dv).map (He.Dv.v K)) (He.fAd K ("Names", some "functions")) fd
  d_Names_tests : ∃ fd, FnP K "tests" "Names.tests" s_Names_tests (([] : List He.Dv).map (He.Dv.v K)) (He.fAd K ("Names", some "tests")) fd
  d_Names_deeds : ∃ fd, FnP K "deeds" "Names.deeds" s_Names_deeds (([] : List He.Dv).map (He.Dv.v K)) (He.fAd K ("Names", some "deeds")) fd
  d_Names_facts : ∃ fd, FnP K "facts" "Names.facts" s_Names_facts (([] : List He.Dv).map (He.Dv.v K)) (He.fAd K ("Names", some "facts")) fd
  d_Names_apart : ∃ fd, FnP K "apart" "Names.apart" s_Names_apart (([] : List He.Dv).map (He.Dv.v K)) (He.fAd K ("Names", some "apart")) fd
  d_Names_eq : ∃ fd, FnP K "__eq__" "Names.__eq__" s_Names_eq (([] : List He.Dv).map (He.Dv.v K)) (He.fAd K ("Names", some "__eq__")) fd
  d_Reader_init : ∃ fd, FnP K "__init__" "Reader.__init__" s_Reader_init (([] : List He.Dv).map (He.Dv.v K)) (He.fAd K ("Reader", some "__init__")) fd
  d_Reader_is_register : ∃ fd, FnP K "is_register" "Reader.is_register" s_Reader_is_register (([] : List He.Dv).map (He.Dv.v K)) (He.fAd K ("Reader", some "is_register")) fd
  d_Reader_is_source : ∃ fd, FnP K "is_source" "Reader.is_source" s_Reader_is_source (([] : List He.Dv).map (He.Dv.v K)) (He.fAd K ("Reader", some "is_source")) fd
  d_Reader_are_sources : ∃ fd, FnP K "are_sources" "Reader.are_sources" s_Reader_are_sources (([] : List He.Dv).map (He.Dv.v K)) (He.fAd K ("Reader", some "are_sources")) fd
  d_Reader_is_test : ∃ fd, FnP K "is_test" "Reader.is_test" s_Reader_is_test (([] : List He.Dv).map (He.Dv.v K)) (He.fAd K ("Reader", some "is_test")) fd
  d_Reader_is_plain : ∃ fd, FnP K "is_plain" "Reader.is_plain" s_Reader_is_plain (([] : List He.Dv).map (He.Dv.v K)) (He.fAd K ("Reader", some "is_plain")) fd
  d_Reader_is_leave : ∃ fd, FnP K "is_leave" "Reader.is_leave" s_Reader_is_leave (([] : List He.Dv).map (He.Dv.v K)) (He.fAd K ("Reader", some "is_leave")) fd
  d_Reader_read : ∃ fd, FnP K "read" "Reader.read" s_Reader_read (([] : List He.Dv).map (He.Dv.v K)) (He.fAd K ("Reader", some "read")) fd
  d_Reader_read_if : ∃ fd, FnP K "read_if" "Reader.read_if" s_Reader_read_if (([] : List He.Dv).map (He.Dv.v K)) (He.fAd K ("Reader", some "read_if")) fd
  d_Reader_with_put : ∃ fd, FnP K "with_put" "Reader.with_put" s_Reader_with_put (([] : List He.Dv).map (He.Dv.v K)) (He.fAd K ("Reader", some "with_put")) fd
  d_Loop_init : ∃ fd, FnP K "__init__" "Loop.__init__" s_Loop_init (([] : List He.Dv).map (He.Dv.v K)) (He.fAd K ("Loop", some "__init__")) fd
  d_Loop_section : ∃ fd, FnP K "section" "Loop.section" s_Loop_section (([] : List He.Dv).map (He.Dv.v K)) (He.fAd K ("Loop", some "section")) fd
  d_Loop_registers : ∃ fd, FnP K "registers" "Loop.registers" s_Loop_registers (([] : List He.Dv).map (He.Dv.v K)) (He.fAd K ("Loop", some "registers")) fd
  d_Turner_init : ∃ fd, FnP K "__init__" "Turner.__init__" s_Turner_init (([.str "item", .non] : List He.Dv).map (He.Dv.v K)) (He.fAd K ("Turner", some "__init__")) fd
  d_Turner_named : ∃ fd, FnP K "named" "Turner.named" s_Turner_named (([] : List He.Dv).map (He.Dv.v K)) (He.fAd K ("Turner", some "named")) fd
  d_Turner_turned_all : ∃ fd, FnP K "turned_all" "Turner.turned_all" s_Turner_turned_all (([] : List He.Dv).map (He.Dv.v K)) (He.fAd K ("Turner", some "turned_all")) fd
  d_Turner_turned_one : ∃ fd, FnP K "turned_one" "Turner.turned_one" s_Turner_turned_one (([] : List He.Dv).map (He.Dv.v K)) (He.fAd K ("Turner", some "turned_one")) fd
  d_Turner_guarded : ∃ fd, FnP K "guarded" "Turner.guarded" s_Turner_guarded (([] : List He.Dv).map (He.Dv.v K)) (He.fAd K ("Turner", some "guarded")) fd
  d_Turner_raised : ∃ fd, FnP K "raised" "Turner.raised" s_Turner_raised (([] : List He.Dv).map (He.Dv.v K)) (He.fAd K ("Turner", some "raised")) fd
  t_words : ∀ H : Hp, SqT K H (He.ga K "WORDS") (dWords.map (He.Dv.v K))
  t_sects : ∀ H : Hp, SqT K H (He.ga K "SECTIONS") (dSects.map (He.Dv.v K))
  ex : exB K = true
end K21
set_option Elab.async false
set_option linter.all false
set_option maxRecDepth 100000
set_option maxHeartbeats 0
namespace K21H
open PySem PySem.Spec PyProof.Rows L2 K21
def fa0 : List He.Fa := [.glo "begun", .glo "is_name", .glo "is_number", .glo "is_row_names", .glo "is_row_loops", .glo "frozen", .glo "spare_names", .glo "leaves_at", .glo "check_leaves", .glo "flag_of", .glo "beside", .glo "_law_cell", .glo "_law_row", .glo "_law_source", .glo "_law_statement", .glo "_law_test", .glo "_law_block", .glo "_law_loop", .glo "_law_made", .glo "_law_with_leaves", .glo "_law_pairs", .glo "_law_of_one", .glo "_law_tables", .glo "_law_thing", .glo "_law_says", .glo "_law_played_part", .glo "_law_played", .glo "_law_fresh_run", .glo "_law_joint_thing", .glo "_law_joint_does"]
def fa1 : List He.Fa := [.glo "_law_joint_part", .glo "_law_joint_played", .glo "_law_leaves", .glo "law", .free "len", .free "isinstance", .free "range", .free "enumerate", .free "sorted", .free "list", .free "tuple", .free "dict", .free "max", .free "min", .free "all", .free "any", .free "int", .free "zip", .free "str", .free "bool", .int "BARE" 0, .int "MADE_OF" 2, .str "LETTERS_names" "abcdefghijklmnopqrstuvwxyz", .str "LETTERS_pipes" "abcdefghijklmnopqrstuvwxyz", .glo "WORDS", .glo "SECTIONS", .glo "Scene", .cls "Scene", .mkr "Scene", .noat "Scene" "names"]
def fa2 : List He.Fa := [.noat "Scene" "up", .noat "Scene" "made", .noat "Scene" "calls", .noat "Scene" "said", .noat "Scene" "unlike", .noat "Scene" "order", .noat "Scene" "shares", .noat "Scene" "squeezed", .meth "Scene" "new", .meth "Scene" "find", .meth "Scene" "make_of", .meth "Scene" "part", .meth "Scene" "close", .meth "Scene" "settle_calls", .meth "Scene" "settle_said", .meth "Scene" "settle_unlike", .meth "Scene" "settle_order", .meth "Scene" "settle_shares", .meth "Scene" "settle_squeezed", .glo "Names", .cls "Names", .mkr "Names", .noat "Names" "constants", .noat "Names" "some_functions", .noat "Names" "some_tests", .noat "Names" "some_deeds", .noat "Names" "some_rules", .noat "Names" "some_facts", .noat "Names" "some_pairs", .meth "Names" "check_names"]
def fa3 : List He.Fa := [.meth "Names" "check_numbers", .meth "Names" "check_rules", .meth "Names" "are_constants", .meth "Names" "checked_pair", .meth "Names" "all_names", .meth "Names" "functions", .meth "Names" "tests", .meth "Names" "deeds", .meth "Names" "facts", .meth "Names" "apart", .glo "Reader", .cls "Reader", .mkr "Reader", .noat "Reader" "names", .noat "Reader" "used", .noat "Reader" "found", .meth "Reader" "is_register", .meth "Reader" "is_source", .meth "Reader" "are_sources", .meth "Reader" "is_test", .meth "Reader" "is_plain", .meth "Reader" "is_leave", .meth "Reader" "read", .meth "Reader" "read_if", .meth "Reader" "with_put", .glo "Loop", .cls "Loop", .mkr "Loop", .noat "Loop" "names", .noat "Loop" "laid"]
def fa4 : List He.Fa := [.noat "Loop" "all_registers", .noat "Loop" "kept", .meth "Loop" "section", .meth "Loop" "registers", .glo "Turner", .cls "Turner", .mkr "Turner", .noat "Turner" "turned", .noat "Turner" "spot", .noat "Turner" "flag", .meth "Turner" "named", .meth "Turner" "turned_all", .meth "Turner" "turned_one", .meth "Turner" "guarded", .meth "Turner" "raised"]
def fa : List He.Fa := fa0 ++ fa1 ++ fa2 ++ fa3 ++ fa4
def dd_begun : He.DefD := ⟨("begun", none), "begun", "begun", defArgs s_begun, defBody s_begun, defScope s_begun, [], []⟩
def dd_is_name : He.DefD := ⟨("is_name", none), "is_name", "is_name", defArgs s_is_name, defBody s_is_name, defScope s_is_name, [], []⟩
def dd_is_number : He.DefD := ⟨("is_number", none), "is_number", "is_number", defArgs s_is_number, defBody s_is_number, defScope s_is_number, [], []⟩
def dd_is_row_names : He.DefD := ⟨("is_row_names", none), "is_row", "is_row", defArgs s_is_row_names, defBody s_is_row_names, defScope s_is_row_names, [], []⟩
def dd_is_row_loops : He.DefD := ⟨("is_row_loops", none), "is_row", "is_row", defArgs s_is_row_loops, defBody s_is_row_loops, defScope s_is_row_loops, [], []⟩
def dd_frozen : He.DefD := ⟨("frozen", none), "frozen", "frozen", defArgs s_frozen, defBody s_frozen, defScope s_frozen, [], []⟩
def dd_spare_names : He.DefD := ⟨("spare_names", none), "spare_names", "spare_names", defArgs s_spare_names, defBody s_spare_names, defScope s_spare_names, [], []⟩
def dd_leaves_at : He.DefD := ⟨("leaves_at", none), "leaves_at", "leaves_at", defArgs s_leaves_at, defBody s_leaves_at, defScope s_leaves_at, [], []⟩
def dd_check_leaves : He.DefD := ⟨("check_leaves", none), "check_leaves", "check_leaves", defArgs s_check_leaves, defBody s_check_leaves, defScope s_check_leaves, [], []⟩
def dd_flag_of : He.DefD := ⟨("flag_of", none), "flag_of", "flag_of", defArgs s_flag_of, defBody s_flag_of, defScope s_flag_of, [], []⟩
def dd_beside : He.DefD := ⟨("beside", none), "beside", "beside", defArgs s_beside, defBody s_beside, defScope s_beside, [], []⟩
def dd_law_cell : He.DefD := ⟨("_law_cell", none), "_law_cell", "_law_cell", defArgs s_law_cell, defBody s_law_cell, defScope s_law_cell, [], []⟩
def dd_law_row : He.DefD := ⟨("_law_row", none), "_law_row", "_law_row", defArgs s_law_row, defBody s_law_row, defScope s_law_row, [], []⟩
def dd_law_source : He.DefD := ⟨("_law_source", none), "_law_source", "_law_source", defArgs s_law_source, defBody s_law_source, defScope s_law_source, [], []⟩
def dd_law_statement : He.DefD := ⟨("_law_statement", none), "_law_statement", "_law_statement", defArgs s_law_statement, defBody s_law_statement, defScope s_law_statement, [], []⟩
def dd_law_test : He.DefD := ⟨("_law_test", none), "_law_test", "_law_test", defArgs s_law_test, defBody s_law_test, defScope s_law_test, [], []⟩
def dd_law_block : He.DefD := ⟨("_law_block", none), "_law_block", "_law_block", defArgs s_law_block, defBody s_law_block, defScope s_law_block, [], []⟩
def dd_law_loop : He.DefD := ⟨("_law_loop", none), "_law_loop", "_law_loop", defArgs s_law_loop, defBody s_law_loop, defScope s_law_loop, [], []⟩
def dd_law_made : He.DefD := ⟨("_law_made", none), "_law_made", "_law_made", defArgs s_law_made, defBody s_law_made, defScope s_law_made, [], []⟩
def dd_law_with_leaves : He.DefD := ⟨("_law_with_leaves", none), "_law_with_leaves", "_law_with_leaves", defArgs s_law_with_leaves, defBody s_law_with_leaves, defScope s_law_with_leaves, [], []⟩
def dd_law_pairs : He.DefD := ⟨("_law_pairs", none), "_law_pairs", "_law_pairs", defArgs s_law_pairs, defBody s_law_pairs, defScope s_law_pairs, [], []⟩
def dd_law_of_one : He.DefD := ⟨("_law_of_one", none), "_law_of_one", "_law_of_one", defArgs s_law_of_one, defBody s_law_of_one, defScope s_law_of_one, [], []⟩
def dd_law_tables : He.DefD := ⟨("_law_tables", none), "_law_tables", "_law_tables", defArgs s_law_tables, defBody s_law_tables, defScope s_law_tables, [], []⟩
def dd_law_thing : He.DefD := ⟨("_law_thing", none), "_law_thing", "_law_thing", defArgs s_law_thing, defBody s_law_thing, defScope s_law_thing, [], []⟩
def dd_law_says : He.DefD := ⟨("_law_says", none), "_law_says", "_law_says", defArgs s_law_says, defBody s_law_says, defScope s_law_says, [], []⟩
def dd_law_played_part : He.DefD := ⟨("_law_played_part", none), "_law_played_part", "_law_played_part", defArgs s_law_played_part, defBody s_law_played_part, defScope s_law_played_part, [], []⟩
def dd_law_played : He.DefD := ⟨("_law_played", none), "_law_played", "_law_played", defArgs s_law_played, defBody s_law_played, defScope s_law_played, [], []⟩
def dd_law_fresh_run : He.DefD := ⟨("_law_fresh_run", none), "_law_fresh_run", "_law_fresh_run", defArgs s_law_fresh_run, defBody s_law_fresh_run, defScope s_law_fresh_run, [], []⟩
def dd_law_joint_thing : He.DefD := ⟨("_law_joint_thing", none), "_law_joint_thing", "_law_joint_thing", defArgs s_law_joint_thing, defBody s_law_joint_thing, defScope s_law_joint_thing, [], []⟩
def dd_law_joint_does : He.DefD := ⟨("_law_joint_does", none), "_law_joint_does", "_law_joint_does", defArgs s_law_joint_does, defBody s_law_joint_does, defScope s_law_joint_does, [], []⟩
def dd_law_joint_part : He.DefD := ⟨("_law_joint_part", none), "_law_joint_part", "_law_joint_part", defArgs s_law_joint_part, defBody s_law_joint_part, defScope s_law_joint_part, [], []⟩
def dd_law_joint_played : He.DefD := ⟨("_law_joint_played", none), "_law_joint_played", "_law_joint_played", defArgs s_law_joint_played, defBody s_law_joint_played, defScope s_law_joint_played, [], []⟩
def dd_law_leaves : He.DefD := ⟨("_law_leaves", none), "_law_leaves", "_law_leaves", defArgs s_law_leaves, defBody s_law_leaves, defScope s_law_leaves, [], []⟩
def dd_law : He.DefD := ⟨("law", none), "law", "law", defArgs s_law, defBody s_law, defScope s_law, [], []⟩
def dd_Scene_init : He.DefD := ⟨("Scene", some "__init__"), "__init__", "Scene.__init__", defArgs s_Scene_init, defBody s_Scene_init, defScope s_Scene_init, [], []⟩
def dd_Scene_new : He.DefD := ⟨("Scene", some "new"), "new", "Scene.new", defArgs s_Scene_new, defBody s_Scene_new, defScope s_Scene_new, [], []⟩
def dd_Scene_find : He.DefD := ⟨("Scene", some "find"), "find", "Scene.find", defArgs s_Scene_find, defBody s_Scene_find, defScope s_Scene_find, [], []⟩
def dd_Scene_make_of : He.DefD := ⟨("Scene", some "make_of"), "make_of", "Scene.make_of", defArgs s_Scene_make_of, defBody s_Scene_make_of, defScope s_Scene_make_of, [], []⟩
def dd_Scene_part : He.DefD := ⟨("Scene", some "part"), "part", "Scene.part", defArgs s_Scene_part, defBody s_Scene_part, defScope s_Scene_part, [], []⟩
def dd_Scene_close : He.DefD := ⟨("Scene", some "close"), "close", "Scene.close", defArgs s_Scene_close, defBody s_Scene_close, defScope s_Scene_close, [], []⟩
def dd_Scene_settle_calls : He.DefD := ⟨("Scene", some "settle_calls"), "settle_calls", "Scene.settle_calls", defArgs s_Scene_settle_calls, defBody s_Scene_settle_calls, defScope s_Scene_settle_calls, [], []⟩
def dd_Scene_settle_said : He.DefD := ⟨("Scene", some "settle_said"), "settle_said", "Scene.settle_said", defArgs s_Scene_settle_said, defBody s_Scene_settle_said, defScope s_Scene_settle_said, [], []⟩
def dd_Scene_settle_unlike : He.DefD := ⟨("Scene", some "settle_unlike"), "settle_unlike", "Scene.settle_unlike", defArgs s_Scene_settle_unlike, defBody s_Scene_settle_unlike, defScope s_Scene_settle_unlike, [], []⟩
def dd_Scene_settle_order : He.DefD := ⟨("Scene", some "settle_order"), "settle_order", "Scene.settle_order", defArgs s_Scene_settle_order, defBody s_Scene_settle_order, defScope s_Scene_settle_order, [], []⟩
def dd_Scene_settle_shares : He.DefD := ⟨("Scene", some "settle_shares"), "settle_shares", "Scene.settle_shares", defArgs s_Scene_settle_shares, defBody s_Scene_settle_shares, defScope s_Scene_settle_shares, [], []⟩
def dd_Scene_settle_squeezed : He.DefD := ⟨("Scene", some "settle_squeezed"), "settle_squeezed", "Scene.settle_squeezed", defArgs s_Scene_settle_squeezed, defBody s_Scene_settle_squeezed, defScope s_Scene_settle_squeezed, [], []⟩
def dd_Names_init : He.DefD := ⟨("Names", some "__init__"), "__init__", "Names.__init__", defArgs s_Names_init, defBody s_Names_init, defScope s_Names_init, [.adr (He.dflAt ("Names", some "__init__") 0), .non, .non, .non, .non, .adr (He.dflAt ("Names", some "__init__") 5), .adr (He.dflAt ("Names", some "__init__") 6)], []⟩
def dd_Names_check_names : He.DefD := ⟨("Names", some "check_names"), "check_names", "Names.check_names", defArgs s_Names_check_names, defBody s_Names_check_names, defScope s_Names_check_names, [], []⟩
def dd_Names_check_numbers : He.DefD := ⟨("Names", some "check_numbers"), "check_numbers", "Names.check_numbers", defArgs s_Names_check_numbers, defBody s_Names_check_numbers, defScope s_Names_check_numbers, [], []⟩
def dd_Names_check_rules : He.DefD := ⟨("Names", some "check_rules"), "check_rules", "Names.check_rules", defArgs s_Names_check_rules, defBody s_Names_check_rules, defScope s_Names_check_rules, [], []⟩
def dd_Names_are_constants : He.DefD := ⟨("Names", some "are_constants"), "are_constants", "Names.are_constants", defArgs s_Names_are_constants, defBody s_Names_are_constants, defScope s_Names_are_constants, [], []⟩
def dd_Names_checked_pair : He.DefD := ⟨("Names", some "checked_pair"), "checked_pair", "Names.checked_pair", defArgs s_Names_checked_pair, defBody s_Names_checked_pair, defScope s_Names_checked_pair, [], []⟩
def dd_Names_all_names : He.DefD := ⟨("Names", some "all_names"), "all_names", "Names.all_names", defArgs s_Names_all_names, defBody s_Names_all_names, defScope s_Names_all_names, [], []⟩
def dd_Names_functions : He.DefD := ⟨("Names", some "functions"), "functions", "Names.functions", defArgs s_Names_functions, defBody s_Names_functions, defScope s_Names_functions, [], []⟩
def dd_Names_tests : He.DefD := ⟨("Names", some "tests"), "tests", "Names.tests", defArgs s_Names_tests, defBody s_Names_tests, defScope s_Names_tests, [], []⟩
def dd_Names_deeds : He.DefD := ⟨("Names", some "deeds"), "deeds", "Names.deeds", defArgs s_Names_deeds, defBody s_Names_deeds, defScope s_Names_deeds, [], []⟩
def dd_Names_facts : He.DefD := ⟨("Names", some "facts"), "facts", "Names.facts", defArgs s_Names_facts, defBody s_Names_facts, defScope s_Names_facts, [], []⟩
def dd_Names_apart : He.DefD := ⟨("Names", some "apart"), "apart", "Names.apart", defArgs s_Names_apart, defBody s_Names_apart, defScope s_Names_apart, [], []⟩
def dd_Names_eq : He.DefD := ⟨("Names", some "__eq__"), "__eq__", "Names.__eq__", defArgs s_Names_eq, defBody s_Names_eq, defScope s_Names_eq, [], []⟩
def dd_Reader_init : He.DefD := ⟨("Reader", some "__init__"), "__init__", "Reader.__init__", defArgs s_Reader_init, defBody s_Reader_init, defScope s_Reader_init, [], []⟩
def dd_Reader_is_register : He.DefD := ⟨("Reader", some "is_register"), "is_register", "Reader.is_register", defArgs s_Reader_is_register, defBody s_Reader_is_register, defScope s_Reader_is_register, [], []⟩
def dd_Reader_is_source : He.DefD := ⟨("Reader", some "is_source"), "is_source", "Reader.is_source", defArgs s_Reader_is_source, defBody s_Reader_is_source, defScope s_Reader_is_source, [], []⟩
def dd_Reader_are_sources : He.DefD := ⟨("Reader", some "are_sources"), "are_sources", "Reader.are_sources", defArgs s_Reader_are_sources, defBody s_Reader_are_sources, defScope s_Reader_are_sources, [], []⟩
def dd_Reader_is_test : He.DefD := ⟨("Reader", some "is_test"), "is_test", "Reader.is_test", defArgs s_Reader_is_test, defBody s_Reader_is_test, defScope s_Reader_is_test, [], []⟩
def dd_Reader_is_plain : He.DefD := ⟨("Reader", some "is_plain"), "is_plain", "Reader.is_plain", defArgs s_Reader_is_plain, defBody s_Reader_is_plain, defScope s_Reader_is_plain, [], []⟩
def dd_Reader_is_leave : He.DefD := ⟨("Reader", some "is_leave"), "is_leave", "Reader.is_leave", defArgs s_Reader_is_leave, defBody s_Reader_is_leave, defScope s_Reader_is_leave, [], []⟩
def dd_Reader_read : He.DefD := ⟨("Reader", some "read"), "read", "Reader.read", defArgs s_Reader_read, defBody s_Reader_read, defScope s_Reader_read, [], []⟩
def dd_Reader_read_if : He.DefD := ⟨("Reader", some "read_if"), "read_if", "Reader.read_if", defArgs s_Reader_read_if, defBody s_Reader_read_if, defScope s_Reader_read_if, [], []⟩
def dd_Reader_with_put : He.DefD := ⟨("Reader", some "with_put"), "with_put", "Reader.with_put", defArgs s_Reader_with_put, defBody s_Reader_with_put, defScope s_Reader_with_put, [], []⟩
def dd_Loop_init : He.DefD := ⟨("Loop", some "__init__"), "__init__", "Loop.__init__", defArgs s_Loop_init, defBody s_Loop_init, defScope s_Loop_init, [], []⟩
def dd_Loop_section : He.DefD := ⟨("Loop", some "section"), "section", "Loop.section", defArgs s_Loop_section, defBody s_Loop_section, defScope s_Loop_section, [], []⟩
def dd_Loop_registers : He.DefD := ⟨("Loop", some "registers"), "registers", "Loop.registers", defArgs s_Loop_registers, defBody s_Loop_registers, defScope s_Loop_registers, [], []⟩
def dd_Turner_init : He.DefD := ⟨("Turner", some "__init__"), "__init__", "Turner.__init__", defArgs s_Turner_init, defBody s_Turner_init, defScope s_Turner_init, [.str "item", .non], []⟩
def dd_Turner_named : He.DefD := ⟨("Turner", some "named"), "named", "Turner.named", defArgs s_Turner_named, defBody s_Turner_named, defScope s_Turner_named, [], []⟩
def dd_Turner_turned_all : He.DefD := ⟨("Turner", some "turned_all"), "turned_all", "Turner.turned_all", defArgs s_Turner_turned_all, defBody s_Turner_turned_all, defScope s_Turner_turned_all, [], []⟩
def dd_Turner_turned_one : He.DefD := ⟨("Turner", some "turned_one"), "turned_one", "Turner.turned_one", defArgs s_Turner_turned_one, defBody s_Turner_turned_one, defScope s_Turner_turned_one, [], []⟩
def dd_Turner_guarded : He.DefD := ⟨("Turner", some "guarded"), "guarded", "Turner.guarded", defArgs s_Turner_guarded, defBody s_Turner_guarded, defScope s_Turner_guarded, [], []⟩
def dd_Turner_raised : He.DefD := ⟨("Turner", some "raised"), "raised", "Turner.raised", defArgs s_Turner_raised, defBody s_Turner_raised, defScope s_Turner_raised, [], []⟩
def fn0 : List He.DefD := [dd_begun, dd_is_name, dd_is_number, dd_is_row_names, dd_is_row_loops, dd_frozen, dd_spare_names, dd_leaves_at, dd_check_leaves, dd_flag_of, dd_beside, dd_law_cell, dd_law_row, dd_law_source, dd_law_statement, dd_law_test, dd_law_block, dd_law_loop, dd_law_made, dd_law_with_leaves, dd_law_pairs, dd_law_of_one, dd_law_tables, dd_law_thing, dd_law_says, dd_law_played_part, dd_law_played, dd_law_fresh_run, dd_law_joint_thing, dd_law_joint_does]
def fn1 : List He.DefD := [dd_law_joint_part, dd_law_joint_played, dd_law_leaves, dd_law, dd_Scene_init, dd_Scene_new, dd_Scene_find, dd_Scene_make_of, dd_Scene_part, dd_Scene_close, dd_Scene_settle_calls, dd_Scene_settle_said, dd_Scene_settle_unlike, dd_Scene_settle_order, dd_Scene_settle_shares, dd_Scene_settle_squeezed, dd_Names_init, dd_Names_check_names, dd_Names_check_numbers, dd_Names_check_rules, dd_Names_are_constants, dd_Names_checked_pair, dd_Names_all_names, dd_Names_functions, dd_Names_tests, dd_Names_deeds, dd_Names_facts, dd_Names_apart, dd_Names_eq, dd_Reader_init]
def fn2 : List He.DefD := [dd_Reader_is_register, dd_Reader_is_source, dd_Reader_are_sources, dd_Reader_is_test, dd_Reader_is_plain, dd_Reader_is_leave, dd_Reader_read, dd_Reader_read_if, dd_Reader_with_put, dd_Loop_init, dd_Loop_section, dd_Loop_registers, dd_Turner_init, dd_Turner_named, dd_Turner_turned_all, dd_Turner_turned_one, dd_Turner_guarded, dd_Turner_raised]
def fn : List He.DefD := fn0 ++ fn1 ++ fn2
def loose0 : List PySem.Str := ["_wall", "CallError", "BadName", "BadNumber", "BadRule", "BadFact", "BadPair", "NoWorld", "BadStatement", "NoSection", "UnlikeNames", "HasLeave", "GONE", "BARE", "TOUCHED", "MADE_OF", "Scene", "begun", "LETTERS_names", "WORDS", "is_name", "is_number", "is_rule", "is_row", "is_row_names", "Names", "SECTIONS", "is_row_loops", "frozen", "Reader"]
def loose1 : List PySem.Str := ["places_of", "Loop", "LETTERS_pipes", "spare_names", "leaves_at", "Turner", "check_leaves", "flag_of", "beside", "_law_cell", "_law_row", "_law_vocabulary", "_law_names", "_law_source", "_law_statement", "_law_test", "_law_block", "_law_loop", "_law_made", "_law_with_leaves", "_law_bare_deed", "_law_pairs", "_law_of_one", "_law_tables", "_law_size", "_law_with_facts", "_law_thing", "_law_says", "_law_played_part", "_law_played"]
def loose2 : List PySem.Str := ["_law_fresh_run", "_law_joint_thing", "_law_joint_does", "_law_joint_part", "_law_joint_played", "_law_leaves"]
def loose : List PySem.Str := loose0 ++ loose1 ++ loose2
def hex (K : PySem.W.Frag) : Bool := He.tupB K "WORDS" dWords && (He.tupB K "SECTIONS" dSects && exB K)
theorem ex_split {K : PySem.W.Frag} (h : hex K = true) : He.tupB K "WORDS" dWords = true ∧ He.tupB K "SECTIONS" dSects = true ∧ exB K = true := by
  obtain ⟨h1, h2⟩ := He.ba h
  obtain ⟨h3, h4⟩ := He.ba h2
  exact ⟨h1, h3, h4⟩
abbrev RW : PySem.W.OpenRow := PySem.W.OpenLaw.row PySem.Challenge.rw_unknowncalls_k21_whole_beside
/-! ### the part of the heap that is looked at: the module's names, their code, the classes' names, the methods' code -/
def refsQ (o : Obj) : List Addr := match o.data with
  | .dict es _ => es.toList.flatMap fun e => He.refV e.val
  | .func fd => He.refV fd.code ++ He.refV fd.defaults
  | .cls cd => cd.ns :: cd.mro.flatMap He.refV
  | _ => []
def nextQ (g : Addr → Option Obj) (as : List Addr) : List Addr := as.flatMap fun a => match g a with
  | some o => refsQ o
  | none => []
def asQ (g : Addr → Option Obj) : List Addr := [mainGlobals] ++ (nextQ g [mainGlobals] ++ (nextQ g (nextQ g [mainGlobals]) ++ (nextQ g (nextQ g (nextQ g [mainGlobals])) ++ nextQ g (nextQ g (nextQ g (nextQ g [mainGlobals]))))))
abbrev AlQ : Type := He.AlD × Bool
def obsK (K : PySem.W.Frag) : AlQ := (He.obsD fa fn K, hex K)
def obsQ (g : Addr → Option Obj) : AlQ := obsK (He.frG g (asQ g))
def hookQ : PySem.W.Hook where
  α := AlQ
  obs := fun s => obsQ s.heap.get?
  val := fun _ => (He.valD fn, true)
  says := fun _ h => ∃ K : PySem.W.Frag, K.In h ∧ He.SaysD fa fn K ∧ hex K = true
  of := fun _ _ e => ⟨_, He.frG_in, congrArg (fun z : AlQ => z.1) e, congrArg (fun z : AlQ => z.2) e⟩
  keeps := fun _ _ _ ⟨K, hK, c⟩ k => ⟨K, PySem.W.Frag.In.keeps hK k, c⟩
def ob (s : PySem.W.SharedT) : AlQ := obsQ (HandSHeadRun.getT s)
theorem ob_eq (s : PySem.W.SharedT) : ob s = hookQ.obs s.abs := by
  have e : HandSHeadRun.getT s = s.abs.heap.get? := funext (HandSHeadRun.getT_eq s)
  show obsQ (HandSHeadRun.getT s) = obsQ s.abs.heap.get?
  rw [e]
theorem runHd (w : World) : HandSHeadRun.RunEq RW (PySem.W.view RW.prog [73]) hookQ ob 20000 loose w := by
  intro os
  kernel_rfl
theorem txt_of {K : PySem.W.Frag} {h : Heap} {mg : Str → Option Value} (X : K.In h) (G : h.Ns mainGlobals mg) (cd : He.SaysD fa fn K) (cx : hex K = true) : Txt K mg := by
  obtain ⟨exw, exs, exr⟩ := ex_split cx
  exact {
    g_begun := He.glo_ok X G (cd.fact 0 (f := .glo "begun") rfl)
    g_is_name := He.glo_ok X G (cd.fact 1 (f := .glo "is_name") rfl)
    g_is_number := He.glo_ok X G (cd.fact 2 (f := .glo "is_number") rfl)
    g_is_row_names := He.glo_ok X G (cd.fact 3 (f := .glo "is_row_names") rfl)
    g_is_row_loops := He.glo_ok X G (cd.fact 4 (f := .glo "is_row_loops") rfl)
    g_frozen := He.glo_ok X G (cd.fact 5 (f := .glo "frozen") rfl)
    g_spare_names := He.glo_ok X G (cd.fact 6 (f := .glo "spare_names") rfl)
    g_leaves_at := He.glo_ok X G (cd.fact 7 (f := .glo "leaves_at") rfl)
    g_check_leaves := He.glo_ok X G (cd.fact 8 (f := .glo "check_leaves") rfl)
    g_flag_of := He.glo_ok X G (cd.fact 9 (f := .glo "flag_of") rfl)
    g_beside := He.glo_ok X G (cd.fact 10 (f := .glo "beside") rfl)
    g_law_cell := He.glo_ok X G (cd.fact 11 (f := .glo "_law_cell") rfl)
    g_law_row := He.glo_ok X G (cd.fact 12 (f := .glo "_law_row") rfl)
    g_law_source := He.glo_ok X G (cd.fact 13 (f := .glo "_law_source") rfl)
    g_law_statement := He.glo_ok X G (cd.fact 14 (f := .glo "_law_statement") rfl)
    g_law_test := He.glo_ok X G (cd.fact 15 (f := .glo "_law_test") rfl)
    g_law_block := He.glo_ok X G (cd.fact 16 (f := .glo "_law_block") rfl)
    g_law_loop := He.glo_ok X G (cd.fact 17 (f := .glo "_law_loop") rfl)
    g_law_made := He.glo_ok X G (cd.fact 18 (f := .glo "_law_made") rfl)
    g_law_with_leaves := He.glo_ok X G (cd.fact 19 (f := .glo "_law_with_leaves") rfl)
    g_law_pairs := He.glo_ok X G (cd.fact 20 (f := .glo "_law_pairs") rfl)
    g_law_of_one := He.glo_ok X G (cd.fact 21 (f := .glo "_law_of_one") rfl)
    g_law_tables := He.glo_ok X G (cd.fact 22 (f := .glo "_law_tables") rfl)
    g_law_thing := He.glo_ok X G (cd.fact 23 (f := .glo "_law_thing") rfl)
    g_law_says := He.glo_ok X G (cd.fact 24 (f := .glo "_law_says") rfl)
    g_law_played_part := He.glo_ok X G (cd.fact 25 (f := .glo "_law_played_part") rfl)
    g_law_played := He.glo_ok X G (cd.fact 26 (f := .glo "_law_played") rfl)
    g_law_fresh_run := He.glo_ok X G (cd.fact 27 (f := .glo "_law_fresh_run") rfl)
    g_law_joint_thing := He.glo_ok X G (cd.fact 28 (f := .glo "_law_joint_thing") rfl)
    g_law_joint_does := He.glo_ok X G (cd.fact 29 (f := .glo "_law_joint_does") rfl)
    g_law_joint_part := He.glo_ok X G (cd.fact 30 (f := .glo "_law_joint_part") rfl)
    g_law_joint_played := He.glo_ok X G (cd.fact 31 (f := .glo "_law_joint_played") rfl)
    g_law_leaves := He.glo_ok X G (cd.fact 32 (f := .glo "_law_leaves") rfl)
    g_law := He.glo_ok X G (cd.fact 33 (f := .glo "law") rfl)
    b_len := He.free_ok X G (cd.fact 34 (f := .free "len") rfl)
    b_isinstance := He.free_ok X G (cd.fact 35 (f := .free "isinstance") rfl)
    b_range := He.free_ok X G (cd.fact 36 (f := .free "range") rfl)
    b_enumerate := He.free_ok X G (cd.fact 37 (f := .free "enumerate") rfl)
    b_sorted := He.free_ok X G (cd.fact 38 (f := .free "sorted") rfl)
    b_list := He.free_ok X G (cd.fact 39 (f := .free "list") rfl)
    b_tuple := He.free_ok X G (cd.fact 40 (f := .free "tuple") rfl)
    b_dict := He.free_ok X G (cd.fact 41 (f := .free "dict") rfl)
    b_max := He.free_ok X G (cd.fact 42 (f := .free "max") rfl)
    b_min := He.free_ok X G (cd.fact 43 (f := .free "min") rfl)
    b_all := He.free_ok X G (cd.fact 44 (f := .free "all") rfl)
    b_any := He.free_ok X G (cd.fact 45 (f := .free "any") rfl)
    b_int := He.free_ok X G (cd.fact 46 (f := .free "int") rfl)
    b_zip := He.free_ok X G (cd.fact 47 (f := .free "zip") rfl)
    b_str := He.free_ok X G (cd.fact 48 (f := .free "str") rfl)
    b_bool := He.free_ok X G (cd.fact 49 (f := .free "bool") rfl)
    i_BARE := He.int_ok X G (cd.fact 50 (f := .int "BARE" 0) rfl)
    i_MADE_OF := He.int_ok X G (cd.fact 51 (f := .int "MADE_OF" 2) rfl)
    t_LETTERS_names := He.str_ok X G (cd.fact 52 (f := .str "LETTERS_names" "abcdefghijklmnopqrstuvwxyz") rfl)
    t_LETTERS_pipes := He.str_ok X G (cd.fact 53 (f := .str "LETTERS_pipes" "abcdefghijklmnopqrstuvwxyz") rfl)
    g_WORDS := He.glo_ok X G (cd.fact 54 (f := .glo "WORDS") rfl)
    g_SECTIONS := He.glo_ok X G (cd.fact 55 (f := .glo "SECTIONS") rfl)
    g_Scene := He.glo_ok X G (cd.fact 56 (f := .glo "Scene") rfl)
    c_Scene := He.cls_ok (cd.fact 57 (f := .cls "Scene") rfl)
    k_Scene := He.mkr_ok (cd.fact 58 (f := .mkr "Scene") rfl)
    n_Scene_names := He.noat_ok (cd.fact 59 (f := .noat "Scene" "names") rfl)
    n_Scene_up := He.noat_ok (cd.fact 60 (f := .noat "Scene" "up") rfl)
    n_Scene_made := He.noat_ok (cd.fact 61 (f := .noat "Scene" "made") rfl)
    n_Scene_calls := He.noat_ok (cd.fact 62 (f := .noat "Scene" "calls") rfl)
    n_Scene_said := He.noat_ok (cd.fact 63 (f := .noat "Scene" "said") rfl)
    n_Scene_unlike := He.noat_ok (cd.fact 64 (f := .noat "Scene" "unlike") rfl)
    n_Scene_order := He.noat_ok (cd.fact 65 (f := .noat "Scene" "order") rfl)
    n_Scene_shares := He.noat_ok (cd.fact 66 (f := .noat "Scene" "shares") rfl)
    n_Scene_squeezed := He.noat_ok (cd.fact 67 (f := .noat "Scene" "squeezed") rfl)
    m_Scene_new := He.meth_ok (cd.fact 68 (f := .meth "Scene" "new") rfl)
    m_Scene_find := He.meth_ok (cd.fact 69 (f := .meth "Scene" "find") rfl)
    m_Scene_make_of := He.meth_ok (cd.fact 70 (f := .meth "Scene" "make_of") rfl)
    m_Scene_part := He.meth_ok (cd.fact 71 (f := .meth "Scene" "part") rfl)
    m_Scene_close := He.meth_ok (cd.fact 72 (f := .meth "Scene" "close") rfl)
    m_Scene_settle_calls := He.meth_ok (cd.fact 73 (f := .meth "Scene" "settle_calls") rfl)
    m_Scene_settle_said := He.meth_ok (cd.fact 74 (f := .meth "Scene" "settle_said") rfl)
    m_Scene_settle_unlike := He.meth_ok (cd.fact 75 (f := .meth "Scene" "settle_unlike") rfl)
    m_Scene_settle_order := He.meth_ok (cd.fact 76 (f := .meth "Scene" "settle_order") rfl)
    m_Scene_settle_shares := He.meth_ok (cd.fact 77 (f := .meth "Scene" "settle_shares") rfl)
    m_Scene_settle_squeezed := He.meth_ok (cd.fact 78 (f := .meth "Scene" "settle_squeezed") rfl)
    g_Names := He.glo_ok X G (cd.fact 79 (f := .glo "Names") rfl)
    c_Names := He.cls_ok (cd.fact 80 (f := .cls "Names") rfl)
    k_Names := He.mkr_ok (cd.fact 81 (f := .mkr "Names") rfl)
    n_Names_constants := He.noat_ok (cd.fact 82 (f := .noat "Names" "constants") rfl)
    n_Names_some_functions := He.noat_ok (cd.fact 83 (f := .noat "Names" "some_functions") rfl)
    n_Names_some_tests := He.noat_ok (cd.fact 84 (f := .noat "Names" "some_tests") rfl)
    n_Names_some_deeds := He.noat_ok (cd.fact 85 (f := .noat "Names" "some_deeds") rfl)
    n_Names_some_rules := He.noat_ok (cd.fact 86 (f := .noat "Names" "some_rules") rfl)
    n_Names_some_facts := He.noat_ok (cd.fact 87 (f := .noat "Names" "some_facts") rfl)
    n_Names_some_pairs := He.noat_ok (cd.fact 88 (f := .noat "Names" "some_pairs") rfl)
    m_Names_check_names := He.meth_ok (cd.fact 89 (f := .meth "Names" "check_names") rfl)
    m_Names_check_numbers := He.meth_ok (cd.fact 90 (f := .meth "Names" "check_numbers") rfl)
    m_Names_check_rules := He.meth_ok (cd.fact 91 (f := .meth "Names" "check_rules") rfl)
    m_Names_are_constants := He.meth_ok (cd.fact 92 (f := .meth "Names" "are_constants") rfl)
    m_Names_checked_pair := He.meth_ok (cd.fact 93 (f := .meth "Names" "checked_pair") rfl)
    m_Names_all_names := He.meth_ok (cd.fact 94 (f := .meth "Names" "all_names") rfl)
    m_Names_functions := He.meth_ok (cd.fact 95 (f := .meth "Names" "functions") rfl)
    m_Names_tests := He.meth_ok (cd.fact 96 (f := .meth "Names" "tests") rfl)
    m_Names_deeds := He.meth_ok (cd.fact 97 (f := .meth "Names" "deeds") rfl)
    m_Names_facts := He.meth_ok (cd.fact 98 (f := .meth "Names" "facts") rfl)
    m_Names_apart := He.meth_ok (cd.fact 99 (f := .meth "Names" "apart") rfl)
    g_Reader := He.glo_ok X G (cd.fact 100 (f := .glo "Reader") rfl)
    c_Reader := He.cls_ok (cd.fact 101 (f := .cls "Reader") rfl)
    k_Reader := He.mkr_ok (cd.fact 102 (f := .mkr "Reader") rfl)
    n_Reader_names := He.noat_ok (cd.fact 103 (f := .noat "Reader" "names") rfl)
    n_Reader_used := He.noat_ok (cd.fact 104 (f := .noat "Reader" "used") rfl)
    n_Reader_found := He.noat_ok (cd.fact 105 (f := .noat "Reader" "found") rfl)
    m_Reader_is_register := He.meth_ok (cd.fact 106 (f := .meth "Reader" "is_register") rfl)
    m_Reader_is_source := He.meth_ok (cd.fact 107 (f := .meth "Reader" "is_source") rfl)
    m_Reader_are_sources := He.meth_ok (cd.fact 108 (f := .meth "Reader" "are_sources") rfl)
    m_Reader_is_test := He.meth_ok (cd.fact 109 (f := .meth "Reader" "is_test") rfl)
    m_Reader_is_plain := He.meth_ok (cd.fact 110 (f := .meth "Reader" "is_plain") rfl)
    m_Reader_is_leave := He.meth_ok (cd.fact 111 (f := .meth "Reader" "is_leave") rfl)
    m_Reader_read := He.meth_ok (cd.fact 112 (f := .meth "Reader" "read") rfl)
    m_Reader_read_if := He.meth_ok (cd.fact 113 (f := .meth "Reader" "read_if") rfl)
    m_Reader_with_put := He.meth_ok (cd.fact 114 (f := .meth "Reader" "with_put") rfl)
    g_Loop := He.glo_ok X G (cd.fact 115 (f := .glo "Loop") rfl)
    c_Loop := He.cls_ok (cd.fact 116 (f := .cls "Loop") rfl)
    k_Loop := He.mkr_ok (cd.fact 117 (f := .mkr "Loop") rfl)
    n_Loop_names := He.noat_ok (cd.fact 118 (f := .noat "Loop" "names") rfl)
    n_Loop_laid := He.noat_ok (cd.fact 119 (f := .noat "Loop" "laid") rfl)
    n_Loop_all_registers := He.noat_ok (cd.fact 120 (f := .noat "Loop" "all_registers") rfl)
    n_Loop_kept := He.noat_ok (cd.fact 121 (f := .noat "Loop" "kept") rfl)
    m_Loop_section := He.meth_ok (cd.fact 122 (f := .meth "Loop" "section") rfl)
    m_Loop_registers := He.meth_ok (cd.fact 123 (f := .meth "Loop" "registers") rfl)
    g_Turner := He.glo_ok X G (cd.fact 124 (f := .glo "Turner") rfl)
    c_Turner := He.cls_ok (cd.fact 125 (f := .cls "Turner") rfl)
    k_Turner := He.mkr_ok (cd.fact 126 (f := .mkr "Turner") rfl)
    n_Turner_turned := He.noat_ok (cd.fact 127 (f := .noat "Turner" "turned") rfl)
    n_Turner_spot := He.noat_ok (cd.fact 128 (f := .noat "Turner" "spot") rfl)
    n_Turner_flag := He.noat_ok (cd.fact 129 (f := .noat "Turner" "flag") rfl)
    m_Turner_named := He.meth_ok (cd.fact 130 (f := .meth "Turner" "named") rfl)
    m_Turner_turned_all := He.meth_ok (cd.fact 131 (f := .meth "Turner" "turned_all") rfl)
    m_Turner_turned_one := He.meth_ok (cd.fact 132 (f := .meth "Turner" "turned_one") rfl)
    m_Turner_guarded := He.meth_ok (cd.fact 133 (f := .meth "Turner" "guarded") rfl)
    m_Turner_raised := He.meth_ok (cd.fact 134 (f := .meth "Turner" "raised") rfl)
    d_begun := cd.def_ 0 (d := dd_begun) rfl
    d_is_name := cd.def_ 1 (d := dd_is_name) rfl
    d_is_number := cd.def_ 2 (d := dd_is_number) rfl
    d_is_row_names := cd.def_ 3 (d := dd_is_row_names) rfl
    d_is_row_loops := cd.def_ 4 (d := dd_is_row_loops) rfl
    d_frozen := cd.def_ 5 (d := dd_frozen) rfl
    d_spare_names := cd.def_ 6 (d := dd_spare_names) rfl
    d_leaves_at := cd.def_ 7 (d := dd_leaves_at) rfl
    d_check_leaves := cd.def_ 8 (d := dd_check_leaves) rfl
    d_flag_of := cd.def_ 9 (d := dd_flag_of) rfl
    d_beside := cd.def_ 10 (d := dd_beside) rfl
    d_law_cell := cd.def_ 11 (d := dd_law_cell) rfl
    d_law_row := cd.def_ 12 (d := dd_law_row) rfl
    d_law_source := cd.def_ 13 (d := dd_law_source) rfl
    d_law_statement := cd.def_ 14 (d := dd_law_statement) rfl
    d_law_test := cd.def_ 15 (d := dd_law_test) rfl
    d_law_block := cd.def_ 16 (d := dd_law_block) rfl
    d_law_loop := cd.def_ 17 (d := dd_law_loop) rfl
    d_law_made := cd.def_ 18 (d := dd_law_made) rfl
    d_law_with_leaves := cd.def_ 19 (d := dd_law_with_leaves) rfl
    d_law_pairs := cd.def_ 20 (d := dd_law_pairs) rfl
    d_law_of_one := cd.def_ 21 (d := dd_law_of_one) rfl
    d_law_tables := cd.def_ 22 (d := dd_law_tables) rfl
    d_law_thing := cd.def_ 23 (d := dd_law_thing) rfl
    d_law_says := cd.def_ 24 (d := dd_law_says) rfl
    d_law_played_part := cd.def_ 25 (d := dd_law_played_part) rfl
    d_law_played := cd.def_ 26 (d := dd_law_played) rfl
    d_law_fresh_run := cd.def_ 27 (d := dd_law_fresh_run) rfl
    d_law_joint_thing := cd.def_ 28 (d := dd_law_joint_thing) rfl
    d_law_joint_does := cd.def_ 29 (d := dd_law_joint_does) rfl
    d_law_joint_part := cd.def_ 30 (d := dd_law_joint_part) rfl
    d_law_joint_played := cd.def_ 31 (d := dd_law_joint_played) rfl
    d_law_leaves := cd.def_ 32 (d := dd_law_leaves) rfl
    d_law := cd.def_ 33 (d := dd_law) rfl
    d_Scene_init := cd.def_ 34 (d := dd_Scene_init) rfl
    d_Scene_new := cd.def_ 35 (d := dd_Scene_new) rfl
    d_Scene_find := cd.def_ 36 (d := dd_Scene_find) rfl
    d_Scene_make_of := cd.def_ 37 (d := dd_Scene_make_of) rfl
    d_Scene_part := cd.def_ 38 (d := dd_Scene_part) rfl
    d_Scene_close := cd.def_ 39 (d := dd_Scene_close) rfl
    d_Scene_settle_calls := cd.def_ 40 (d := dd_Scene_settle_calls) rfl
    d_Scene_settle_said := cd.def_ 41 (d := dd_Scene_settle_said) rfl
    d_Scene_settle_unlike := cd.def_ 42 (d := dd_Scene_settle_unlike) rfl
    d_Scene_settle_order := cd.def_ 43 (d := dd_Scene_settle_order) rfl
    d_Scene_settle_shares := cd.def_ 44 (d := dd_Scene_settle_shares) rfl
    d_Scene_settle_squeezed := cd.def_ 45 (d := dd_Scene_settle_squeezed) rfl
    d_Names_init := cd.def_ 46 (d := dd_Names_init) rfl
    d_Names_check_names := cd.def_ 47 (d := dd_Names_check_names) rfl
    d_Names_check_numbers := cd.def_ 48 (d := dd_Names_check_numbers) rfl
    d_Names_check_rules := cd.def_ 49 (d := dd_Names_check_rules) rfl
    d_Names_are_constants := cd.def_ 50 (d := dd_Names_are_constants) rfl
    d_Names_checked_pair := cd.def_ 51 (d := dd_Names_checked_pair) rfl
    d_Names_all_names := cd.def_ 52 (d := dd_Names_all_names) rfl
    d_Names_functions := cd.def_ 53 (d := dd_Names_functions) rfl
    d_Names_tests := cd.def_ 54 (d := dd_Names_tests) rfl
    d_Names_deeds := cd.def_ 55 (d := dd_Names_deeds) rfl
    d_Names_facts := cd.def_ 56 (d := dd_Names_facts) rfl
    d_Names_apart := cd.def_ 57 (d := dd_Names_apart) rfl
    d_Names_eq := cd.def_ 58 (d := dd_Names_eq) rfl
    d_Reader_init := cd.def_ 59 (d := dd_Reader_init) rfl
    d_Reader_is_register := cd.def_ 60 (d := dd_Reader_is_register) rfl
    d_Reader_is_source := cd.def_ 61 (d := dd_Reader_is_source) rfl
    d_Reader_are_sources := cd.def_ 62 (d := dd_Reader_are_sources) rfl
    d_Reader_is_test := cd.def_ 63 (d := dd_Reader_is_test) rfl
    d_Reader_is_plain := cd.def_ 64 (d := dd_Reader_is_plain) rfl
    d_Reader_is_leave := cd.def_ 65 (d := dd_Reader_is_leave) rfl
    d_Reader_read := cd.def_ 66 (d := dd_Reader_read) rfl
    d_Reader_read_if := cd.def_ 67 (d := dd_Reader_read_if) rfl
    d_Reader_with_put := cd.def_ 68 (d := dd_Reader_with_put) rfl
    d_Loop_init := cd.def_ 69 (d := dd_Loop_init) rfl
    d_Loop_section := cd.def_ 70 (d := dd_Loop_section) rfl
    d_Loop_registers := cd.def_ 71 (d := dd_Loop_registers) rfl
    d_Turner_init := cd.def_ 72 (d := dd_Turner_init) rfl
    d_Turner_named := cd.def_ 73 (d := dd_Turner_named) rfl
    d_Turner_turned_all := cd.def_ 74 (d := dd_Turner_turned_all) rfl
    d_Turner_turned_one := cd.def_ 75 (d := dd_Turner_turned_one) rfl
    d_Turner_guarded := cd.def_ 76 (d := dd_Turner_guarded) rfl
    d_Turner_raised := cd.def_ 77 (d := dd_Turner_raised) rfl
    t_words := He.tupB_ok exw
    t_sects := He.tupB_ok exs
    ex := exr }
end K21H
set_option Elab.async false
set_option linter.all false
set_option maxRecDepth 100000
set_option maxHeartbeats 0
namespace K21H
open PySem PySem.W PySem.Calls PyProof.Rows
theorem bare_ok : (OpenLaw.row PySem.Challenge.rw_unknowncalls_k21_whole_beside).prog.bare := ⟨rfl, rfl, rfl, rfl, rfl, by decide +kernel⟩
end K21H
set_option Elab.async false
set_option linter.all false
set_option maxRecDepth 100000
set_option maxHeartbeats 0
namespace K21H
open PySem PySem.W PySem.Calls PyProof.Rows
theorem opened (h : (OpenLaw.row PySem.Challenge.rw_unknowncalls_k21_whole_beside).wellSaid = true → (OpenLaw.row PySem.Challenge.rw_unknowncalls_k21_whole_beside).Holds) : (PySem.Challenge.rw_unknowncalls_k21_whole_beside).Holds := by
  w_on; o_law
  rename_i said
  exact h said
end K21H
set_option Elab.async false
set_option linter.all false
set_option maxRecDepth 100000
set_option maxHeartbeats 4000000
namespace K21
open PySem PySem.Spec PyProof.Rows L2

/-! ### callables -/
section
variable (P : Program) (w : World) (K : PySem.W.Frag) (mg : Str → Option Value) (base : Heap)
structure Cal (k : Nat) (x : Str) (sp : Sp) : Prop where
  ex : ∃ (f : Addr) (fd : FuncData) (ps : List Str), FnOk P w K mg base CX0 k f fd ps sp ∧ mg x = some (.ref f) ∧ PySem.W.keepIn K (.ref f) = true ∧ Binds K fd ps []
structure Met (k : Nat) (C : Addr) (m : Str) (sp : Sp) : Prop where
  ex : ∃ (f : Addr) (fd : FuncData) (ps : List Str), Cls K C ∧ Meth K C m f ∧ FnOk P w K mg base CX0 k f fd ps sp ∧ Binds K fd ps []
structure Mak (k : Nat) (x : Str) (C : Addr) (sp : Sp) : Prop where
  ex : ∃ (f : Addr) (fd : FuncData) (ps : List Str), Mk K C f ∧ FnOk P w K mg base CX0 k f fd ps sp ∧ mg x = some (.ref C) ∧ Binds K fd ps []
end
section
variable {P : Program} {w : World} {K : PySem.W.Frag} {mg : Str → Option Value} {base : Heap}
/-- what a body owes -/
abbrev Bod (P : Program) (w : World) (K : PySem.W.Frag) (mg : Str → Option Value) (base : Heap) (N : List Str) (qual : Str) (st : Stmt) (k : Nat) (sp : Sp) (f : Addr) : Prop :=
  ∀ (cdv : Value) (A : Around) (outer : List Env) (s : Shared) (H : Hp) (vs : List V) (Q : VK) (E : XK), Room k (A.deeper (envOfC qual (defScope st) s.heap.objs.size f cdv)) → sp vs H Q E →
    ∃ t, PSs (cxOf CX0 P w K mg base N qual (defScope st) f cdv A outer s H E).nox (defBody st) t ∧ t { nx := fun _ H' => Q .non H', rt := Q } (start N vs) H
theorem fn_ok {x qual : Str} {st : Stmt} {dvs : List V} {f : Addr} {fd : FuncData} {N ps : List Str} {k : Nat} {sp : Sp} (F : FnP K x qual st dvs f fd) (S : FnScope N ps (defScope st))
    (len : ∀ vs H Q E, sp vs H Q E → vs.length = ps.length) (hb : Bod P w K mg base N qual st k sp f) : FnOk P w K mg base CX0 (k + 1) f fd ps sp :=
  F.ok S len fun cdv A outer s H vs Q E hr h => by
    obtain ⟨t, h1, h2⟩ := hb cdv A outer s H vs Q E hr h
    exact ⟨t, h1.nox, h2⟩
abbrev BindN (x qual : Str) (st : Stmt) (ps : List Str) : Prop := ∀ (kV doc pm : Value) (an : Option Addr) (cdv ct : Value) (us : List Value), us.length = ps.length → bindArgs (PySem.W.fnOf x qual (defArgs st) (defBody st) (defScope st) .none kV doc pm an cdv ct) ⟨us, []⟩ = pure (ps.zip us)
theorem cal_of {x y qual : Str} {st : Stmt} {f : Addr} {N ps : List Str} {k : Nat} {sp : Sp} (hF : ∃ fd, FnP K x qual st [] f fd) (hm : mg y = some (.ref f)) (S : FnScope N ps (defScope st)) (bnd : BindN x qual st ps)
    (len : ∀ vs H Q E, sp vs H Q E → vs.length = ps.length) (hb : Bod P w K mg base N qual st k sp f) : Cal P w K mg base (k + 1) y sp := by
  obtain ⟨fd, F⟩ := hF
  exact ⟨f, fd, ps, fn_ok F S len hb, hm, F.kp, F.bindsN bnd⟩
theorem met_of {x qual : Str} {st : Stmt} {f C : Addr} {N ps : List Str} {k : Nat} {sp : Sp} (hF : ∃ fd, FnP K x qual st [] f fd) (c : Cls K C) (hm : Meth K C x f) (S : FnScope N ps (defScope st)) (bnd : BindN x qual st ps)
    (len : ∀ vs H Q E, sp vs H Q E → vs.length = ps.length) (hb : Bod P w K mg base N qual st k sp f) : Met P w K mg base (k + 1) C x sp := by
  obtain ⟨fd, F⟩ := hF
  exact ⟨f, fd, ps, c, hm, fn_ok F S len hb, F.bindsN bnd⟩
theorem mak_of {x qual y : Str} {st : Stmt} {f C : Addr} {N ps : List Str} {k : Nat} {sp : Sp} (hF : ∃ fd, FnP K x qual st [] f fd) (hm : Mk K C f) (hg : mg y = some (.ref C)) (S : FnScope N ps (defScope st)) (bnd : BindN x qual st ps)
    (len : ∀ vs H Q E, sp vs H Q E → vs.length = ps.length) (hb : Bod P w K mg base N qual st k sp f) : Mak P w K mg base (k + 1) y C sp := by
  obtain ⟨fd, F⟩ := hF
  exact ⟨f, fd, ps, hm, fn_ok F S len hb, hg, F.bindsN bnd⟩
theorem Cal.imp {k : Nat} {x : Str} {sp sp' : Sp} (c : Cal P w K mg base k x sp) (h : ∀ vs H Q E, sp' vs H Q E → sp vs H Q E) : Cal P w K mg base k x sp' := by
  obtain ⟨f, fd, ps, F, r⟩ := c.ex
  exact ⟨f, fd, ps, F.imp h, r⟩
theorem Met.imp {k : Nat} {C : Addr} {x : Str} {sp sp' : Sp} (c : Met P w K mg base k C x sp) (h : ∀ vs H Q E, sp' vs H Q E → sp vs H Q E) : Met P w K mg base k C x sp' := by
  obtain ⟨f, fd, ps, c1, c2, F, r⟩ := c.ex
  exact ⟨f, fd, ps, c1, c2, F.imp h, r⟩
end
section
variable {X : Cx} {k j : Nat} {C : Addr} {x m : Str} {sp : Sp} {p pos apos : Pos} {e o : Expr} {es : List Expr} {ta : TE} {t : TA}
/-- f(e, ..) -/
theorem pc (c : Cal X.prog X.w X.K X.mg X.base k x sp) (hr : Room j X.A) (hk : k ≤ j) (ha : PA X (e :: es) t) (hg : Gl X x := by rfl)
    (hdb : (x == ("__debug__" : Str)) = false := by decide) (he : starEach (e :: es) X.env = (false, eval e X.env) :: starEach es X.env := by rfl) (hpl : (backTo pos (starEach es X.env)).any (·.1) = false := by rfl) :
    PE X (.Call (.Name x p) (e :: es) [] pos) (tCall sp [] E0 t) := by
  obtain ⟨f, fd, ps, F, hm, kp, b⟩ := c.ex
  exact pe_call F (hr.mono hk) hg hm kp b .nil pass0 ha hdb he hpl
/-- C(e, ..) -/
theorem pmk (c : Mak X.prog X.w X.K X.mg X.base k x C sp) (hr : Room j X.A) (hk : k + 1 ≤ j) (ha : PA X (e :: es) t) (hg : Gl X x := by rfl)
    (hdb : (x == ("__debug__" : Str)) = false := by decide) (he : starEach (e :: es) X.env = (false, eval e X.env) :: starEach es X.env := by rfl) (hpl : (backTo pos (starEach es X.env)).any (·.1) = false := by rfl) :
    PE X (.Call (.Name x p) (e :: es) [] pos) (tMake C sp [] E0 t) := by
  obtain ⟨f, fd, ps, M, F, hm, b⟩ := c.ex
  exact pe_make M F (hr.mono hk) hg hm b .nil pass0 ha hdb he hpl
/-- o.m(e, ..) -/
theorem pmt {pl : Sem Bool} (c : Met X.prog X.w X.K X.mg X.base k C m sp) (hr : Room j X.A) (hk : k ≤ j) (he : PE X o ta) (ha : PA X (e :: es) t)
    (hst : starEach (e :: es) X.env = (false, eval e X.env) :: starEach es X.env := by rfl) (hpl : (backTo pos (starEach es X.env)).any (·.1) = false := by rfl)
    (ht : eval (.Call (.Attribute o m apos) (e :: es) [] pos) X.env = (do
      let ov ← eval o X.env
      standAt apos.atName
      let (f, first) ← holding [ov] (getMethod ov m pl)
      callWith pos f first (backTo pos (starEach (e :: es) X.env)) (backToKw pos (keywordEach [] X.env))) := by rfl) :
    PE X (.Call (.Attribute o m apos) (e :: es) [] pos) (tMeth C m sp [] E0 ta t) := by
  obtain ⟨f, fd, ps, hc, hm, F, b⟩ := c.ex
  exact pe_meth (pl := pl) he hc hm F (hr.mono hk) b .nil pass0 ha hst hpl ht
theorem pmt0 {pl : Sem Bool} (c : Met X.prog X.w X.K X.mg X.base k C m sp) (hr : Room j X.A) (hk : k ≤ j) (he : PE X o ta)
    (ht : eval (.Call (.Attribute o m apos) [] [] pos) X.env = (do
      let ov ← eval o X.env
      standAt apos.atName
      let (f, first) ← holding [ov] (getMethod ov m pl)
      callWith pos f first (backTo pos (starEach [] X.env)) (backToKw pos (keywordEach [] X.env))) := by rfl) :
    PE X (.Call (.Attribute o m apos) [] [] pos) (tMeth C m sp [] E0 ta tNil) := by
  obtain ⟨f, fd, ps, hc, hm, F, b⟩ := c.ex
  exact pe_meth0 (pl := pl) he hc hm F (hr.mono hk) b .nil pass0 ht
/-- a global that holds an int, a text, an object -/
theorem p_int {i : Int} (h : ∃ t, X.mg x = some (.int i t)) (hg : Gl X x := by rfl) (hd : (x == ("__debug__" : Str)) = false := by decide) : PE X (.Name x pos) (tC (.int i)) := by
  obtain ⟨t, h⟩ := h
  exact pe_glob hg h ⟨t, rfl⟩ hd
theorem p_str {i : Str} (h : ∃ t, X.mg x = some (.str i t)) (hg : Gl X x := by rfl) (hd : (x == ("__debug__" : Str)) = false := by decide) : PE X (.Name x pos) (tC (.str i)) := by
  obtain ⟨t, h⟩ := h
  exact pe_glob hg h ⟨t, rfl⟩ hd
theorem p_ref {a : Addr} (h : X.mg x = some (.ref a)) (hg : Gl X x := by rfl) (hd : (x == ("__debug__" : Str)) = false := by decide) : PE X (.Name x pos) (tC (.ref a)) := pe_glob hg h rfl hd
theorem p_ty {T : String} (h : X.mg x = none) (hv : bootBuiltins x = some (.type T)) (hg : Gl X x := by rfl) (hn : x ≠ "__name__" := by decide) (hd : (x == ("__debug__" : Str)) = false := by decide) : PE X (.Name x pos) (tC (.ty T)) := pe_bltn hg h hv rfl hn hd
/-- calls of built-ins -/
theorem pb {id : String} {r : List V → Hp → VK → Prop} (hc : CallR X (.builtin id) r) (hm : X.mg x = none) (hv : bootBuiltins x = some (.builtin id)) (ha : PA X (e :: es) t) (hg : Gl X x := by rfl) (hn : x ≠ "__name__" := by decide) (hdb : (x == ("__debug__" : Str)) = false := by decide)
    (he : starEach (e :: es) X.env = (false, eval e X.env) :: starEach es X.env := by rfl) (hpl : (backTo pos (starEach es X.env)).any (·.1) = false := by rfl) : PE X (.Call (.Name x p) (e :: es) [] pos) (tCB r t) := pe_callB hc hg hm hv ha hn hdb he hpl
theorem pbt {T : String} {r : List V → Hp → VK → Prop} (hc : CallR X (.type T) r) (hm : X.mg x = none) (hv : bootBuiltins x = some (.type T)) (ha : PA X (e :: es) t) (hg : Gl X x := by rfl) (hn : x ≠ "__name__" := by decide) (hdb : (x == ("__debug__" : Str)) = false := by decide)
    (he : starEach (e :: es) X.env = (false, eval e X.env) :: starEach es X.env := by rfl) (hpl : (backTo pos (starEach es X.env)).any (·.1) = false := by rfl) : PE X (.Call (.Name x p) (e :: es) [] pos) (tCB r t) := pe_callTy hc hg hm hv ha hn hdb he hpl
end
theorem v_len : bootBuiltins "len" = some (.builtin "len") := by decide +kernel
theorem v_isinstance : bootBuiltins "isinstance" = some (.builtin "isinstance") := by decide +kernel
theorem v_sorted : bootBuiltins "sorted" = some (.builtin "sorted") := by decide +kernel
theorem v_max : bootBuiltins "max" = some (.builtin "max") := by decide +kernel
theorem v_min : bootBuiltins "min" = some (.builtin "min") := by decide +kernel
theorem v_all : bootBuiltins "all" = some (.builtin "all") := by decide +kernel
theorem v_any : bootBuiltins "any" = some (.builtin "any") := by decide +kernel
theorem v_list : bootBuiltins "list" = some (.type "list") := by decide +kernel
theorem v_tuple : bootBuiltins "tuple" = some (.type "tuple") := by decide +kernel
theorem v_dict : bootBuiltins "dict" = some (.type "dict") := by decide +kernel
theorem v_int : bootBuiltins "int" = some (.type "int") := by decide +kernel
theorem v_str : bootBuiltins "str" = some (.type "str") := by decide +kernel
theorem v_bool : bootBuiltins "bool" = some (.type "bool") := by decide +kernel

/-! ### heaps: growing, the part that stands still -/
theorem _root_.L2.Same.new {H : Hp} {p : Addr} {o : HO} (h : H p = none) : Same H (upd H p o) := fun b u e => by
  rw [upd_ne (ne_of_none e h)]
  exact e
/-- what the smaller part does not know may change -/
theorem _root_.L2.Same.mut {G H : Hp} {p : Addr} {o : HO} (e : Same G H) (h : G p = none) : Same G (upd H p o) := fun b u q => by
  rw [upd_ne (ne_of_none q h)]
  exact e b u q
theorem _root_.L2.Same.snew {G H : Hp} {p : Addr} {o : HO} (e : Same G H) (h : H p = none) : Same G (upd H p o) := e.trans (Same.new h)
theorem rd_same {H H' : Hp} {a : Addr} {u : HO} (e : Same H H') (h : Rd H a u) : Rd H' a u := by
  rcases h with h | ⟨o, h⟩
  · exact Or.inl (e a _ h)
  · exact Or.inr ⟨o, e a _ h⟩
theorem _root_.L2.Same.tup {K : PySem.W.Frag} {H H' : Hp} {a : Addr} {xs : List V} (e : Same H H') (h : SqT K H a xs) : SqT K H' a xs := by
  rcases h with h | h
  · exact Or.inl (rd_same e h)
  · exact Or.inr h
/-- G and all that is new since H -/
def grow (G H H' : Hp) : Hp := fun a => match H a with
  | none => H' a
  | some _ => G a
section
variable {G H H1 H' : Hp} {a : Addr} {o : HO}
theorem grow_new (h : H a = none) : grow G H H' a = H' a := by
  unfold grow
  rw [h]
theorem grow_old (h : H a = some o) : grow G H H' a = G a := by
  unfold grow
  rw [h]
theorem grow_le (g : Same G H) (e : Same H H') : Same G (grow G H H') := fun b u q => by
  rw [grow_old (g b u q)]
  exact q
theorem grow_in (g : Same G H) (e : Same H H') : Same (grow G H H') H' := fun b u q => by
  cases z : H b with
  | none =>
    rw [grow_new z] at q
    exact q
  | some v =>
    rw [grow_old z] at q
    exact e b u (g b u q)
theorem grow_none (h : H a = some o) (hg : G a = none) : grow G H H' a = none := by
  rw [grow_old h]
  exact hg
theorem grow_mono {H'' : Hp} (e1 : Same H' H'') : Same (grow G H H') (grow G H H'') := fun b u q => by
  cases z : H b with
  | none =>
    rw [grow_new z] at q ⊢
    exact e1 b u q
  | some v =>
    rw [grow_old z] at q ⊢
    exact q
/-- a later start holds less -/
theorem grow_sub {H'' : Hp} (e : Same H H1) (e1 : Same H1 H'') : Same (grow (grow G H H1) H1 H'') (grow G H H'') := fun b u q => by
  cases z : H1 b with
  | none =>
    rw [grow_new z] at q
    rw [grow_new (e.free z)]
    exact q
  | some v =>
    rw [grow_old z] at q
    exact grow_mono e1 b u q
end
/-- the tuples: they never change -/
def tups (H : Hp) : Hp := fun a => match H a with
  | some (.tup xs) => some (.tup xs)
  | _ => none
def TSame (H H' : Hp) : Prop := ∀ a xs, H a = some (.tup xs) → H' a = some (.tup xs)
section
variable {G H H1 H' : Hp} {a : Addr} {o : HO}
theorem tups_some {xs : List V} (h : H a = some (.tup xs)) : tups H a = some (.tup xs) := by
  unfold tups
  rw [h]
theorem tups_inv (h : tups H a = some o) : ∃ xs, o = .tup xs ∧ H a = some (.tup xs) := by
  unfold tups at h
  split at h
  · rename_i xs e
    exact ⟨xs, (Option.some.inj h).symm, e⟩
  · cases h
theorem tups_in : Same (tups H) H := fun b u q => by
  obtain ⟨xs, e, h⟩ := tups_inv q
  rw [e]
  exact h
theorem TSame.tups (t : TSame H H') : Same (tups H) (tups H') := fun b u q => by
  obtain ⟨xs, e, h⟩ := tups_inv q
  rw [e]
  exact tups_some (t b xs h)
theorem _root_.L2.Same.t (e : Same H H') : TSame H H' := fun b xs h => e b _ h
theorem TSame.refl (H : Hp) : TSame H H := fun _ _ h => h
theorem TSame.trans (a : TSame H H1) (b : TSame H1 H') : TSame H H' := fun c xs h => b c xs (a c xs h)
theorem TSame.mut (t : TSame H H') (h : ∀ xs, H' a ≠ some (.tup xs)) : TSame H (upd H' a o) := fun b xs q => by
  have q2 := t b xs q
  rw [upd_ne (fun z => by
    rw [z] at q2
    exact h xs q2)]
  exact q2
theorem TSame.new (t : TSame H H') (h : H' a = none) : TSame H (upd H' a o) := t.mut fun xs z => by
  rw [h] at z
  cases z
end
/-! ### data in a part of the heap -/
mutual
theorem dp_same {K : PySem.W.Frag} {H H' : Hp} (e : Same H H') : ∀ (d : PyData) (v : V), Dp K H v d → Dp K H' v d
  | .none, _, h => by cases h; exact .non
  | .bool b, _, h => by cases h; exact .bl b
  | .int i, _, h => by cases h; exact .int i
  | .str x, _, h => by cases h; exact .str x
  | .list ds, _, h => by
    cases h with
    | lst a b => exact .lst (e.seq a) (dpAll_same e ds _ b)
  | .tuple ds, _, h => by
    cases h with
    | tup a b => exact .tup (e.tup a) (dpAll_same e ds _ b)
  | .dict _, _, h => by cases h
theorem dpAll_same {K : PySem.W.Frag} {H H' : Hp} (e : Same H H') : ∀ (ds : List PyData) (vs : List V), DpAll K H vs ds → DpAll K H' vs ds
  | [], _, h => by cases h; exact .nil
  | d :: ds, _, h => by
    cases h with
    | cons a b => exact .cons (dp_same e d _ a) (dpAll_same e ds _ b)
end
section
variable {K : PySem.W.Frag} {H H' : Hp}
theorem _root_.L2.Dp.up {v : V} {d : PyData} (h : Dp K H v d) (e : Same H H') : Dp K H' v d := dp_same e d v h
theorem _root_.L2.DpAll.up {v : List V} {d : List PyData} (h : DpAll K H v d) (e : Same H H') : DpAll K H' v d := dpAll_same e d v h
theorem dpa_len : ∀ {vs : List V} {ds : List PyData}, DpAll K H vs ds → vs.length = ds.length
  | _, [], h => by cases h; rfl
  | _, d :: ds, h => by
    cases h with
    | cons a b =>
      rw [List.length_cons, List.length_cons, dpa_len b]
theorem dpa_app : ∀ {vs us : List V} {ds es : List PyData}, DpAll K H vs ds → DpAll K H us es → DpAll K H (vs ++ us) (ds ++ es)
  | _, _, [], _, h, g => by cases h; exact g
  | _, _, d :: ds, _, h, g => by
    cases h with
    | cons a b => exact .cons a (dpa_app b g)
theorem dpa_drop : ∀ {vs : List V} {ds : List PyData} (n : Nat), DpAll K H vs ds → DpAll K H (vs.drop n) (ds.drop n)
  | _, _, 0, h => h
  | _, [], n + 1, h => by cases h; exact .nil
  | _, d :: ds, n + 1, h => by
    cases h with
    | cons a b => exact dpa_drop n b
theorem dpa_take : ∀ {vs : List V} {ds : List PyData} (n : Nat), DpAll K H vs ds → DpAll K H (vs.take n) (ds.take n)
  | _, _, 0, _ => .nil
  | _, [], n + 1, h => by cases h; exact .nil
  | _, d :: ds, n + 1, h => by
    cases h with
    | cons a b => exact .cons a (dpa_take n b)
theorem dpa_get : ∀ {vs : List V} {ds : List PyData} {n : Nat} {v : V}, DpAll K H vs ds → vs[n]? = some v → ∃ d, ds[n]? = some d ∧ Dp K H v d
  | _, [], n, v, h, e => by cases h; simp at e
  | _, d :: ds, 0, v, h, e => by
    cases h with
    | cons a b =>
      simp at e
      subst e
      exact ⟨d, rfl, a⟩
  | _, d :: ds, n + 1, v, h, e => by
    cases h with
    | cons a b =>
      obtain ⟨d', h1, h2⟩ := dpa_get (n := n) (v := v) b (by simpa using e)
      exact ⟨d', by simpa using h1, h2⟩
theorem dpAll_strs : ∀ xs : List Str, DpAll K H (xs.map V.str) (xs.map PyData.str)
  | [] => .nil
  | x :: xs => .cons (.str x) (dpAll_strs xs)
theorem dpAll_ints : ∀ xs : List Int, DpAll K H (xs.map V.int) (xs.map PyData.int)
  | [] => .nil
  | x :: xs => .cons (.int x) (dpAll_ints xs)
theorem dpAll_strs_inv : ∀ {vs : List V} {xs : List Str}, DpAll K H vs (xs.map PyData.str) → vs = xs.map V.str
  | _, [], h => by cases h; rfl
  | _, x :: xs, h => by
    cases h with
    | cons a b =>
      cases a
      rw [dpAll_strs_inv b] <;> rfl
end
/-! ### short words -/
section
variable {X : Cx} {x : Str} {e : Expr} {te : TE} {pos pos' : Pos}
theorem pset (i : Nat) (hN : X.N.Nodup) (he : PE X e te) (hi : X.N[i]? = some x := by rfl) (hx : Loc X.env.scope x := by first | exact Or.inl rfl | exact Or.inr rfl) (hs : swapsWith e (some (.Name x pos')) pos.line X.env = pure false := by rfl)
    (hf : X.fn x = true ∨ X.env.scope.names.lookup x = some .local := by first | exact .inl rfl | exact .inr rfl) : PS X (.Assign [.Name x pos'] e pos) (tAsg te (gName i)) := ps_set hN hi hx he hs hf
theorem pgn (i : Nat) (hN : X.N.Nodup) (hi : X.N[i]? = some x := by rfl) (hx : Loc X.env.scope x := by first | exact Or.inl rfl | exact Or.inr rfl)
    (hf : X.fn x = true ∨ X.env.scope.names.lookup x = some .local := by first | exact .inl rfl | exact .inr rfl) : PG X (.Name x pos) (gName i) := pg_name hN hi hx hf
end
/-- all but the object at D -/
def hid (D : Addr) (H : Hp) : Hp := fun a => if a = D then none else H a
section
variable {D : Addr} {H H' H1 : Hp} {o : HO} {a : Addr}
theorem hid_ne (h : a ≠ D) : hid D H a = H a := if_neg h
theorem hid_at : hid D H D = none := if_pos rfl
theorem hid_in : Same (hid D H) H := fun b u q => by
  by_cases h : b = D
  · rw [h, hid_at] at q
    cases q
  · rw [hid_ne h] at q
    exact q
theorem hid_upd : hid D (upd H D o) = hid D H := by
  funext b
  by_cases h : b = D
  · rw [h, hid_at, hid_at]
  · rw [hid_ne h, hid_ne h, upd_ne h]
theorem hid_of (h : H1 D = none) (e : Same H1 H) : Same H1 (hid D H) := fun b u q => by
  rw [hid_ne (ne_of_none q h)]
  exact e b u q
theorem _root_.L2.Same.hid (e : Same H H') : Same (hid D H) (hid D H') := fun b u q => by
  by_cases h : b = D
  · rw [h, hid_at] at q
    cases q
  · rw [hid_ne h] at q ⊢
    exact e b u q
theorem hid_none (h : H a = none) : hid D H a = none := by
  by_cases e : a = D
  · rw [e, hid_at]
  · rw [hid_ne e, h]
end
/-! ### comprehensions -/
/-- a comprehension without a test, over a walk: every element is as P says; all but the new list at D only grows -/
theorem lc_rel {J : It} {n : Nat} {G : Hp → Prop} {Y : Nat → Hp → V → Hp → Prop} (w : Walk J n G Y) {g : TG} {te : TE} {vs : List Nat} {σ : L2.St} {H1 : Hp} {D : Addr} {Qd : Hp → Prop} (hD : H1 D = none) (hn : n ≤ 100000) (P : Nat → V → Hp → Prop)
    (hP : ∀ i v H H', Same H H' → P i v H → P i v H') (hG : ∀ H, Same H1 H → G H)
    (hs : ∀ i x H H', i < n → Same H1 H → (∃ ys, H D = some (.lst ys)) → Y i H x H' → ∀ R : V → Hp → Prop, (∀ y H4, Same H H4 → P i y (hid D H4) → R y H4) → g x (wipe σ vs) H' fun σ2 H2 => wipe σ2 vs = wipe σ vs ∧ te σ2 H2 R)
    (hd : ∀ H ys, Same H1 (hid D H) → H D = some (.lst ys) → ys.length = n → (∀ i y, ys[i]? = some y → P i y (hid D H)) → Qd H) :
    ∃ W : Nat → Nat → Hp → Prop, (∃ m, W 0 m (upd H1 D (.lst []))) ∧ ∀ i m H, W i m H →
      (J.stop i H ∧ Qd H) ∨ (J.go i H ∧ ∃ Nx : Hp → Prop, (∀ H', Nx H' → ∃ m', m' < m ∧ W (i + 1) m' H') ∧ ∀ x H', J.yld i H x H' → g x (wipe σ vs) H' fun σ2 H2 => wipe σ2 vs = wipe σ vs ∧ tYes σ2 H2 fun b H3 =>
        if b = true then te σ2 H3 fun y H4 => ∃ acc, H4 D = some (.lst acc) ∧ acc.length < sizeLine ∧ Nx (upd H4 D (.lst (acc ++ [y]))) else Nx H3) := by
  refine lc_it w (fun i H => Same H1 (hid D H) ∧ ∃ ys, H D = some (.lst ys) ∧ ys.length = i ∧ ∀ j y, ys[j]? = some y → P j y (hid D H)) ⟨?_, [], upd_same, rfl, fun j y h => by simp at h⟩ (fun i H _ q => hG H (q.1.trans hid_in)) ?_ ?_
  · rw [hid_upd]
    exact hid_of hD (Same.refl _)
  · rintro i x H H' hi ⟨s1, ys, hy, hl, hp⟩ yx
    have q := hs i x H H' hi (s1.trans hid_in) ⟨ys, hy⟩ yx (fun y H4 => ∃ acc, H4 D = some (.lst acc) ∧ acc.length < sizeLine ∧ (Same H1 (hid D (upd H4 D (.lst (acc ++ [y])))) ∧ ∃ ys, (upd H4 D (.lst (acc ++ [y]))) D = some (.lst ys) ∧ ys.length = i + 1 ∧ ∀ j y', ys[j]? = some y' → P j y' (hid D (upd H4 D (.lst (acc ++ [y])))))) (fun y H4 e p => by
      refine ⟨ys, e _ _ hy, ?_, ?_, ys ++ [y], upd_same, by rw [List.length_append, hl] <;> rfl, ?_⟩
      · rw [hl]
        exact Nat.lt_of_lt_of_le hi (Nat.le_trans hn (by decide))
      · rw [hid_upd]
        exact s1.trans e.hid
      · intro j y' hj
        rw [hid_upd]
        by_cases hji : j < ys.length
        · rw [List.getElem?_append_left hji] at hj
          exact hP _ _ _ _ e.hid (hp j y' hj)
        · rw [List.getElem?_append_right (Nat.le_of_not_lt hji)] at hj
          have e0 : j - ys.length = 0 := by
            cases z : j - ys.length with
            | zero => rfl
            | succ k =>
              rw [z] at hj
              simp at hj
          rw [e0] at hj
          have ey : y' = y := by simpa using hj.symm
          have ej : j = i := by omega
          rw [ey, ej]
          exact p)
    exact q
  · rintro H ⟨s1, ys, hy, hl, hp⟩
    exact hd H ys s1 hy hl hp
/-- .. of values that the heap has no part in -/
theorem lc_map {J : It} {n : Nat} {G : Hp → Prop} {Y : Nat → Hp → V → Hp → Prop} (w : Walk J n G Y) {g : TG} {te : TE} {vs : List Nat} {σ : L2.St} {H1 : Hp} {D : Addr} {Qd : Hp → Prop} (hD : H1 D = none) (hn : n ≤ 100000) (f : Nat → V)
    (hG : ∀ H, Same H1 H → G H)
    (hs : ∀ i x H H', i < n → Same H1 H → Y i H x H' → ∀ R : V → Hp → Prop, (∀ H4, Same H H4 → R (f i) H4) → g x (wipe σ vs) H' fun σ2 H2 => wipe σ2 vs = wipe σ vs ∧ te σ2 H2 R)
    (hd : ∀ H, Same H1 (hid D H) → H D = some (.lst ((List.range n).map f)) → Qd H) :
    ∃ W : Nat → Nat → Hp → Prop, (∃ m, W 0 m (upd H1 D (.lst []))) ∧ ∀ i m H, W i m H →
      (J.stop i H ∧ Qd H) ∨ (J.go i H ∧ ∃ Nx : Hp → Prop, (∀ H', Nx H' → ∃ m', m' < m ∧ W (i + 1) m' H') ∧ ∀ x H', J.yld i H x H' → g x (wipe σ vs) H' fun σ2 H2 => wipe σ2 vs = wipe σ vs ∧ tYes σ2 H2 fun b H3 =>
        if b = true then te σ2 H3 fun y H4 => ∃ acc, H4 D = some (.lst acc) ∧ acc.length < sizeLine ∧ Nx (upd H4 D (.lst (acc ++ [y]))) else Nx H3) :=
  lc_rel w hD hn (fun i v _ => v = f i) (fun _ _ _ _ _ h => h) hG (fun i x H H' hi s1 _ yx R k => hs i x H H' hi s1 yx R fun H4 e => k _ H4 e rfl) fun H ys s1 hy hl hp => by
    have e : ys = (List.range n).map f := by
      apply List.ext_getElem?
      intro j
      rw [List.getElem?_map]
      by_cases hj : j < n
      · rw [List.getElem?_range hj]
        rw [List.getElem?_eq_getElem (by omega)]
        exact congrArg some (hp j _ (List.getElem?_eq_getElem (by omega)))
      · rw [List.getElem?_eq_none (by omega), List.getElem?_eq_none (by rw [List.length_range]; omega)]
        rfl
    rw [e] at hy
    exact hd H s1 hy
/-! ### kinds -/
theorem kt_str_str {K : PySem.W.Frag} : PySem.W.kitOne K (.type "str") (.type "str") = some true := kit_ty (by decide +kernel)
theorem kt_str_int {K : PySem.W.Frag} : PySem.W.kitOne K (.type "str") (.type "int") = some false := kit_ty (by decide +kernel)
theorem kt_str_bool {K : PySem.W.Frag} : PySem.W.kitOne K (.type "str") (.type "bool") = some false := kit_ty (by decide +kernel)
theorem kt_NoneType_str {K : PySem.W.Frag} : PySem.W.kitOne K (.type "NoneType") (.type "str") = some false := kit_ty (by decide +kernel)
theorem kt_NoneType_int {K : PySem.W.Frag} : PySem.W.kitOne K (.type "NoneType") (.type "int") = some false := kit_ty (by decide +kernel)
theorem kt_NoneType_bool {K : PySem.W.Frag} : PySem.W.kitOne K (.type "NoneType") (.type "bool") = some false := kit_ty (by decide +kernel)
theorem kt_int_str {K : PySem.W.Frag} : PySem.W.kitOne K (.type "int") (.type "str") = some false := kit_ty (by decide +kernel)
theorem kt_int_int {K : PySem.W.Frag} : PySem.W.kitOne K (.type "int") (.type "int") = some true := kit_ty (by decide +kernel)
theorem kt_int_bool {K : PySem.W.Frag} : PySem.W.kitOne K (.type "int") (.type "bool") = some false := kit_ty (by decide +kernel)
theorem kt_bool_str {K : PySem.W.Frag} : PySem.W.kitOne K (.type "bool") (.type "str") = some false := kit_ty (by decide +kernel)
theorem kt_bool_int {K : PySem.W.Frag} : PySem.W.kitOne K (.type "bool") (.type "int") = some true := kit_ty (by decide +kernel)
theorem kt_bool_bool {K : PySem.W.Frag} : PySem.W.kitOne K (.type "bool") (.type "bool") = some true := kit_ty (by decide +kernel)
theorem kt_list_str {K : PySem.W.Frag} : PySem.W.kitOne K (.type "list") (.type "str") = some false := kit_ty (by decide +kernel)
theorem kt_list_int {K : PySem.W.Frag} : PySem.W.kitOne K (.type "list") (.type "int") = some false := kit_ty (by decide +kernel)
theorem kt_list_bool {K : PySem.W.Frag} : PySem.W.kitOne K (.type "list") (.type "bool") = some false := kit_ty (by decide +kernel)
theorem kt_tuple_str {K : PySem.W.Frag} : PySem.W.kitOne K (.type "tuple") (.type "str") = some false := kit_ty (by decide +kernel)
theorem kt_tuple_int {K : PySem.W.Frag} : PySem.W.kitOne K (.type "tuple") (.type "int") = some false := kit_ty (by decide +kernel)
theorem kt_tuple_bool {K : PySem.W.Frag} : PySem.W.kitOne K (.type "tuple") (.type "bool") = some false := kit_ty (by decide +kernel)
theorem kr_str {K : PySem.W.Frag} : PySem.W.kitAny K (.type "str") [.type "list", .type "tuple"] = some false := by
  have h1 : PySem.W.kitOne K (.type "str") (.type "list") = some false := kit_ty (by decide +kernel)
  have h2 : PySem.W.kitOne K (.type "str") (.type "tuple") = some false := kit_ty (by decide +kernel)
  exact kitAny_cons h1 (fun _ => kitAny_cons h2 (fun _ => kitAny_nil) (fun h => nomatch h)) (fun h => nomatch h)
theorem kr_NoneType {K : PySem.W.Frag} : PySem.W.kitAny K (.type "NoneType") [.type "list", .type "tuple"] = some false := by
  have h1 : PySem.W.kitOne K (.type "NoneType") (.type "list") = some false := kit_ty (by decide +kernel)
  have h2 : PySem.W.kitOne K (.type "NoneType") (.type "tuple") = some false := kit_ty (by decide +kernel)
  exact kitAny_cons h1 (fun _ => kitAny_cons h2 (fun _ => kitAny_nil) (fun h => nomatch h)) (fun h => nomatch h)
theorem kr_int {K : PySem.W.Frag} : PySem.W.kitAny K (.type "int") [.type "list", .type "tuple"] = some false := by
  have h1 : PySem.W.kitOne K (.type "int") (.type "list") = some false := kit_ty (by decide +kernel)
  have h2 : PySem.W.kitOne K (.type "int") (.type "tuple") = some false := kit_ty (by decide +kernel)
  exact kitAny_cons h1 (fun _ => kitAny_cons h2 (fun _ => kitAny_nil) (fun h => nomatch h)) (fun h => nomatch h)
theorem kr_bool {K : PySem.W.Frag} : PySem.W.kitAny K (.type "bool") [.type "list", .type "tuple"] = some false := by
  have h1 : PySem.W.kitOne K (.type "bool") (.type "list") = some false := kit_ty (by decide +kernel)
  have h2 : PySem.W.kitOne K (.type "bool") (.type "tuple") = some false := kit_ty (by decide +kernel)
  exact kitAny_cons h1 (fun _ => kitAny_cons h2 (fun _ => kitAny_nil) (fun h => nomatch h)) (fun h => nomatch h)
theorem kr_list {K : PySem.W.Frag} : PySem.W.kitAny K (.type "list") [.type "list", .type "tuple"] = some true := by
  have h1 : PySem.W.kitOne K (.type "list") (.type "list") = some true := kit_ty (by decide +kernel)
  have h2 : PySem.W.kitOne K (.type "list") (.type "tuple") = some false := kit_ty (by decide +kernel)
  exact kitAny_cons h1 (fun h => nomatch h) (fun _ => rfl)
theorem kr_tuple {K : PySem.W.Frag} : PySem.W.kitAny K (.type "tuple") [.type "list", .type "tuple"] = some true := by
  have h1 : PySem.W.kitOne K (.type "tuple") (.type "list") = some false := kit_ty (by decide +kernel)
  have h2 : PySem.W.kitOne K (.type "tuple") (.type "tuple") = some true := kit_ty (by decide +kernel)
  exact kitAny_cons h1 (fun _ => kitAny_cons h2 (fun h => nomatch h) (fun _ => rfl)) (fun h => nomatch h)
/-- the kind of data, by its name -/
def pyTy : PyData → String
  | .none => "NoneType" | .bool _ => "bool" | .int _ => "int" | .str _ => "str" | .list _ => "list" | .tuple _ => "tuple" | .dict _ => "dict"
theorem tyx_l {K : PySem.W.Frag} {H : Hp} {a : Addr} {xs : List V} (h : SqL K H a xs) : TyX K H (.ref a) (.type "list") := by
  rcases h with (h | ⟨o, h⟩) | ⟨o, its, n, h1, h2, _⟩
  · exact .base (.lst h)
  · exact .base (.frz h)
  · exact .kList h1 h2
theorem tyx_t {K : PySem.W.Frag} {H : Hp} {a : Addr} {xs : List V} (h : SqT K H a xs) : TyX K H (.ref a) (.type "tuple") := by
  rcases h with (h | ⟨o, h⟩) | ⟨o, its, n, h1, h2, _⟩
  · exact .base (.tup h)
  · exact .fTuple h
  · exact .kTuple h1 h2
theorem tyx_of {K : PySem.W.Frag} {H : Hp} {v : V} {d : PyData} (h : Dp K H v d) : TyX K H v (.type (pyTy d)) := by
  cases h with
  | non => exact .base .non
  | bl b => exact .base (.bl b)
  | int i => exact .base (.int i)
  | str x => exact .base (.str x)
  | lst a b => exact tyx_l a
  | tup a b => exact tyx_t a
def isStr : PyData → Bool
  | .str _ => true
  | _ => false
def isRow : PyData → Bool
  | .list _ => true | .tuple _ => true
  | _ => false
theorem kt_str {K : PySem.W.Frag} {H : Hp} {v : V} {d : PyData} (h : Dp K H v d) : PySem.W.kitOne K (.type (pyTy d)) (.type "str") = some (isStr d) := by
  cases h with
  | non => exact kt_NoneType_str
  | bl b => exact kt_bool_str
  | int i => exact kt_int_str
  | str x => exact kt_str_str
  | lst a b => exact kt_list_str
  | tup a b => exact kt_tuple_str
theorem kr_row {K : PySem.W.Frag} {H : Hp} {v : V} {d : PyData} (h : Dp K H v d) : PySem.W.kitAny K (.type (pyTy d)) [.type "list", .type "tuple"] = some (isRow d) := by
  cases h with
  | non => exact kr_NoneType
  | bl b => exact kr_bool
  | int i => exact kr_int
  | str x => exact kr_str
  | lst a b => exact kr_list
  | tup a b => exact kr_tuple
section
variable {K : PySem.W.Frag} {H H' : Hp} {D : Addr}
theorem tups_hid {ys : List V} (h : H D = some (.lst ys)) : Same (tups H) (tups (hid D H)) := fun b u q => by
  obtain ⟨xs, e, hb⟩ := tups_inv q
  rw [e]
  refine tups_some ?_
  rw [hid_ne (fun z => by rw [z, h] at hb; cases hb)]
  exact hb
theorem dpAll_ix : ∀ {vs : List V} {ds : List PyData}, vs.length = ds.length → (∀ (i : Nat) (v : V) (d : PyData), vs[i]? = some v → ds[i]? = some d → Dp K H v d) → DpAll K H vs ds
  | [], [], _, _ => .nil
  | [], _ :: _, h, _ => by cases h
  | _ :: _, [], h, _ => by cases h
  | v :: vs, d :: ds, h, k => .cons (k 0 v d rfl rfl) (dpAll_ix (by simpa using h) fun i v' d' h1 h2 => k (i + 1) v' d' (by simpa using h1) (by simpa using h2))
theorem dpAll_at {vs : List V} {ds : List PyData} {i : Nat} {v : V} {d : PyData} (h : DpAll K H vs ds) (h1 : vs[i]? = some v) (h2 : ds[i]? = some d) : Dp K H v d := by
  obtain ⟨d', e, q⟩ := dpa_get h h1
  rw [h2] at e
  cases e
  exact q
end
end K21
set_option Elab.async false
set_option linter.all false
set_option maxRecDepth 100000
set_option maxHeartbeats 4000000
namespace K21
open PySem PySem.Spec PyProof.Rows L2
/-! ### rules of my own: a walk over a list or a tuple; enumerate over a tuple, over a dict -/
section
variable {X : Cx} {tg : Expr}
def iSeq (K : PySem.W.Frag) (tl : TE) : TI := fun σ H R => tl σ H fun x H1 => ∃ a, x = .ref a ∧ (((∃ xs, SqL K H1 a xs) ∧ R (Itl K a) H1) ∨ ((∃ xs, SqT K H1 a xs) ∧ R (Itt K a) H1))
theorem fp_one {pins : List (Addr × Obj)} {σ : L2.St} {H : Hp} {s : Shared} (I : Inv X pins σ H s) : ∀ b ∈ [s.heap.objs.size], FpOk X pins H b := fun b hb => by
  obtain rfl : b = s.heap.objs.size := by simpa using hb
  exact I.fpOk (Nat.le_refl _) (I.hok.fresh (Nat.le_refl _))
theorem pi_seq {l : Expr} {tl : TE} (hl : PE X l tl) : PI X tg l (iSeq X.K tl) := by
  refine ⟨fun pins s σ H R I h => ?_⟩
  refine thn (hl.run pins s σ H _ I h) fun v s1 ⟨x, H1, I1, r1, q1⟩ => ?_
  obtain ⟨a, rfl, q1⟩ := q1
  cases r1
  rcases q1 with ⟨⟨xs, hq⟩, q⟩ | ⟨⟨xs, hq⟩, q⟩
  · obtain ⟨its, rv, p, hz⟩ := I1.list hq
    exact wpAny_pyIter_list p.isList ⟨_, [s1.heap.objs.size], _, _, H1, rfl, I1.kept (t' := s1.toks) fun b o e => Heap.get?_push_of_some _ e, turn_list a _, ⟨_, Heap.get?_push_size _ rfl, rfl, rfl⟩, fp_one I1, q⟩
  · obtain ⟨its, rv, p, hz⟩ := I1.tuple hq
    exact wpAny_pyIter_tuple (show s1.heap.IsTuple a its.toArray from p) ⟨_, [s1.heap.objs.size], _, _, H1, rfl, I1.kept (t' := s1.toks) fun b o e => Heap.get?_push_of_some _ e, turn_tuple a _, ⟨_, Heap.get?_push_size _ rfl, rfl, rfl⟩, fp_one I1, q⟩
end
/-- the pairs of an enumerate, by what each turn's item is -/
def ItE (g : Nat → Hp → Prop) (f : Nat → Hp → V → Prop) (z : Nat → Hp → Prop) : It :=
  ⟨g, fun i H v H' => ∃ T x, v = .ref T ∧ H T = none ∧ H' = upd H T (.tup [.int (i : Nat), x]) ∧ f i H x, z⟩
theorem turn_enumD {P : Program} {w : World} {K : PySem.W.Frag} {elts : List Expr} {kk : Nat} {tpos : Pos} {g : Nat → Hp → Prop} {f : Nat → Hp → V → Prop} {z : Nat → Hp → Prop} {tn : Nat → Heap → Prop} (e it : Addr) (hne : e ≠ it)
    (obj : ∀ i h, tn i h → ∃ o, h.get? it = some o ∧ ∀ v, o.data ≠ .cell v) (keep : ∀ i h h', tn i h → (∀ o, h.get? it = some o → h'.get? it = some o) → tn i h')
    (dr : ∀ (X : Cx), X.prog = P → X.w = w → X.K = K → X.calm = true → ∀ (i : Nat) (pins : List (Addr × Obj)) (s : Shared) (σ : L2.St) (H : Hp), Inv X pins σ H s → (∀ b ∈ [e, it], FpOk X pins H b) → tn i s.heap → (g i H ∨ z i H) →
      ∃ (d : Addr) (n : Nat) (Pd : Nat → Value → Prop) (Sd : Nat → Heap → Prop), Draws P w X.A.in1 it [it, d] n Pd Sd ∧ (∃ o, s.heap.get? d = some o ∧ ∀ fs, o.data ≠ .fields fs) ∧ Sd i s.heap ∧ (∀ h, Sd (i + 1) h → tn (i + 1) h) ∧ (g i H → i < n ∧ ∀ v, Pd i v → ∃ x, RelV x v ∧ f i H x) ∧ (z i H → i = n)) :
    Turn P w K (.Tuple elts kk tpos) (ItE g f z) [e, it] e (fun i h => (∃ old, IsEnum h e it ((i : Nat) : Int) old) ∧ tn i h) where
  mem := by simp
  obj := fun i h st b hb => by
    obtain ⟨⟨old, he⟩, ht⟩ := st
    have e' : b = e ∨ b = it := by simpa using hb
    rcases e' with y | y
    · rw [y]; exact ⟨_, he, fun v q => nomatch q⟩
    · rw [y]; exact obj i h ht
  keep := fun i h h' st k => let ⟨⟨old, he⟩, ht⟩ := st; ⟨⟨old, k e (by simp) _ he⟩, keep i h h' ht fun o q => k it (by simp) o q⟩
  item := by
    intro X hP hw hK hc i pins s σ H E I hf st hg
    obtain ⟨⟨old, he⟩, ht⟩ := st
    obtain ⟨d, n, Pd, Sd, D, hd, s0, s1, k1, _⟩ := dr X hP hw hK hc i pins s σ H I hf ht (.inl hg)
    obtain ⟨hlt, hv⟩ := k1 hg
    subst hP hw hK
    obtain ⟨oi, hoi, _⟩ := obj i _ ht
    have hel : e < s.heap.objs.size := Heap.lt_size he
    have hil : it < s.heap.objs.size := Heap.lt_size hoi
    have hed : e ≠ d := fun q => by
      obtain ⟨o, ho, hn⟩ := hd
      rw [← q] at ho
      have z := Option.some.inj (Eq.trans (Eq.symm he) ho)
      exact hn _ (by rw [← z])
    refine wpAny_pyNext_enum_itemD D he s0 hlt hne (by simp [hne, hed]) fun v h' tk hPv ho hs' hT hsz hk => ?_
    obtain ⟨x, rx, fx⟩ := hv v hPv
    refine ⟨_, rfl, wpAny_letOwnedTupleGo_enum (s := { s with heap := h', toks := tk + 1 }) ho fun h'' he' sb => ?_⟩
    have hT2 : h''.get? s.heap.objs.size = some { cls := .type "tuple", data := .seq #[.int i tk, v] } := (sb.2 _ (Nat.ne_of_gt hel)).trans hT
    have new : ObjOk X.prog X.w (upd H s.heap.objs.size (.tup [.int (i : Nat), x])) h'' s.heap.objs.size (.tup [.int (i : Nat), x]) :=
      ⟨by show 2 ≤ sizeLine; decide, [.int i tk, v], .cons ⟨_, rfl⟩ (.cons rx .nil), ⟨_, hT2, rfl, _, rfl⟩⟩
    have I1 : Inv X pins σ (upd H s.heap.objs.size (.tup [.int (i : Nat), x])) { s with heap := h'', toks := tk + 1 } :=
      I.turnedNew (ch := [e, it]) (fun b ob hb q => (sb.2 b (fun y => hb (by simp [y]))).trans (hk b ob (fun y => hb (by simp [y])) (fun y => hb (by simp [y])) q)) hf (Nat.le_refl _) new
    have ht' : tn (i + 1) h'' := keep _ _ _ (s1 h' hs') fun o q => (sb.2 it (Ne.symm hne)).trans q
    refine ⟨.ref s.heap.objs.size, _, I1, rfl, ⟨_, x, rfl, I.hok.fresh (Nat.le_refl _), rfl, fx⟩, ⟨⟨v, ?_⟩, ht'⟩, fun b hb => ?_⟩
    · rw [show ((i + 1 : Nat) : Int) = (i : Int) + 1 by omega]
      exact he'
    · have hb' : b < s.heap.objs.size := by
        have e' : b = e ∨ b = it := by simpa using hb
        rcases e' with y | y
        · rw [y]; exact hel
        · rw [y]; exact hil
      rw [upd_ne (Nat.ne_of_lt hb')]
      exact (hf b hb).1
  done := by
    intro X hP hw hK hc i pins s σ H E I hf st hg
    obtain ⟨⟨old, he⟩, ht⟩ := st
    obtain ⟨d, n, Pd, Sd, D, hd, s0, s1, _, k1⟩ := dr X hP hw hK hc i pins s σ H I hf ht (.inr hg)
    have en := k1 hg
    subst hP hw hK
    obtain ⟨f0, f1, f2, f3, f4, f5⟩ := hf it (by simp)
    exact wpAny_pyNext_enum_endD D he (by rw [← en]; exact s0) fun h' eb => ⟨rfl, I.turned (t' := s.toks) (fun b o hb q => eb b o hb q) f0 f1 f3 f4 f5⟩
  self := fun A i s Q E st h => let ⟨⟨_, he⟩, _⟩ := st; wpAny_pyIter_enum he h
/-- enumerate of a tuple -/
def IteT (K : PySem.W.Frag) (a : Addr) : It := ItE (fun i H => ∃ xs x, SqT K H a xs ∧ xs[i]? = some x) (fun i H x => ∀ xs, SqT K H a xs → xs[i]? = some x) (fun i H => ∃ xs, SqT K H a xs ∧ xs.length = i)
theorem turn_enumT {P : Program} {w : World} {K : PySem.W.Frag} {elts : List Expr} {kk : Nat} {tpos : Pos} (a e it : Addr) (hne : e ≠ it) :
    Turn P w K (.Tuple elts kk tpos) (IteT K a) [e, it] e (fun i h => (∃ old, IsEnum h e it ((i : Nat) : Int) old) ∧ h.IsTupleIter it a i) := by
  refine turn_enumD e it hne (fun i h st => ?_) (fun i h h' st k => st.at fun o q => k o q) fun X hP hw hK hc i pins s σ H I hf st hg => ?_
  · obtain ⟨o, ho, hc, hd⟩ := st
    exact ⟨o, ho, fun v q => by rw [hd] at q; cases q⟩
  · subst hP hw hK
    obtain ⟨xs, ha⟩ : ∃ xs, SqT X.K H a xs := by
      rcases hg with ⟨xs, x, h, _⟩ | ⟨xs, h, _⟩ <;> exact ⟨xs, h⟩
    obtain ⟨its, rv, p, hz⟩ := I.tuple ha
    have p' : s.heap.IsTuple a its.toArray := p
    obtain ⟨op, hp1, hp2, np, hp3⟩ := id p'
    have hai : a ≠ it := fun q => by
      obtain ⟨o, ho, hc', hd⟩ := id st
      rw [q] at hp1
      have z := Option.some.inj (hp1.symm.trans ho)
      rw [z, hd] at hp3
      cases hp3
    have D := Draws.tuple (prog := X.prog) (w := X.w) (A := X.A.in1) (I.ok.hd hc) it a hai its.toArray
    refine ⟨a, _, _, _, D, ⟨op, hp1, fun fs q => by rw [hp3] at q; cases q⟩, ⟨st, p⟩, fun h q => q.1, fun ⟨ys, x, hy, hx⟩ => ?_, fun ⟨ys, hy, hl⟩ => ?_⟩
    · cases I.tuple_inj ha hy
      have hi : i < xs.length := (List.getElem?_eq_some_iff.mp hx).1
      refine ⟨by simp [← rv.length, hi], fun v hv => ?_⟩
      obtain ⟨u, hu, ru⟩ := rv.get hx
      have e1 : its.toArray[i]? = some u := by simpa using hu
      rw [e1] at hv
      cases hv
      exact ⟨x, ru, fun zs hz => by rw [I.tuple_inj hz ha]; exact hx⟩
    · cases I.tuple_inj ha hy
      simp [← rv.length, hl]
/-- what enumerate makes of a value whose iterator is told -/
theorem call_enumB {prog : Program} {w : World} {A : Around} {E : Value → Shared → Prop} {s : Shared} {v : Value} {o : Obj} {H : Heap → Prop} {Q : Value → Shared → Prop} (B : Begins v o H) (h1 : H s.heap)
    (h : ∀ h', IsEnum h' (s.heap.objs.size + 1) s.heap.objs.size 0 .none → h'.get? s.heap.objs.size = some o → h'.objs.size = s.heap.objs.size + 2 →
      (∀ b o, s.heap.get? b = some o → h'.get? b = some o) → Q (.ref (s.heap.objs.size + 1)) { s with heap := h' }) :
    wpAny (model prog w) A (call (.type "enumerate") [v]) Q E s := by
  have me : Meets (Builtin.«enumerate.__new__» ⟨[.type "enumerate", v], []⟩) (fun _ R s => H s.heap ∧
      R (.ok (.ret (.ref (s.heap.push o).objs.size))) { s with heap := (s.heap.push o).push { cls := .type "enumerate", data := .fields #[.none, .bool false, .ref s.heap.objs.size, rawInt 0, .none, .none] } }) :=
    .of_wp fun prog w A R s h => by
      obtain ⟨hp, g, d, tk, os⟩ := s; obtain ⟨h1, h⟩ := h
      have hsub := sub_enumerate
      have q1 : ∀ {A' : Around} {E : Value → Shared → Prop} {Q : Value → Shared → Prop}, Q (.ref hp.objs.size) ⟨hp.push o, g, d, tk, os⟩ → wpAny (model prog w) A' (pyIter v) Q E ⟨hp, g, d, tk, os⟩ :=
        fun q => B.iter prog w _ _ ⟨hp, g, d, tk, os⟩ _ h1 q
      wp_walk using q1
      refine wpAny_stack_any fun st => wpAny_pure ?_
      split
      · rename_i c _ _ _ _ _
        cases (c == Value.type "enumerate") <;> (wp_walk using q1; exact ⟨_, rfl, h⟩)
      · wp_walk using q1
        exact ⟨_, rfl, h⟩
  refine callType_new F.called_enumerate (by decide) (F.typeCall_enumerate_1 _) (F.newCall_enumerate_1 _) (fun obj => F.args_object_init_2 obj _) F.entry_enumerate_new me ⟨h1, ?_⟩
  have hz : (s.heap.push o).objs.size = s.heap.objs.size + 1 := Heap.size_push ..
  show _ ∧ _
  rw [hz]
  have he : IsEnum ((s.heap.push o).push { cls := .type "enumerate", data := .fields #[.none, .bool false, .ref s.heap.objs.size, rawInt 0, .none, .none] }) (s.heap.objs.size + 1) s.heap.objs.size 0 .none := by
    have q := Heap.get?_push_size (s.heap.push o) (o := { cls := .type "enumerate", data := .fields #[.none, .bool false, .ref s.heap.objs.size, rawInt 0, .none, .none] }) rfl
    rw [hz] at q; exact q
  exact ⟨⟨_, he, rfl⟩, h _ he (Heap.get?_push_of_some _ (Heap.get?_push_size _ B.free)) (by rw [Heap.size_push, hz]) fun b o x => Heap.get?_push_of_some _ (Heap.get?_push_of_some _ x)⟩
def iEnumQ (K : PySem.W.Frag) (ta : TA) : TI := fun σ H R => ta σ H fun vs H1 => ∃ a, vs = [.ref a] ∧ (((∃ xs, SqL K H1 a xs) ∧ R (Ite K a) H1) ∨ ((∃ xs, SqT K H1 a xs) ∧ R (IteT K a) H1))
theorem pi_enumQ {X : Cx} {e : Expr} {ta : TA} {p pos tpos : Pos} {elts : List Expr} {kk : Nat} (hg : Gl X "enumerate") (hm : X.mg "enumerate" = none) (ha : PA X [e] ta) (hs : starEach [e] X.env = [(false, eval e X.env)] := by rfl) :
    PI X (.Tuple elts kk tpos) (.Call (.Name "enumerate" p) [e] [] pos) (iEnumQ X.K ta) := by
  refine ⟨fun pins s σ H R I h => ?_⟩
  refine Call_ (ld_blt I hg hm boot_enumerate (PyProof.Rows.callWith_type1 (thn (ha.run pos pins s σ H _ I h) fun us s1 ⟨vs, H1, I1, r1, q1⟩ => ?_) hs rfl))
  obtain ⟨a, rfl, q1⟩ := q1
  obtain ⟨u, rfl, ru⟩ := vals1 r1
  cases ru
  have fpk : ∀ b ∈ [s1.heap.objs.size + 1, s1.heap.objs.size], FpOk X pins H1 b := fun b hb => by
    have hle : s1.heap.objs.size ≤ b := by
      have e' : b = s1.heap.objs.size + 1 ∨ b = s1.heap.objs.size := by simpa using hb
      rcases e' with z | z
      · rw [z]; exact Nat.le_add_right _ _
      · rw [z]; exact Nat.le_refl _
    exact I1.fpOk hle (I1.hok.fresh hle)
  rcases q1 with ⟨⟨xs, hq⟩, q⟩ | ⟨⟨xs, hq⟩, q⟩
  · obtain ⟨its, rv, p', hz⟩ := I1.list hq
    refine call_enumerate_list p'.isList fun h' he hit hsz hk => wpAny_pyIter_enum he ?_
    exact ⟨s1.heap.objs.size + 1, _, _, _, H1, rfl, I1.kept (t' := s1.toks) hk, turn_enum a (s1.heap.objs.size + 1) s1.heap.objs.size, ⟨⟨.none, he⟩, hit, Nat.succ_ne_self _⟩, fpk, q⟩
  · obtain ⟨its, rv, p', hz⟩ := I1.tuple hq
    refine call_enumB (begins_tuple a its.toArray) (show s1.heap.IsTuple a its.toArray from p') fun h' he hit hsz hk => wpAny_pyIter_enum he ?_
    exact ⟨s1.heap.objs.size + 1, _, _, _, H1, rfl, I1.kept (t' := s1.toks) hk, turn_enumT a (s1.heap.objs.size + 1) s1.heap.objs.size (Nat.succ_ne_self _), ⟨⟨.none, he⟩, ⟨_, hit, rfl, rfl⟩⟩, fpk, q⟩
theorem walk_enumT {K : PySem.W.Frag} {a : Addr} {xs : List V} : Walk (IteT K a) xs.length (fun H => SqT K H a xs) (YPair (fun i => some (.int (i : Nat))) (fun i => xs[i]?)) := by
  refine ⟨fun i _ hi q => ⟨xs, xs[i], q, by simp [hi]⟩, fun _ q => ⟨xs, q, rfl⟩, fun i H v H' _ q y => ?_⟩
  obtain ⟨T, x, h1, h2, h3, h4⟩ := y
  exact ⟨T, .int (i : Nat), x, h1, h2, h3, rfl, h4 xs q⟩
end K21
set_option Elab.async false
set_option linter.all false
set_option maxRecDepth 100000
set_option maxHeartbeats 1000000
namespace K21
open PySem PySem.Spec PyProof.Rows L2
/-! ### enumerate over a dict's keys -/
theorem nextOf_keyEnd {prog : Program} {w : World} {A : Around} {E : Value → Shared → Prop} {s : Shared} {it d : Addr} {i n ep : Nat} {od : Obj} {es : Array DictEntry} {Q : Value → Shared → Prop} (hh : A.handled = none) (hit : s.heap.IsKeyIter it d i n ep) (hod : s.heap.get? d = some od) (hdd : od.data = .dict es ep)
    (hsz : es.size = n) (hge : n ≤ i) (hE : ∀ h' e, Heap.ExtBut it s.heap h' → (∃ o, h'.get? e = some o ∧ o.cls = .type "StopIteration") → E (.ref e) { s with heap := h' }) :
    wpAny (model prog w) A (Builtin.SmallTypes.nextOf (.ref it)) Q E s := by
  obtain ⟨o, ho, hc, hd⟩ := id hit
  unfold Builtin.SmallTypes.nextOf
  refine wpAny_bind (wpAny_callSpecial?_slot (name := Str.ofString "__next__") hit.typeIs F.slot_dict_keyiterator_next (wpAny_call_entry F.slot_dict_keyiterator_next hit.typeIs F.entry_dict_keyiterator_next ?_ (F.args_dict_keyiterator_next_1 _)))
  refine wpAny_bind (wpAny_pure ?_); refine wpAny_bind ?_; refine wpAny_bind ?_
  first | refine wpAny_bind (wpAny_typeNameOfWhole_keyiter hit.typeIs (wpAny_pure ?_)) | refine wpAny_bind (wpAny_typeNameOf_keyiter hit.typeIs (wpAny_pure ?_))
  refine wpAny_bind (wpAny_fieldsOf ho hd ?_); simp only [show Builtin.Dict_items.ownsTuple "dict_keyiterator" = false from by decide, Bool.false_eq_true, if_false]
  show wpAny _ _ (if (Value.ref d == Value.none) = true then _ else _) _ _ s; rw [if_neg (show ¬ ((Value.ref d == Value.none) = true) from Bool.false_ne_true)]
  refine wpAny_bind (wpAny_pure ?_); refine wpAny_bind (wpAny_dictEntries hod hdd ?_); rw [if_neg (by rw [hsz]; simp)]
  refine wpAny_bind (wpAny_pure ?_); refine wpAny_bind (wpAny_dictEpoch hod hdd ?_); rw [if_neg (by simp)]; refine wpAny_pure ?_
  have hge' : es.size ≤ i := by rw [hsz]; exact hge
  simp only [show ¬ ((i : Int) < 0) from by omega, if_false, Int.toNat_natCast, Array.getElem?_eq_none hge']; refine wpAny_bind ?_
  first | refine wpAny_bind (wpAny_typeNameOfWhole_keyiter hit.typeIs (wpAny_pure ?_)) | refine wpAny_bind (wpAny_typeNameOf_keyiter hit.typeIs (wpAny_pure ?_))
  show wpAny _ _ (setField (.ref it) 0 .none >>= _) _ _ s; refine wpAny_bind (wpAny_setField ho hd (by simp) ?_)
  show wpAny _ _ (newExc (.type "StopIteration") [] >>= _) _ _ _; refine wpAny_bind ?_; simp only [newExc, newTuple]
  refine wpAny_bind (wpAny_newObj_type ?_ (by size_fits)); refine wpAny_bind (m := firstArgMember _ _) (wpAny_of_eq (a := Value.none) (by first | rfl | (simp only [firstArgMember]; rfl)) ?_)
  refine wpAny_newObj_type ?_ (by size_fits); simp only [raiseNew]; refine wpAny_bind (wpAny_handled ?_)
  first | rw [show A.in1.handled = none from hh] | rw [hh]
  refine wpAny_bind (wpAny_pure (wpAny_throw ?_))
  exact hE _ _ (((Heap.SameBut.update ..).extBut.push _).push _) ⟨_, Heap.get?_push_size _ rfl, rfl⟩
theorem draws_keys {prog : Program} {w : World} {A : Around} (hh : A.handled = none) (it d : Addr) (hne : d ≠ it) (kvs : List (Key × Value)) (ep : Nat) :
    Draws prog w A it [it, d] kvs.length (fun i v => ∃ k x, kvs[i]? = some (k, x) ∧ (mixKind prog w).is k v = true) (fun i h => h.IsKeyIter it d i kvs.length ep ∧ h.DictAt (mixKind prog w) d kvs ep) where
  live := fun _ _ st => let ⟨o, ho, _⟩ := st.1; ⟨o, ho⟩
  frame := fun _ _ _ st hk => ⟨st.1.at fun o e => hk it (by simp) o e, let ⟨o, es, ho, r⟩ := st.2; ⟨o, es, hk d (by simp) o ho, r⟩⟩
  item := fun i s Q E hi st hQ => by
    unfold Builtin.SmallTypes.nextOf
    refine wpAny_bind (PySem.W.kdk_special (k := kvs[i].1) (x := kvs[i].2) st.1 st.2 (List.getElem?_eq_getElem hi) fun key h' hkey hit' hs => ?_)
    exact wpAny_pure (hQ key h' s.toks ⟨_, _, List.getElem?_eq_getElem hi, hkey⟩ ⟨hit', st.2.extBut hs.extBut hne⟩ hs)
  done := fun s Q E st hE => by
    obtain ⟨od, es, hod, hcd, hdd, hk, hp, hn⟩ := id st.2
    exact nextOf_keyEnd hh st.1 hod hdd (by rw [← hp.length]; simp) (Nat.le_refl _) hE
/-- the exact dict at d, of n entries -/
def ExD (d : Addr) (n ep : Nat) (h : Heap) : Prop := ∃ o es, h.get? d = some o ∧ o.ExactDict ∧ o.data = .dict es ep ∧ es.size = n
theorem begins_keys (d : Addr) (hd : (d == sysModules) = false) (n ep : Nat) : Begins (.ref d) { cls := .type "dict_keyiterator", data := .fields #[.ref d, .int 0 0, .int n 0, .int ep 0] } (ExD d n ep) where
  iter := fun prog w A E s Q hm hQ => by
    obtain ⟨o, es, ho, hc, hdat, hsz⟩ := hm
    have hT : s.TypeIs (.ref d) "dict" := ⟨o, ho, hc.1⟩
    refine wpAny_pyIter_slot hT F.slot_dict_iter (wpAny_call_entry F.slot_dict_iter hT F.entry_dict_iter ?_ (F.args_dict_iter_1 _)); unfold Builtin.«dict.__iter__»
    refine wpAny_bind ?_; unfold Builtin.Dict.dictSlotNone; refine wpAny_bind (wpAny_notOrdered_dict hT ?_); show wpAny _ _ (pure (Value.ref d)) _ _ s
    refine wpAny_pure ?_; show wpAny _ _ (Builtin.Dict.showsAll d >>= _) _ _ s; unfold Builtin.Dict.showsAll; rw [if_neg (by rw [hd]; exact Bool.false_ne_true)]
    refine wpAny_bind (wpAny_pure ?_); refine wpAny_bind (wpAny_dictEntries ho hdat ?_); refine wpAny_bind (wpAny_dictEpoch ho hdat ?_)
    refine wpAny_bind (wpAny_newObj_type (wpAny_pure ⟨_, rfl, "dict_keyiterator", _, ⟨_, Heap.get?_push_size _ rfl, rfl⟩, F.slot_dict_keyiterator_next.lookup, ?_⟩)); simpa [rawInt, hsz] using hQ
  keeps := fun h h' x hk => let ⟨o, es, ho, r⟩ := x; ⟨o, es, hk d o ho, r⟩
  free := rfl
/-- enumerate of a locked dict -/
def IteK (d : Addr) (od : Obj) (kvs : List (Key × V)) : It := ItE (fun i H => H d = some (.frz od (.dK kvs)) ∧ i < kvs.length) (fun i H x => ∃ k v, kvs[i]? = some (k, v) ∧ x = kV k) (fun i H => H d = some (.frz od (.dK kvs)) ∧ kvs.length = i)
theorem turn_enumK {P : Program} {w : World} {K : PySem.W.Frag} {elts : List Expr} {kk : Nat} {tpos : Pos} {od : Obj} {es : Array DictEntry} {ep : Nat} (d e it : Addr) (hne : e ≠ it) (kvs : List (Key × V)) (hod : od.data = .dict es ep) :
    Turn P w K (.Tuple elts kk tpos) (IteK d od kvs) [e, it] e (fun i h => (∃ old, IsEnum h e it ((i : Nat) : Int) old) ∧ h.IsKeyIter it d i kvs.length ep) := by
  refine turn_enumD e it hne (fun i h st => ?_) (fun i h h' st k => st.at fun o q => k o q) fun X hP hw hK hc i pins s σ H I hf st hg => ?_
  · obtain ⟨o, ho, hc, hd⟩ := st
    exact ⟨o, ho, fun v q => by rw [hd] at q; cases q⟩
  · subst hP hw hK
    have ha : H d = some (.frz od (.dK kvs)) := by
      rcases hg with ⟨h, _⟩ | ⟨h, _⟩ <;> exact h
    obtain ⟨hs, hgd, hx, es', ep', vs, hdt, hsz, kv, hm⟩ := I.frzK ha
    obtain ⟨rfl, rfl⟩ := dict_ep hod hdt
    have hl : kvs.length = vs.length := Paired.length kv
    rw [hl] at st
    have hdi : d ≠ it := fun q => by
      obtain ⟨o, ho, hc', hd⟩ := id st
      rw [q] at hgd
      have z := Option.some.inj (hgd.symm.trans ho)
      rw [z, hd] at hdt
      cases hdt
    have D := draws_keys (prog := X.prog) (w := X.w) (A := X.A.in1) (I.ok.hd hc) it d hdi vs ep'
    refine ⟨d, _, _, _, D, ⟨od, hgd, fun fs q => by rw [hdt] at q; cases q⟩, ⟨st, hm⟩, fun h q => by rw [hl]; exact q.1, fun ⟨_, hi⟩ => ⟨by omega, fun v ⟨k, x, hkx, his⟩ => ?_⟩, fun ⟨_, hi⟩ => by omega⟩
    obtain ⟨⟨k2, v'⟩, hkv⟩ : ∃ p, kvs[i]? = some p := ⟨kvs[i], List.getElem?_eq_getElem hi⟩
    obtain ⟨u, hu, ru⟩ := kv_get kv hkv
    rw [hkx] at hu
    obtain ⟨rfl, rfl⟩ := Prod.mk.inj (Option.some.inj hu)
    exact ⟨kV k, relV_key (show keyIs k v = true from his), k, v', hkv, rfl⟩
def iEnumK (ta : TA) : TI := fun σ H R => ta σ H fun vs H1 => ∃ d od kvs, vs = [.ref d] ∧ H1 d = some (.frz od (.dK kvs)) ∧ R (IteK d od kvs) H1
theorem pi_enumK {X : Cx} {e : Expr} {ta : TA} {p pos tpos : Pos} {elts : List Expr} {kk : Nat} (hg : Gl X "enumerate") (hm : X.mg "enumerate" = none) (ha : PA X [e] ta) (hs : starEach [e] X.env = [(false, eval e X.env)] := by rfl) :
    PI X (.Tuple elts kk tpos) (.Call (.Name "enumerate" p) [e] [] pos) (iEnumK ta) := by
  refine ⟨fun pins s σ H R I h => ?_⟩
  refine Call_ (ld_blt I hg hm boot_enumerate (PyProof.Rows.callWith_type1 (thn (ha.run pos pins s σ H _ I h) fun us s1 ⟨vs, H1, I1, r1, q1⟩ => ?_) hs rfl))
  obtain ⟨d, od, kvs, rfl, hq, q⟩ := q1
  obtain ⟨u, rfl, ru⟩ := vals1 r1
  cases ru
  have fpk : ∀ b ∈ [s1.heap.objs.size + 1, s1.heap.objs.size], FpOk X pins H1 b := fun b hb => by
    have hle : s1.heap.objs.size ≤ b := by
      have e' : b = s1.heap.objs.size + 1 ∨ b = s1.heap.objs.size := by simpa using hb
      rcases e' with z | z
      · rw [z]; exact Nat.le_add_right _ _
      · rw [z]; exact Nat.le_refl _
    exact I1.fpOk hle (I1.hok.fresh hle)
  obtain ⟨hs', hgd, hx, es, ep, vs, hdt, hsz, kv, hmm⟩ := I1.frzK hq
  have hl : kvs.length = vs.length := Paired.length kv
  refine call_enumB (begins_keys d hs' kvs.length ep) ⟨od, es, hgd, hx, hdt, hsz⟩ fun h' he hit hsz' hk => wpAny_pyIter_enum he ?_
  exact ⟨s1.heap.objs.size + 1, _, _, _, H1, rfl, I1.kept (t' := s1.toks) hk, turn_enumK d (s1.heap.objs.size + 1) s1.heap.objs.size (Nat.succ_ne_self _) kvs hdt, ⟨⟨.none, he⟩, ⟨_, hit, rfl, rfl⟩⟩, fpk, q⟩
theorem walk_enumK {d : Addr} {od : Obj} {kvs : List (Key × V)} : Walk (IteK d od kvs) kvs.length (fun H => H d = some (.frz od (.dK kvs))) (YPair (fun i => some (.int (i : Nat))) (fun i => (kvs[i]?).map fun kv => kV kv.1)) := by
  refine ⟨fun i _ hi q => ⟨q, hi⟩, fun _ q => ⟨q, rfl⟩, fun i H v H' _ q y => ?_⟩
  obtain ⟨T, x, h1, h2, h3, k, v', h4, h5⟩ := y
  exact ⟨T, .int (i : Nat), x, h1, h2, h3, rfl, by show Option.map _ kvs[i]? = _; rw [h4, h5]; rfl⟩
end K21
set_option Elab.async false
set_option linter.all false
set_option maxRecDepth 100000
set_option maxHeartbeats 4000000
namespace K21
open PySem PySem.Spec PyProof.Rows L2
/-! ### names -/
def letters : Str := "abcdefghijklmnopqrstuvwxyz"
def words : List Str := ["item", "same", "if", "else", "do", "leave"]
def nameOk (x : Str) : Bool := (decide (0 < x.length) && decide (x.length < 9)) && !words.contains x && x.cps.toList.all fun c => letters.cps.toList.contains c
def spIsName : Sp := fun vs H Q _ => (vs = [.non] ∧ ∀ H', Same H H' → Q (.bl false) H') ∨ ∃ x : Str, vs = [.str x] ∧ x.length ≤ 1000 ∧ ∀ H', Same H H' → Q (.bl (nameOk x)) H'
theorem words_V (K : PySem.W.Frag) : dWords.map (He.Dv.v K) = words.map V.str := rfl
theorem flat_strs (xs : List Str) : (xs.map V.str).all flatV = true := by
  rw [List.all_eq_true]
  intro v hv
  obtain ⟨x, _, rfl⟩ := List.mem_map.mp hv
  rfl
theorem inV_strs (x : Str) (xs : List Str) : inV (.str x) (xs.map V.str) = xs.contains x := by
  unfold inV
  rw [List.any_map]
  induction xs with
  | nil => rfl
  | cons y ys ih =>
    rw [List.any_cons, List.contains_cons, ih]
    show (eqV (.str y) (.str x) || _) = _
    have e : eqV (.str y) (.str x) = (x == y) := by
      show decide (y = x) = (x == y)
      rw [Bool.eq_iff_iff, decide_eq_true_eq, beq_iff_eq]
      exact ⟨fun h => h.symm, fun h => h.symm⟩
    rw [e]
section
variable {P : Program} {w : World} {K : PySem.W.Frag} {mg : Str → Option Value} {base : Heap}
theorem sc_is_name : FnScope ["thing", "sign"] ["thing"] (defScope s_is_name) := ⟨rfl, rfl, rfl, by decide +kernel, rfl, by decide +kernel, by decide +kernel⟩
theorem ok_is_name (T : Txt K mg) : Cal P w K mg base 1 "is_name" spIsName := by
  refine cal_of T.d_is_name T.g_is_name sc_is_name (fun _ _ _ _ _ _ us hl => match us, hl with | [_], _ => rfl) (fun vs H Q E h => ?_) (fun cdv A outer s H vs Q E hr h => ?_)
  · rcases h with ⟨rfl, _⟩ | ⟨x, rfl, _⟩ <;> rfl
  have sc := sc_is_name
  refine ⟨_, (pss_cons (ps_if (PW.pt (pw_or (pt_not (pt_val (pb call_isi T.b_isinstance v_isinstance (pa_cons (pv 0) (pa_cons (p_ty T.b_str v_str) pa_nil))))) (pw_or (pt_not (pt_chain op_lt op_lt pe_int (pb call_len T.b_len v_len (pa_cons (pv 0) pa_nil)) pe_int)) (pw_or1 (pt_cmpR op_in_seq (pv 0) (p_ref T.g_WORDS) (by rfl)))))) (pss_one (ps_ret pe_bl)) pss_nil)
    (pss_one (ps_ret (pb (cr_all rfl) T.b_all v_all (pa_cons (pe_lc (own := [("sign", 1)]) (g := gName 1) (tt := tYes) rfl sc.nd (pi_str (pv 0)) (blkOk_by (N := ["thing", "sign"]) (sc := defScope s_is_name) (by decide +kernel)) (fun _ _ _ _ _ => (pgn 1 sc.nd)) (fun _ _ _ _ _ => pts_nil) (fun _ _ _ _ _ => (pe_cmpR op_in_sign (pv 1) (p_str T.t_LETTERS_names) (by rfl)))) pa_nil))))), ?_⟩
  rcases h with ⟨rfl, k⟩ | ⟨x, rfl, hx, k⟩
  · refine ⟨_, rfl, _, _, _, _, _, rfl, .ty _, .base .non, kt_NoneType_str, _, rfl, ?_⟩
    refine iteT ?_
    exact k H (Same.refl H)
  · refine ⟨_, rfl, _, _, _, _, _, rfl, .ty _, .base (.str _), kt_str_str, _, rfl, ?_⟩
    refine iteF ?_
    refine ⟨_, rfl, _, _, rfl, ⟨Nat.le_trans hx (by decide), rfl⟩, ?_⟩
    refine ⟨_, _, rfl, rfl, _, rfl, ?_⟩
    have no : nameOk x = false → ∀ H', Same H H' → Q (.bl false) H' := fun e H' s' => by
      rw [← e]
      exact k H' s'
    refine ite2 (fun c1 => ?_) (fun c1 => ?_)
    · refine ⟨_, _, rfl, rfl, _, rfl, ?_⟩
      have c1' : (0 : Int) < (x.length : Int) := of_decide_eq_true c1
      by_cases c2 : (x.length : Int) < 9
      · rw [decide_eq_true c2]
        refine iteF ?_
        refine ⟨_, rfl, _, _, rfl, .inr (T.t_words H), rfl, flat_strs words, _, rfl, ?_⟩
        rw [if_neg Bool.false_ne_true, words_V K, inV_strs]
        refine ite2 (fun c3 => ?_) (fun c3 => ?_)
        · refine no ?_ H (Same.refl H)
          unfold nameOk
          rw [c3]
          simp
        · have c3' : words.contains x = false := Bool.eq_false_iff.mpr c3
          refine ⟨_, rfl, _, rfl, fun D hD => ?_⟩
          refine lc_map walk_str hD (by rw [← Str.length]; omega) (fun i => .bl (letters.cps.toList.contains (x.cps.getD i 0))) (fun _ _ => True.intro) ?_ ?_
          · rintro i v H1 H2 hi s1 ⟨rfl, c, hc, rfl⟩ R kR
            refine ⟨rfl, _, rfl, c, letters, rfl, rfl, ?_⟩
            have e : decide (c ∈ letters.cps.toList) = letters.cps.toList.contains (x.cps.getD i 0) := by
              have e1 : x.cps.getD i 0 = c := by
                rw [Array.getD_eq_getD_getElem?, hc]
                rfl
              rw [e1, List.contains_eq_mem]
            rw [e]
            exact kR _ (Same.refl _)
          · intro H1 s1 hl
            refine ⟨D, (List.range x.cps.size).map fun i => letters.cps.toList.contains (x.cps.getD i 0), rfl, SqL.of ?_, ?_⟩
            · rw [hl, List.map_map]
              rfl
            · have e : ((List.range x.cps.size).map fun i => letters.cps.toList.contains (x.cps.getD i 0)).all id = nameOk x := by
                unfold nameOk
                have d1 : decide (0 < x.length) = true := decide_eq_true (by omega)
                have d2 : decide (x.length < 9) = true := decide_eq_true (by omega)
                rw [c3', d1, d2]
                show _ = x.cps.toList.all fun c => letters.cps.toList.contains c
                rw [List.all_map]
                have e2 : x.cps.toList = (List.range x.cps.size).map fun i => x.cps.getD i 0 := by
                  apply List.ext_getElem?
                  intro j
                  rw [List.getElem?_map]
                  by_cases hj : j < x.cps.size
                  · rw [List.getElem?_range hj]
                    simp [hj]
                  · rw [List.getElem?_eq_none (by simp; omega), List.getElem?_eq_none (by simp; omega)]
                    rfl
                rw [e2, List.all_map]
                rfl
              rw [e]
              exact k _ (s1.trans hid_in)
      · rw [decide_eq_false c2]
        refine iteT ?_
        refine no ?_ H (Same.refl H)
        unfold nameOk
        have d2 : decide (x.length < 9) = false := decide_eq_false (by omega)
        rw [d2]
        simp
    · refine ⟨_, rfl, ?_⟩
      refine iteT ?_
      refine no ?_ H (Same.refl H)
      unfold nameOk
      have c1' : ¬ (0 : Int) < (x.length : Int) := of_decide_eq_false (Bool.eq_false_iff.mpr c1)
      have d1 : decide (0 < x.length) = false := decide_eq_false (by omega)
      rw [d1]
      simp
end
end K21
set_option Elab.async false
set_option linter.all false
set_option maxRecDepth 100000
set_option maxHeartbeats 4000000
namespace K21
open PySem
/-! ### statements -/
inductive Tst where
  | same (y z : Str)
  | ask (p : Str) (ys : List Str)
inductive Stm where
  | put (x y : Str)
  | call (x f : Str) (ys : List Str)
  | act (x : Option Str) (d : Str) (ys : List Str)
  | leave
  | ite (t : Tst) (a b : List Stm)
def sqD (b : Bool) (ds : List PyData) : PyData := if b then .list ds else .tuple ds
def encT : Tst → PyData
  | .same y z => .tuple [.str "same", .str y, .str z]
  | .ask p ys => .tuple (.str "ask" :: .str p :: ys.map PyData.str)
def optD : Option Str → PyData
  | none => .none
  | some x => .str x
mutual
def enc (b : Bool) : Stm → PyData
  | .put x y => .tuple [.str "put", .str x, .str y]
  | .call x f ys => .tuple (.str "call" :: .str x :: .str f :: ys.map PyData.str)
  | .act x d ys => .tuple (.str "do" :: optD x :: .str d :: ys.map PyData.str)
  | .leave => .tuple [.str "leave"]
  | .ite t p q => .tuple [.str "if", encT t, sqD b (encL b p), sqD b (encL b q)]
def encL (b : Bool) : List Stm → List PyData
  | [] => []
  | s :: r => enc b s :: encL b r
end
mutual
/-- leaves in it; ifs in it; its weight; its depth -/
def Stm.nL : Stm → Nat
  | .leave => 1
  | .ite _ a b => nLs a + nLs b
  | _ => 0
def nLs : List Stm → Nat
  | [] => 0
  | s :: r => s.nL + nLs r
end
mutual
def Stm.nI : Stm → Nat
  | .ite _ a b => 1 + (nIs a + nIs b)
  | _ => 0
def nIs : List Stm → Nat
  | [] => 0
  | s :: r => s.nI + nIs r
end
mutual
def Stm.wt : Stm → Nat
  | .ite _ a b => 1 + (wts a + wts b)
  | _ => 1
def wts : List Stm → Nat
  | [] => 0
  | s :: r => s.wt + wts r
end
mutual
def Stm.dep : Stm → Nat
  | .ite _ a b => 1 + max (deps a) (deps b)
  | _ => 0
def deps : List Stm → Nat
  | [] => 0
  | s :: r => max s.dep (deps r)
end
mutual
/-- the registers in the order of reading -/
def Stm.regs : Stm → List Str → List Str
  | .put x _, f => if f.contains x then f else f ++ [x]
  | .call x _ _, f => if f.contains x then f else f ++ [x]
  | .act (some x) _ _, f => if f.contains x then f else f ++ [x]
  | .act none _ _, f => f
  | .leave, f => f
  | .ite _ a b, f => regsL b (regsL a f)
def regsL : List Stm → List Str → List Str
  | [], f => f
  | s :: r, f => regsL r (s.regs f)
end
theorem encL_map (b : Bool) : ∀ ss, encL b ss = ss.map (enc b)
  | [] => rfl
  | s :: r => by
    show enc b s :: encL b r = _
    rw [encL_map b r]
    rfl
theorem wts_app : ∀ a b, wts (a ++ b) = wts a + wts b
  | [], b => by simp [wts]
  | s :: r, b => by
    show s.wt + wts (r ++ b) = s.wt + wts r + wts b
    rw [wts_app r b]
    omega
theorem nIs_app : ∀ a b, nIs (a ++ b) = nIs a + nIs b
  | [], b => by simp [nIs]
  | s :: r, b => by
    show s.nI + nIs (r ++ b) = s.nI + nIs r + nIs b
    rw [nIs_app r b]
    omega
theorem nLs_app : ∀ a b, nLs (a ++ b) = nLs a + nLs b
  | [], b => by simp [nLs]
  | s :: r, b => by
    show s.nL + nLs (r ++ b) = s.nL + nLs r + nLs b
    rw [nLs_app r b]
    omega
/-! ### names of the law -/
def consts : List Str := ["a", "b"]
def used : List Str := ["a", "b", "f", "g", "p", "tell", "show"]
/-- all registers that come -/
def regW : List Str := ["r", "s", "t", "pa", "pb", "pc", "pd", "pe"]
def regOk (x : Str) : Bool := (nameOk x && !used.contains x) && regW.contains x
def ariF (f : Str) : Option Nat := if f = "f" then some 1 else if f = "g" then some 2 else none
def ariT (f : Str) : Option Nat := if f = "p" then some 2 else none
def ariD (f : Str) : Option Nat := if f = "tell" then some 1 else if f = "show" then some 2 else none
abbrev Put := Option (List Str)
def inPut (p : Put) (x : Str) : Bool := match p with
  | none => true
  | some l => l.contains x
def srcOk (turn : Bool) (p : Put) (x : Str) : Bool := if x = "item" then turn else if consts.contains x then true else regOk x && inPut p x
def tstOk (turn : Bool) (p : Put) : Tst → Bool
  | .same y z => srcOk turn p y && srcOk turn p z
  | .ask f ys => decide (ariT f = some ys.length) && ys.all (srcOk turn p)
def addPut (x : Str) (p : Put) : Put := match p with
  | none => none
  | some l => if l.contains x then some l else some (l ++ [x])
def meet : Put → Put → Put
  | none, q => q
  | p, none => p
  | some a, some b => some (a.filter b.contains)
mutual
/-- what is put behind a statement; none: it cannot stand there -/
def chkS (turn : Bool) : Stm → Put → Option Put
  | .put x y, p => if regOk x && srcOk turn p y then some (addPut x p) else none
  | .call x f ys, p => if regOk x && (decide (ariF f = some ys.length) && ys.all (srcOk turn p)) then some (addPut x p) else none
  | .act (some x) d ys, p => if regOk x && (decide (ariD d = some ys.length) && ys.all (srcOk turn p)) then some (addPut x p) else none
  | .act none d ys, p => if decide (ariD d = some ys.length) && ys.all (srcOk turn p) then some p else none
  | .leave, _ => if turn then some none else none
  | .ite t a b, p => if tstOk turn p t then (chkL turn a p).bind fun q => (chkL turn b p).bind fun q' => some (meet q q') else none
def chkL (turn : Bool) : List Stm → Put → Option Put
  | [], p => some p
  | s :: r, p => (chkS turn s p).bind fun q => chkL turn r q
end
mutual
/-- each leave is the last of its list -/
def Stm.lst : Stm → Bool
  | .ite _ a b => lstL a && lstL b
  | _ => true
def lstL : List Stm → Bool
  | [] => true
  | s :: r => (match s with | .leave => r.isEmpty | _ => true) && (s.lst && lstL r)
end
/-! ### running -/
structure Tab where
  cst : Str → Option Int
  fn : Str → List Int → Option Int
  ts : Str → Option (List (List Int))
abbrev Sto := Str → Option Int
abbrev Deed := Str × List Int
def stSet (st : Sto) (x : Str) (v : Int) : Sto := fun y => if y = x then some v else st y
def ev (T : Tab) (it : Option Int) (st : Sto) (x : Str) : Option Int := if x = "item" then it else match st x with
  | some v => some v
  | none => T.cst x
def evs (T : Tab) (it : Option Int) (st : Sto) : List Str → Option (List Int)
  | [] => some []
  | x :: r => (ev T it st x).bind fun v => (evs T it st r).bind fun vs => some (v :: vs)
def tst (T : Tab) (it : Option Int) (st : Sto) : Tst → Option Bool
  | .same y z => (ev T it st y).bind fun a => (ev T it st z).bind fun b => some (decide (a = b))
  | .ask p ys => (T.ts p).bind fun l => (evs T it st ys).bind fun vs => some (l.contains vs)
def run (T : Tab) (it : Option Int) (res : List Int) : Nat → List Stm → Sto → List Deed → Option (Sto × List Deed × Bool)
  | 0, _, _, _ => none
  | _ + 1, [], st, ds => some (st, ds, false)
  | n + 1, s :: r, st, ds => match s with
    | .leave => some (st, ds, true)
    | .put x y => (ev T it st y).bind fun v => run T it res n r (stSet st x v) ds
    | .call x f ys => (evs T it st ys).bind fun vs => (T.fn f vs).bind fun v => run T it res n r (stSet st x v) ds
    | .act x d ys => (evs T it st ys).bind fun vs => run T it res n r (match x with | none => st | some x => stSet st x (res.getD ds.length 0)) (ds ++ [(d, vs)])
    | .ite t a b => (tst T it st t).bind fun c => run T it res n ((if c then a else b) ++ r) st ds
/-! ### turned statements -/
/-- the names turned, the flag -/
structure Tn where
  ren : List (Str × Str)
  flag : Option Str
def Tn.nm (τ : Tn) (x : Str) : Str := if x = "item" then "item" else (τ.ren.lookup x).getD x
def Tn.tst (τ : Tn) : Tst → Tst
  | .same y z => .same (τ.nm y) (τ.nm z)
  | .ask p ys => .ask p (ys.map τ.nm)
def Tn.one (τ : Tn) (rec : List Stm → List Stm) : Stm → Stm
  | .put x y => .put (τ.nm x) (τ.nm y)
  | .call x f ys => .call (τ.nm x) f (ys.map τ.nm)
  | .act x d ys => .act (x.map τ.nm) d (ys.map τ.nm)
  | .leave => .leave
  | .ite t a b => .ite (τ.tst t) (rec a) (rec b)
def Tn.all' (τ : Tn) (rec : List Stm → List Stm) : List Stm → List Stm
  | [] => []
  | s :: r => match s with
    | .leave => [.put (τ.flag.getD "") "a"]
    | .ite t a b => if (Stm.ite t a b).nL = 0 then τ.one rec (.ite t a b) :: τ.all' rec r else [τ.one rec (.ite t (a ++ r) (b ++ r))]
    | s => τ.one rec s :: τ.all' rec r
def Tn.all (τ : Tn) : Nat → List Stm → List Stm
  | 0 => fun _ => []
  | n + 1 => τ.all' (τ.all n)
def Tn.guard (τ : Tn) (k : Nat) (ss : List Stm) : List Stm := match τ.flag with
  | none => τ.all k ss
  | some f => if τ.all k ss = [] then [] else [.ite (.same f "b") (τ.all k ss) []]
end K21
set_option Elab.async false
set_option linter.all false
set_option maxRecDepth 100000
set_option maxHeartbeats 4000000
namespace K21
open PySem
/-! ### what is put, and running -/
def le : Put → Put → Prop
  | _, none => True
  | none, some _ => False
  | some a, some b => ∀ x ∈ a, x ∈ b
theorem le_refl : ∀ p, le p p
  | none => True.intro
  | some _ => fun _ h => h
theorem le_trans' : ∀ {p q r : Put}, le p q → le q r → le p r
  | _, _, none, _, _ => True.intro
  | none, none, some _, _, h => h.elim
  | none, some _, some _, h, _ => h.elim
  | some _, none, some _, _, h => h.elim
  | some _, some _, some _, h, g => fun x hx => g x (h x hx)
theorem addPut_some {x : Str} {l : List Str} : addPut x (some l) = if l.contains x = true then some l else some (l ++ [x]) := rfl
theorem mem_addPut {x : Str} {l : List Str} : ∃ l', addPut x (some l) = some l' ∧ (∀ y ∈ l, y ∈ l') ∧ x ∈ l' ∧ ∀ y ∈ l', y = x ∨ y ∈ l := by
  rw [addPut_some]
  split
  · rename_i c
    exact ⟨l, rfl, fun _ h => h, List.contains_iff_mem.mp c, fun y h => .inr h⟩
  · refine ⟨l ++ [x], rfl, fun y h => List.mem_append_left _ h, List.mem_append_right _ List.mem_cons_self, fun y h => ?_⟩
    rcases List.mem_append.mp h with z | z
    · exact .inr z
    · exact .inl (List.mem_singleton.mp z)
theorem le_addPut {x : Str} : ∀ {p q : Put}, le p q → le (addPut x p) (addPut x q)
  | _, none, _ => True.intro
  | none, some _, h => h.elim
  | some a, some b, h => by
    obtain ⟨c, e1, a1, a2, a3⟩ := mem_addPut (x := x) (l := a)
    obtain ⟨d, e2, b1, b2, b3⟩ := mem_addPut (x := x) (l := b)
    rw [e1, e2]
    intro y hy
    rcases a3 y hy with z | z
    · rw [z]
      exact b2
    · exact b1 y (h y z)
theorem mem_meet {a b : List Str} {x : Str} : x ∈ a.filter b.contains ↔ x ∈ a ∧ x ∈ b := by
  rw [List.mem_filter, List.contains_iff_mem]
theorem le_meet : ∀ {p q p' q' : Put}, le p p' → le q q' → le (meet p q) (meet p' q')
  | p, q, none, none, _, _ => True.intro
  | some a, none, none, some d, _, h => h.elim
  | none, none, none, some d, _, h => h.elim
  | some a, some b, none, some d, _, h => fun x hx => h x (mem_meet.mp hx).2
  | none, some b, none, some d, _, h => h
  | none, q, some c, none, h, _ => h.elim
  | some a, none, some c, none, h, _ => h
  | some a, some b, some c, none, h, _ => fun x hx => h x (mem_meet.mp hx).1
  | none, q, some c, some d, h, _ => h.elim
  | some a, none, some c, some d, _, h => h.elim
  | some a, some b, some c, some d, h, g => fun x hx => mem_meet.mpr ⟨h x (mem_meet.mp hx).1, g x (mem_meet.mp hx).2⟩
theorem meet_left : ∀ p q, le (meet p q) p
  | none, _ => True.intro
  | some a, none => fun _ h => h
  | some a, some b => fun x hx => (mem_meet.mp hx).1
theorem meet_right : ∀ p q, le (meet p q) q
  | _, none => True.intro
  | none, some b => fun _ h => h
  | some a, some b => fun x hx => (mem_meet.mp hx).2
theorem le_src {turn : Bool} {x : Str} : ∀ {p q : Put}, le p q → srcOk turn p x = true → srcOk turn q x = true := fun {p q} h g => by
  unfold srcOk at g ⊢
  split
  · rename_i c
    rw [if_pos c] at g
    exact g
  · rename_i c
    rw [if_neg c] at g
    split
    · rfl
    · rename_i c2
      rw [if_neg c2] at g
      rw [Bool.and_eq_true] at g ⊢
      refine ⟨g.1, ?_⟩
      have g2 := g.2
      unfold inPut at g2 ⊢
      cases q with
      | none => rfl
      | some b =>
        cases p with
        | none => exact h.elim
        | some a => exact List.contains_iff_mem.mpr (h x (List.contains_iff_mem.mp g2))
theorem le_all {turn : Bool} {p q : Put} (h : le p q) {ys : List Str} (g : ys.all (srcOk turn p) = true) : ys.all (srcOk turn q) = true :=
  List.all_eq_true.mpr fun x hx => le_src h (List.all_eq_true.mp g x hx)
theorem le_tst {turn : Bool} {p q : Put} (h : le p q) : ∀ {t : Tst}, tstOk turn p t = true → tstOk turn q t = true
  | .same y z, g => by
    unfold tstOk at g ⊢
    rw [Bool.and_eq_true] at g ⊢
    exact ⟨le_src h g.1, le_src h g.2⟩
  | .ask f ys, g => by
    unfold tstOk at g ⊢
    rw [Bool.and_eq_true] at g ⊢
    exact ⟨g.1, le_all h g.2⟩
mutual
theorem chkS_mono {turn : Bool} : ∀ (s : Stm) {p p' q : Put}, le p p' → chkS turn s p = some q → ∃ q', chkS turn s p' = some q' ∧ le q q'
  | .put x y, p, p', q, h, g => by
    unfold chkS at g ⊢
    split at g
    · rename_i c
      rw [Bool.and_eq_true] at c
      rw [if_pos (by rw [Bool.and_eq_true]; exact ⟨c.1, le_src h c.2⟩)]
      exact ⟨_, rfl, by rw [← Option.some.inj g]; exact le_addPut h⟩
    · cases g
  | .call x f ys, p, p', q, h, g => by
    unfold chkS at g ⊢
    split at g
    · rename_i c
      rw [Bool.and_eq_true, Bool.and_eq_true] at c
      rw [if_pos (by rw [Bool.and_eq_true, Bool.and_eq_true]; exact ⟨c.1, c.2.1, le_all h c.2.2⟩)]
      exact ⟨_, rfl, by rw [← Option.some.inj g]; exact le_addPut h⟩
    · cases g
  | .act (some x) d ys, p, p', q, h, g => by
    unfold chkS at g ⊢
    split at g
    · rename_i c
      rw [Bool.and_eq_true, Bool.and_eq_true] at c
      rw [if_pos (by rw [Bool.and_eq_true, Bool.and_eq_true]; exact ⟨c.1, c.2.1, le_all h c.2.2⟩)]
      exact ⟨_, rfl, by rw [← Option.some.inj g]; exact le_addPut h⟩
    · cases g
  | .act none d ys, p, p', q, h, g => by
    unfold chkS at g ⊢
    split at g
    · rename_i c
      rw [Bool.and_eq_true] at c
      rw [if_pos (by rw [Bool.and_eq_true]; exact ⟨c.1, le_all h c.2⟩)]
      exact ⟨_, rfl, by rw [← Option.some.inj g]; exact h⟩
    · cases g
  | .leave, p, p', q, h, g => by
    unfold chkS at g ⊢
    exact ⟨q, g, le_refl q⟩
  | .ite t a b, p, p', q, h, g => by
    unfold chkS at g ⊢
    split at g
    · rename_i c
      rw [if_pos (le_tst h c)]
      obtain ⟨qa, ha, g⟩ := Option.bind_eq_some_iff.mp g
      obtain ⟨qb, hb, g⟩ := Option.bind_eq_some_iff.mp g
      obtain ⟨qa', ha', la⟩ := chkL_mono a h ha
      obtain ⟨qb', hb', lb⟩ := chkL_mono b h hb
      rw [ha', Option.bind_some, hb', Option.bind_some]
      exact ⟨_, rfl, by rw [← Option.some.inj g]; exact le_meet la lb⟩
    · cases g
theorem chkL_mono {turn : Bool} : ∀ (ss : List Stm) {p p' q : Put}, le p p' → chkL turn ss p = some q → ∃ q', chkL turn ss p' = some q' ∧ le q q'
  | [], p, p', q, h, g => by
    unfold chkL at g ⊢
    exact ⟨p', rfl, by rw [← Option.some.inj g]; exact h⟩
  | s :: r, p, p', q, h, g => by
    unfold chkL at g ⊢
    obtain ⟨q1, h1, g⟩ := Option.bind_eq_some_iff.mp g
    obtain ⟨q1', h1', l1⟩ := chkS_mono s h h1
    obtain ⟨q', h', l'⟩ := chkL_mono r l1 g
    rw [h1', Option.bind_some]
    exact ⟨q', h', l'⟩
end
theorem chkL_cons {turn : Bool} (s : Stm) (r : List Stm) (p : Put) : chkL turn (s :: r) p = (chkS turn s p).bind fun q => chkL turn r q := by rw [chkL]
theorem chkL_app {turn : Bool} : ∀ (a r : List Stm) (p : Put), chkL turn (a ++ r) p = (chkL turn a p).bind fun q => chkL turn r q
  | [], r, p => by
    rw [List.nil_append]
    unfold chkL
    rfl
  | s :: a, r, p => by
    rw [List.cons_append, chkL_cons, chkL_cons, Option.bind_assoc]
    congr 1
    funext q
    exact chkL_app a r q
/-- from an if and what follows to a branch and what follows -/
theorem chk_branch {turn : Bool} {t : Tst} {a b r : List Stm} {p q : Put} (h : chkL turn (.ite t a b :: r) p = some q) :
    tstOk turn p t = true ∧ (∃ q', chkL turn (a ++ r) p = some q' ∧ le q q') ∧ ∃ q', chkL turn (b ++ r) p = some q' ∧ le q q' := by
  unfold chkL at h
  obtain ⟨m, h1, h2⟩ := Option.bind_eq_some_iff.mp h
  unfold chkS at h1
  split at h1
  · rename_i c
    obtain ⟨qa, ha, h1⟩ := Option.bind_eq_some_iff.mp h1
    obtain ⟨qb, hb, h1⟩ := Option.bind_eq_some_iff.mp h1
    have em := Option.some.inj h1
    rw [← em] at h2
    refine ⟨c, ?_, ?_⟩
    · rw [chkL_app, ha]
      exact chkL_mono r (meet_left qa qb) h2
    · rw [chkL_app, hb]
      exact chkL_mono r (meet_right qa qb) h2
  · cases h1
def D0 (m v : Int) : Prop := 0 ≤ v ∧ v < m
structure TabOk (T : Tab) (m : Int) : Prop where
  cst : ∀ x, consts.contains x = true → ∃ v, T.cst x = some v ∧ D0 m v
  cno : ∀ x, consts.contains x = false → T.cst x = none
  fn : ∀ f (vs : List Int), ariF f = some vs.length → (∀ v ∈ vs, D0 m v) → ∃ v, T.fn f vs = some v ∧ D0 m v
  ts : ∀ p k, ariT p = some k → ∃ l, T.ts p = some l
  ne : T.cst "a" ≠ T.cst "b"
def InR (m : Int) (st : Sto) : Prop := ∀ x v, st x = some v → D0 m v
theorem InR.set {m : Int} {st : Sto} (h : InR m st) {x : Str} {v : Int} (hv : D0 m v) : InR m (stSet st x v) := fun y u e => by
  unfold stSet at e
  split at e
  · rw [← Option.some.inj e]
    exact hv
  · exact h y u e
theorem set_dom {st : Sto} {x : Str} {v : Int} {y : Str} (h : y = x ∨ (st y).isSome = true) : (stSet st x v y).isSome = true := by
  unfold stSet
  split
  · rfl
  · rename_i c
    rcases h with h | h
    · exact absurd h c
    · exact h
section
variable {T : Tab} {m : Int} {it : Option Int} {turn : Bool} {res : List Int}
theorem ev_ok (W : TabOk T m) (hit : turn = true → ∃ i, it = some i ∧ D0 m i) {l : List Str} {st : Sto} (hd : ∀ x ∈ l, (st x).isSome = true) (hr : InR m st) {x : Str} (h : srcOk turn (some l) x = true) : ∃ v, ev T it st x = some v ∧ D0 m v := by
  unfold srcOk at h
  unfold ev
  split
  · rename_i c
    rw [if_pos c] at h
    exact hit h
  · rename_i c
    rw [if_neg c] at h
    cases e : st x with
    | some v => exact ⟨v, rfl, hr x v e⟩
    | none =>
      by_cases c2 : consts.contains x = true
      · exact W.cst x c2
      · rw [if_neg c2] at h
        rw [Bool.and_eq_true] at h
        have h2 := hd x (List.contains_iff_mem.mp h.2)
        rw [e] at h2
        cases h2
theorem evs_ok (W : TabOk T m) (hit : turn = true → ∃ i, it = some i ∧ D0 m i) {l : List Str} {st : Sto} (hd : ∀ x ∈ l, (st x).isSome = true) (hr : InR m st) : ∀ {ys : List Str}, ys.all (srcOk turn (some l)) = true →
    ∃ vs, evs T it st ys = some vs ∧ vs.length = ys.length ∧ ∀ v ∈ vs, D0 m v
  | [], _ => ⟨[], rfl, rfl, fun v hv => by cases hv⟩
  | y :: ys, h => by
    rw [List.all_cons, Bool.and_eq_true] at h
    obtain ⟨v, e1, d1⟩ := ev_ok W hit hd hr h.1
    obtain ⟨vs, e2, l2, d2⟩ := evs_ok W hit hd hr h.2
    refine ⟨v :: vs, ?_, by rw [List.length_cons, List.length_cons, l2], fun u hu => ?_⟩
    · unfold evs
      rw [e1, Option.bind_some, e2, Option.bind_some]
    · rcases List.mem_cons.mp hu with z | z
      · rw [z]
        exact d1
      · exact d2 u z
theorem wts_cons (s : Stm) (r : List Stm) : wts (s :: r) = s.wt + wts r := by conv => lhs; unfold wts
theorem wt_pos : ∀ s : Stm, 0 < s.wt
  | .put _ _ => by simp [Stm.wt]
  | .call _ _ _ => by simp [Stm.wt]
  | .act _ _ _ => by simp [Stm.wt]
  | .leave => by simp [Stm.wt]
  | .ite _ _ _ => by simp [Stm.wt]; omega
/-- what may be read is there: a run comes to its end -/
theorem run_ok (W : TabOk T m) (hm : 0 < m) (hit : turn = true → ∃ i, it = some i ∧ D0 m i) (hres : ∀ v ∈ res, D0 m v) : ∀ (n : Nat) (ss : List Stm) (l : List Str) (q : Put) (st : Sto) (ds : List Deed), wts ss < n → chkL turn ss (some l) = some q →
    (∀ x ∈ l, (st x).isSome = true) → InR m st → ∃ st' ds' b, run T it res n ss st ds = some (st', ds', b) ∧ InR m st' ∧ (∀ x, (st x).isSome = true → (st' x).isSome = true) ∧ (b = false → ∃ l', q = some l' ∧ ∀ x ∈ l', (st' x).isSome = true)
  | 0, _, _, _, _, _, h, _, _, _ => absurd h (Nat.not_lt_zero _)
  | n + 1, [], l, q, st, ds, _, h, hd, hr => by
    unfold chkL at h
    refine ⟨st, ds, false, by unfold run; rfl, hr, fun _ h => h, fun _ => ⟨l, (Option.some.inj h).symm, hd⟩⟩
  | n + 1, s :: r, l, q, st, ds, hw, h, hd, hr => by
    rw [wts_cons] at hw
    have hp := wt_pos s
    have hres0 : ∀ k, D0 m (res.getD k 0) := fun k => by
      rw [List.getD_eq_getElem?_getD]
      cases e : res[k]? with
      | none => exact ⟨Int.le_refl 0, hm⟩
      | some v => exact hres v (List.mem_of_getElem? e)
    unfold run
    cases s with
    | leave => exact ⟨st, ds, true, rfl, hr, fun _ h => h, fun z => by cases z⟩
    | put x y =>
      unfold chkL at h
      obtain ⟨q1, h1, h2⟩ := Option.bind_eq_some_iff.mp h
      unfold chkS at h1
      split at h1
      · rename_i c
        rw [Bool.and_eq_true] at c
        obtain ⟨v, e1, d1⟩ := ev_ok W hit hd hr c.2
        obtain ⟨l', e2, m1, m2, m3⟩ := mem_addPut (x := x) (l := l)
        rw [e2] at h1
        rw [← Option.some.inj h1] at h2
        have hd' : ∀ z ∈ l', (stSet st x v z).isSome = true := fun z hz => set_dom ((m3 z hz).imp_right (hd z))
        obtain ⟨st', ds', b, e3, r1, r2, r3⟩ := run_ok W hm hit hres n r l' q (stSet st x v) ds (by omega) h2 hd' (hr.set d1)
        simp only [e1, Option.bind_some]
        exact ⟨st', ds', b, e3, r1, fun z hz => r2 z (set_dom (.inr hz)), r3⟩
      · cases h1
    | call x f ys =>
      unfold chkL at h
      obtain ⟨q1, h1, h2⟩ := Option.bind_eq_some_iff.mp h
      unfold chkS at h1
      split at h1
      · rename_i c
        rw [Bool.and_eq_true, Bool.and_eq_true] at c
        obtain ⟨vs, e1, l1, d1⟩ := evs_ok W hit hd hr c.2.2
        have ar : ariF f = some vs.length := by
          rw [l1]
          exact of_decide_eq_true c.2.1
        obtain ⟨v, e4, d4⟩ := W.fn f vs ar d1
        obtain ⟨l', e2, m1, m2, m3⟩ := mem_addPut (x := x) (l := l)
        rw [e2] at h1
        rw [← Option.some.inj h1] at h2
        have hd' : ∀ z ∈ l', (stSet st x v z).isSome = true := fun z hz => set_dom ((m3 z hz).imp_right (hd z))
        obtain ⟨st', ds', b, e3, r1, r2, r3⟩ := run_ok W hm hit hres n r l' q (stSet st x v) ds (by omega) h2 hd' (hr.set d4)
        simp only [e1, e4, Option.bind_some]
        exact ⟨st', ds', b, e3, r1, fun z hz => r2 z (set_dom (.inr hz)), r3⟩
      · cases h1
    | act x d ys =>
      unfold chkL at h
      obtain ⟨q1, h1, h2⟩ := Option.bind_eq_some_iff.mp h
      cases x with
      | none =>
        unfold chkS at h1
        split at h1
        · rename_i c
          rw [Bool.and_eq_true] at c
          obtain ⟨vs, e1, l1, d1⟩ := evs_ok W hit hd hr c.2
          rw [← Option.some.inj h1] at h2
          obtain ⟨st', ds', b, e3, r1, r2, r3⟩ := run_ok W hm hit hres n r l q st (ds ++ [(d, vs)]) (by omega) h2 hd hr
          simp only [e1, Option.bind_some]
          exact ⟨st', ds', b, e3, r1, r2, r3⟩
        · cases h1
      | some x =>
        unfold chkS at h1
        split at h1
        · rename_i c
          rw [Bool.and_eq_true, Bool.and_eq_true] at c
          obtain ⟨vs, e1, l1, d1⟩ := evs_ok W hit hd hr c.2.2
          obtain ⟨l', e2, m1, m2, m3⟩ := mem_addPut (x := x) (l := l)
          rw [e2] at h1
          rw [← Option.some.inj h1] at h2
          have hd' : ∀ z ∈ l', (stSet st x (res.getD ds.length 0) z).isSome = true := fun z hz => set_dom ((m3 z hz).imp_right (hd z))
          obtain ⟨st', ds', b, e3, r1, r2, r3⟩ := run_ok W hm hit hres n r l' q (stSet st x (res.getD ds.length 0)) (ds ++ [(d, vs)]) (by omega) h2 hd' (hr.set (hres0 _))
          simp only [e1, Option.bind_some]
          exact ⟨st', ds', b, e3, r1, fun z hz => r2 z (set_dom (.inr hz)), r3⟩
        · cases h1
    | ite t a b =>
      obtain ⟨c, ⟨qa, ha, la⟩, qb, hb, lb⟩ := chk_branch h
      have wt : (Stm.ite t a b).wt = 1 + (wts a + wts b) := by simp [Stm.wt]
      have et : ∃ k, tst T it st t = some k := by
        cases t with
        | same y z =>
          unfold tstOk at c
          rw [Bool.and_eq_true] at c
          obtain ⟨v, e1, _⟩ := ev_ok W hit hd hr c.1
          obtain ⟨u, e2, _⟩ := ev_ok W hit hd hr c.2
          exact ⟨_, by simp only [tst, e1, e2, Option.bind_some]; rfl⟩
        | ask f ys =>
          unfold tstOk at c
          rw [Bool.and_eq_true] at c
          obtain ⟨tl, e1⟩ := W.ts f _ (of_decide_eq_true c.1)
          obtain ⟨vs, e2, _, _⟩ := evs_ok W hit hd hr c.2
          exact ⟨_, by simp only [tst, e1, e2, Option.bind_some]; rfl⟩
      obtain ⟨k, ek⟩ := et
      simp only [ek, Option.bind_some]
      have fin : ∀ {x : List Stm} {qx : Put}, wts x ≤ wts a + wts b → chkL turn (x ++ r) (some l) = some qx → le q qx → ∃ st' ds' b, run T it res n (x ++ r) st ds = some (st', ds', b) ∧ InR m st' ∧ (∀ x, (st x).isSome = true → (st' x).isSome = true) ∧ (b = false → ∃ l', q = some l' ∧ ∀ x ∈ l', (st' x).isSome = true) := fun {x qx} hx hc hl => by
        obtain ⟨st', ds', b, e3, r1, r2, r3⟩ := run_ok W hm hit hres n (x ++ r) l qx st ds (by rw [wts_app]; omega) hc hd hr
        refine ⟨st', ds', b, e3, r1, r2, fun z => ?_⟩
        obtain ⟨l', el, hl'⟩ := r3 z
        rw [el] at hl
        cases q with
        | none => exact hl.elim
        | some l0 => exact ⟨l0, rfl, fun y hy => hl' y (hl y hy)⟩
      cases k with
      | true => exact fin (Nat.le_add_right _ _) ha la
      | false => exact fin (Nat.le_add_left _ _) hb lb
end
end K21
set_option Elab.async false
set_option linter.all false
set_option maxRecDepth 100000
set_option maxHeartbeats 4000000
namespace K21
open PySem
/-! ### the names in a loop -/
def srcIn (Rg : List Str) (x : Str) : Bool := decide (x = "item") || (consts.contains x || Rg.contains x)
def tstIn (Rg : List Str) : Tst → Bool
  | .same y z => srcIn Rg y && srcIn Rg z
  | .ask _ ys => ys.all (srcIn Rg)
mutual
def Stm.nmd (Rg : List Str) : Stm → Bool
  | .put x y => Rg.contains x && srcIn Rg y
  | .call x _ ys => Rg.contains x && ys.all (srcIn Rg)
  | .act (some x) _ ys => Rg.contains x && ys.all (srcIn Rg)
  | .act none _ ys => ys.all (srcIn Rg)
  | .leave => true
  | .ite t a b => tstIn Rg t && (nmdL Rg a && nmdL Rg b)
def nmdL (Rg : List Str) : List Stm → Bool
  | [] => true
  | s :: r => s.nmd Rg && nmdL Rg r
end
theorem nmdL_cons {Rg : List Str} (s : Stm) (r : List Stm) : nmdL Rg (s :: r) = (s.nmd Rg && nmdL Rg r) := by rw [nmdL]
theorem nmdL_app {Rg : List Str} : ∀ a b : List Stm, nmdL Rg (a ++ b) = (nmdL Rg a && nmdL Rg b)
  | [], b => by
    rw [List.nil_append, show nmdL Rg [] = true by rw [nmdL], Bool.true_and]
  | s :: r, b => by rw [List.cons_append, nmdL_cons, nmdL_cons, nmdL_app r b, Bool.and_assoc]
theorem nmd_ite {Rg : List Str} {t : Tst} {a b : List Stm} : (Stm.ite t a b).nmd Rg = (tstIn Rg t && (nmdL Rg a && nmdL Rg b)) := by rw [Stm.nmd]
theorem nLs_cons (s : Stm) (r : List Stm) : nLs (s :: r) = s.nL + nLs r := by rw [nLs]
theorem nIs_cons (s : Stm) (r : List Stm) : nIs (s :: r) = s.nI + nIs r := by rw [nIs]
theorem nL_ite (t : Tst) (a b : List Stm) : (Stm.ite t a b).nL = nLs a + nLs b := by rw [Stm.nL]
theorem nI_ite (t : Tst) (a b : List Stm) : (Stm.ite t a b).nI = 1 + (nIs a + nIs b) := by rw [Stm.nI]
/-- how the names are turned -/
structure TnOk (τ : Tn) (Rg : List Str) : Prop where
  cst : ∀ x, consts.contains x = true → τ.nm x = x
  cno : ∀ x, Rg.contains x = true → consts.contains (τ.nm x) = false ∧ τ.nm x ≠ "item"
  rno : ∀ x, Rg.contains x = true → consts.contains x = false ∧ x ≠ "item"
  inj : ∀ x y, Rg.contains x = true → Rg.contains y = true → τ.nm x = τ.nm y → x = y
  reg : ∀ x, Rg.contains x = true → regOk (τ.nm x) = true
  flg : ∀ f, τ.flag = some f → consts.contains f = false ∧ f ≠ "item" ∧ regOk f = true ∧ ∀ x, Rg.contains x = true → τ.nm x ≠ f
/-- the store of the turned loop holds that of the loop -/
structure Rel (τ : Tn) (Rg : List Str) (σ st : Sto) : Prop where
  eq : ∀ x, Rg.contains x = true → σ (τ.nm x) = st x
  c1 : ∀ x, consts.contains x = true → σ x = none
  c2 : ∀ x, consts.contains x = true → st x = none
section
variable {T : Tab} {it : Option Int} {res : List Int} {n : Nat} {r : List Stm} {st : Sto} {ds : List Deed}
theorem run_nil : run T it res (n + 1) [] st ds = some (st, ds, false) := by rw [run]
theorem run_leave : run T it res (n + 1) (.leave :: r) st ds = some (st, ds, true) := by rw [run]
theorem run_put {x y : Str} : run T it res (n + 1) (.put x y :: r) st ds = (ev T it st y).bind fun v => run T it res n r (stSet st x v) ds := by rw [run]
theorem run_call {x f : Str} {ys : List Str} : run T it res (n + 1) (.call x f ys :: r) st ds = (evs T it st ys).bind fun vs => (T.fn f vs).bind fun v => run T it res n r (stSet st x v) ds := by rw [run]
theorem run_act {d : Str} {ys : List Str} : run T it res (n + 1) (.act none d ys :: r) st ds = (evs T it st ys).bind fun vs => run T it res n r st (ds ++ [(d, vs)]) := by rw [run]
theorem run_actS {x d : Str} {ys : List Str} : run T it res (n + 1) (.act (some x) d ys :: r) st ds = (evs T it st ys).bind fun vs => run T it res n r (stSet st x (res.getD ds.length 0)) (ds ++ [(d, vs)]) := by rw [run]
theorem run_ite {t : Tst} {a b : List Stm} : run T it res (n + 1) (.ite t a b :: r) st ds = (tst T it st t).bind fun c => run T it res n ((if c then a else b) ++ r) st ds := by rw [run]
end
section
variable {τ : Tn} {Rg : List Str} {T : Tab} {it : Option Int} {res : List Int} {σ st : Sto}
theorem nm_item : τ.nm "item" = "item" := by unfold Tn.nm; rw [if_pos rfl]
theorem ev_tn (hT : ∀ x, consts.contains x = false → T.cst x = none) (k : TnOk τ Rg) (r : Rel τ Rg σ st) {x : Str} (h : srcIn Rg x = true) : ev T it σ (τ.nm x) = ev T it st x := by
  unfold srcIn at h
  rw [Bool.or_eq_true, Bool.or_eq_true] at h
  unfold ev
  by_cases c : x = "item"
  · rw [c, nm_item, if_pos rfl, if_pos rfl]
  · rw [if_neg c]
    rcases h with h | h | h
    · exact absurd (of_decide_eq_true h) c
    · rw [k.cst x h, if_neg c, r.c1 x h, r.c2 x h]
    · rw [if_neg (k.cno x h).2, r.eq x h, hT _ (k.cno x h).1, hT _ (k.rno x h).1]
theorem evs_tn (hT : ∀ x, consts.contains x = false → T.cst x = none) (k : TnOk τ Rg) (r : Rel τ Rg σ st) : ∀ {ys : List Str}, ys.all (srcIn Rg) = true → evs T it σ (ys.map τ.nm) = evs T it st ys
  | [], _ => rfl
  | y :: ys, h => by
    rw [List.all_cons, Bool.and_eq_true] at h
    rw [List.map_cons]
    unfold evs
    rw [ev_tn hT k r h.1, evs_tn hT k r h.2]
theorem tst_tn (hT : ∀ x, consts.contains x = false → T.cst x = none) (k : TnOk τ Rg) (r : Rel τ Rg σ st) : ∀ {t : Tst}, tstIn Rg t = true → tst T it σ (τ.tst t) = tst T it st t
  | .same y z, h => by
    unfold tstIn at h
    rw [Bool.and_eq_true] at h
    show (ev T it σ (τ.nm y)).bind _ = (ev T it st y).bind _
    rw [ev_tn hT k r h.1]
    congr 1
    funext a
    rw [ev_tn hT k r h.2]
  | .ask f ys, h => by
    unfold tstIn at h
    show (T.ts f).bind _ = (T.ts f).bind _
    congr 1
    funext a
    rw [evs_tn hT k r h]
theorem rel_set (k : TnOk τ Rg) (r : Rel τ Rg σ st) {x : Str} (h : Rg.contains x = true) (v : Int) : Rel τ Rg (stSet σ (τ.nm x) v) (stSet st x v) := by
  refine ⟨fun y hy => ?_, fun y hy => ?_, fun y hy => ?_⟩
  · unfold stSet
    by_cases e : y = x
    · rw [e, if_pos rfl, if_pos rfl]
    · rw [if_neg e, if_neg (fun z => e (k.inj y x hy h z)), r.eq y hy]
  · unfold stSet
    rw [if_neg (fun z => by rw [z, (k.cno x h).1] at hy; cases hy), r.c1 y hy]
  · unfold stSet
    rw [if_neg (fun z => by rw [z, (k.rno x h).1] at hy; cases hy), r.c2 y hy]
theorem set_fl (k : TnOk τ Rg) {f : Str} (hf : τ.flag = some f) {x : Str} (h : Rg.contains x = true) {v : Int} : stSet σ (τ.nm x) v f = σ f := by
  unfold stSet
  rw [if_neg (fun z => (k.flg f hf).2.2.2 x h z.symm)]
/-- other names -/
def Oth (τ : Tn) (Rg : List Str) (y : Str) : Prop := (∀ x, Rg.contains x = true → y ≠ τ.nm x) ∧ τ.flag ≠ some y
theorem all_cons (k : Nat) (s : Stm) (r : List Stm) : τ.all (k + 1) (s :: r) = match s with
    | .leave => [.put (τ.flag.getD "") "a"]
    | .ite t a b => if (Stm.ite t a b).nL = 0 then τ.one (τ.all k) (.ite t a b) :: τ.all (k + 1) r else [τ.one (τ.all k) (.ite t (a ++ r) (b ++ r))]
    | s => τ.one (τ.all k) s :: τ.all (k + 1) r := by
  show τ.all' (τ.all k) (s :: r) = _
  unfold Tn.all'
  cases s <;> rfl
theorem all_nil (k : Nat) : τ.all k [] = [] := by
  cases k <;> rfl
theorem all_app {k : Nat} : ∀ {a : List Stm} (r : List Stm), nLs a = 0 → τ.all (k + 1) (a ++ r) = τ.all (k + 1) a ++ τ.all (k + 1) r
  | [], r, _ => by rw [List.nil_append, all_nil, List.nil_append]
  | s :: a, r, h => by
    rw [nLs_cons] at h
    have h1 : s.nL = 0 := by omega
    have h2 : nLs a = 0 := by omega
    rw [List.cons_append, all_cons, all_cons, all_app r h2]
    cases s with
    | leave => simp [Stm.nL] at h1
    | put x y => rfl
    | call x f ys => rfl
    | act x d ys => rfl
    | ite t p q =>
      show (if _ then _ else _) = (if _ then _ else _) ++ _
      rw [if_pos h1, if_pos h1, List.cons_append]
theorem all_stable : ∀ {k : Nat} {ss : List Stm}, nIs ss < k → τ.all k ss = τ.all (k + 1) ss
  | 0, _, h => absurd h (Nat.not_lt_zero _)
  | k + 1, [], _ => by rw [all_nil, all_nil]
  | k + 1, s :: r, h => by
    rw [nIs_cons] at h
    have ih : τ.all (k + 1) r = τ.all (k + 2) r := all_stable (k := k + 1) (ss := r) (by omega)
    rw [all_cons, all_cons, ih]
    cases s with
    | leave => rfl
    | put x y => rfl
    | call x f ys => rfl
    | act x d ys => rfl
    | ite t p q =>
      rw [nI_ite] at h
      show (if _ then _ else _) = (if _ then _ else _)
      have e1 : ∀ x : List Stm, nIs x < k → τ.all k x = τ.all (k + 1) x := fun x hx => all_stable hx
      have e : ∀ x y : List Stm, nIs x < k → nIs y < k → τ.one (τ.all k) (.ite t x y) = τ.one (τ.all (k + 1)) (.ite t x y) := fun x y hx hy => by
        show Stm.ite _ (τ.all k x) (τ.all k y) = Stm.ite _ (τ.all (k + 1) x) (τ.all (k + 1) y)
        rw [e1 x hx, e1 y hy]
      split
      · rw [e p q (by omega) (by omega)]
      · rw [e (p ++ r) (q ++ r) (by rw [nIs_app]; omega) (by rw [nIs_app]; omega)]
termination_by k ss => (k, ss.length)
/-- the turned statements do what the statements do, and then what follows -/
theorem sim (hT : ∀ x, consts.contains x = false → T.cst x = none) (hA : (T.cst "a").isSome = true) (k : TnOk τ Rg) : ∀ (n kk : Nat) (ss : List Stm) (st : Sto) (ds : List Deed) (st' : Sto) (ds' : List Deed) (b : Bool), nIs ss < kk → nmdL Rg ss = true →
    (nLs ss = 0 ∨ ∃ f, τ.flag = some f) → run T it res n ss st ds = some (st', ds', b) → ∀ σ, Rel τ Rg σ st →
    ∃ c σ', c ≤ n ∧ (∀ N rest, run T it res (N + c) (τ.all kk ss ++ rest) σ ds = run T it res N rest σ' ds') ∧ Rel τ Rg σ' st' ∧ (∀ y, Oth τ Rg y → σ' y = σ y) ∧ (∀ f, τ.flag = some f → σ' f = if b = true then T.cst "a" else σ f) ∧ (b = true → nLs ss ≠ 0)
  | 0, _, _, _, _, _, _, _, _, _, _, h, _, _ => by rw [run] at h; cases h
  | n + 1, 0, _, _, _, _, _, _, h, _, _, _, _, _ => absurd h (Nat.not_lt_zero _)
  | n + 1, kk + 1, [], st, ds, st', ds', b, _, _, _, h, σ, r => by
    rw [run_nil] at h
    cases h
    refine ⟨0, σ, Nat.zero_le _, fun N rest => ?_, r, fun _ _ => rfl, fun f _ => by rw [if_neg Bool.false_ne_true], fun z => by cases z⟩
    rw [all_nil, List.nil_append]
    rfl
  | n + 1, kk + 1, s :: r, st, ds, st', ds', b, hi, hn, hl, h, σ, R => by
    rw [nmdL_cons, Bool.and_eq_true] at hn
    have hi0 := hi
    rw [nIs_cons] at hi
    have hl' : nLs r = 0 ∨ ∃ f, τ.flag = some f := hl.imp_left fun z => by rw [nLs_cons] at z; omega
    cases s with
    | leave =>
      rw [run_leave] at h
      cases h
      obtain ⟨f, hf⟩ : ∃ f, τ.flag = some f := by
        rcases hl with z | z
        · rw [nLs_cons] at z
          simp [Stm.nL] at z
        · exact z
      obtain ⟨va, ha⟩ := Option.isSome_iff_exists.mp hA
      obtain ⟨g1, g2, g3, g4⟩ := k.flg f hf
      refine ⟨1, stSet σ f va, by omega, fun N rest => ?_, ⟨fun x hx => ?_, fun x hx => ?_, R.c2⟩, fun y hy => ?_, fun f' hf' => ?_, fun _ => ?_⟩
      · have e : τ.all (kk + 1) (.leave :: r) = [.put f "a"] := by rw [all_cons, hf]; rfl
        rw [e, List.singleton_append, run_put]
        have e2 : ev T it σ "a" = some va := by
          unfold ev
          rw [if_neg (by decide +kernel), R.c1 "a" (by decide +kernel)]
          exact ha
        rw [e2, Option.bind_some]
      · unfold stSet
        rw [if_neg (g4 x hx), R.eq x hx]
      · unfold stSet
        rw [if_neg (fun z => by rw [z, g1] at hx; cases hx), R.c1 x hx]
      · unfold stSet
        rw [if_neg (fun z => hy.2 (by rw [hf, z]))]
      · rw [hf] at hf'
        cases hf'
        unfold stSet
        rw [if_pos rfl, if_pos rfl, ha]
      · rw [nLs_cons]
        simp [Stm.nL]
    | put x y =>
      have hn1 : (Rg.contains x && srcIn Rg y) = true := by rw [← hn.1, Stm.nmd]
      rw [Bool.and_eq_true] at hn1
      rw [run_put] at h
      obtain ⟨v, e1, h⟩ := Option.bind_eq_some_iff.mp h
      obtain ⟨c, σ', hc, e2, R', o', f', b'⟩ := sim hT hA k n (kk + 1) r (stSet st x v) ds st' ds' b (by omega) hn.2 hl' h _ (rel_set k R hn1.1 v)
      refine ⟨c + 1, σ', by omega, fun N rest => ?_, R', fun z hz => ?_, fun f hf => ?_, fun z => by rw [nLs_cons]; have := b' z; omega⟩
      · rw [all_cons]
        show run T it res (N + c + 1) (.put (τ.nm x) (τ.nm y) :: (τ.all (kk + 1) r ++ rest)) σ ds = _
        rw [run_put, ev_tn hT k R hn1.2, e1, Option.bind_some]
        exact e2 N rest
      · rw [o' z hz]
        unfold stSet
        rw [if_neg (hz.1 x hn1.1)]
      · rw [f' f hf, set_fl k hf hn1.1]
    | call x g ys =>
      have hn1 : (Rg.contains x && ys.all (srcIn Rg)) = true := by rw [← hn.1, Stm.nmd]
      rw [Bool.and_eq_true] at hn1
      rw [run_call] at h
      obtain ⟨vs, e0, h⟩ := Option.bind_eq_some_iff.mp h
      obtain ⟨v, e1, h⟩ := Option.bind_eq_some_iff.mp h
      obtain ⟨c, σ', hc, e2, R', o', f', b'⟩ := sim hT hA k n (kk + 1) r (stSet st x v) ds st' ds' b (by omega) hn.2 hl' h _ (rel_set k R hn1.1 v)
      refine ⟨c + 1, σ', by omega, fun N rest => ?_, R', fun z hz => ?_, fun f hf => ?_, fun z => by rw [nLs_cons]; have := b' z; omega⟩
      · rw [all_cons]
        show run T it res (N + c + 1) (.call (τ.nm x) g (ys.map τ.nm) :: (τ.all (kk + 1) r ++ rest)) σ ds = _
        rw [run_call, evs_tn hT k R hn1.2, e0, Option.bind_some, e1, Option.bind_some]
        exact e2 N rest
      · rw [o' z hz]
        unfold stSet
        rw [if_neg (hz.1 x hn1.1)]
      · rw [f' f hf, set_fl k hf hn1.1]
    | act x d ys =>
      cases x with
      | none =>
        have hn1 : (ys.all (srcIn Rg)) = true := by rw [← hn.1, Stm.nmd]
        rw [run_act] at h
        obtain ⟨vs, e0, h⟩ := Option.bind_eq_some_iff.mp h
        obtain ⟨c, σ', hc, e2, R', o', f', b'⟩ := sim hT hA k n (kk + 1) r st (ds ++ [(d, vs)]) st' ds' b (by omega) hn.2 hl' h _ R
        refine ⟨c + 1, σ', by omega, fun N rest => ?_, R', o', f', fun z => by rw [nLs_cons]; have := b' z; omega⟩
        rw [all_cons]
        show run T it res (N + c + 1) (.act none d (ys.map τ.nm) :: (τ.all (kk + 1) r ++ rest)) σ ds = _
        rw [run_act, evs_tn hT k R hn1, e0, Option.bind_some]
        exact e2 N rest
      | some x =>
        have hn1 : (Rg.contains x && ys.all (srcIn Rg)) = true := by rw [← hn.1, Stm.nmd]
        rw [Bool.and_eq_true] at hn1
        rw [run_actS] at h
        obtain ⟨vs, e0, h⟩ := Option.bind_eq_some_iff.mp h
        obtain ⟨c, σ', hc, e2, R', o', f', b'⟩ := sim hT hA k n (kk + 1) r (stSet st x (res.getD ds.length 0)) (ds ++ [(d, vs)]) st' ds' b (by omega) hn.2 hl' h _ (rel_set k R hn1.1 _)
        refine ⟨c + 1, σ', by omega, fun N rest => ?_, R', fun z hz => ?_, fun f hf => ?_, fun z => by rw [nLs_cons]; have := b' z; omega⟩
        · rw [all_cons]
          show run T it res (N + c + 1) (.act (some (τ.nm x)) d (ys.map τ.nm) :: (τ.all (kk + 1) r ++ rest)) σ ds = _
          rw [run_actS, evs_tn hT k R hn1.2, e0, Option.bind_some]
          exact e2 N rest
        · rw [o' z hz]
          unfold stSet
          rw [if_neg (hz.1 x hn1.1)]
        · rw [f' f hf, set_fl k hf hn1.1]
    | ite t p q =>
      have hn1 : (tstIn Rg t && (nmdL Rg p && nmdL Rg q)) = true := by rw [← nmd_ite, hn.1]
      rw [Bool.and_eq_true, Bool.and_eq_true] at hn1
      rw [nI_ite] at hi
      rw [run_ite] at h
      obtain ⟨v, e1, h⟩ := Option.bind_eq_some_iff.mp h
      have nl : ∀ x : List Stm, nLs x ≤ nLs p + nLs q → (nLs (x ++ r) = 0 ∨ ∃ f, τ.flag = some f) := fun x hx => hl.imp_left fun z => by
        rw [nLs_cons, nL_ite] at z
        rw [nLs_app]
        omega
      have br : ∃ X : List Stm, (if v = true then p else q) = X ∧ nIs X ≤ nIs p + nIs q ∧ nLs X ≤ nLs p + nLs q ∧ nmdL Rg X = true := by
        cases v with
        | true => exact ⟨p, rfl, Nat.le_add_right _ _, Nat.le_add_right _ _, hn1.2.1⟩
        | false => exact ⟨q, rfl, Nat.le_add_left _ _, Nat.le_add_left _ _, hn1.2.2⟩
      obtain ⟨X, eX, iX, lX, nX⟩ := br
      rw [eX] at h
      obtain ⟨c, σ', hc, e2, R', o', f', b'⟩ := sim hT hA k n (kk + 1) (X ++ r) st ds st' ds' b (by rw [nIs_app]; omega) (by rw [nmdL_app, nX, hn.2]; rfl) (nl X lX) h _ R
      refine ⟨c + 1, σ', by omega, fun N rest => ?_, R', o', f', fun z => ?_⟩
      · have st2 : ∀ x : List Stm, nIs x < kk → τ.all kk x = τ.all (kk + 1) x := fun x hx => all_stable hx
        rw [all_cons]
        show run T it res (N + c + 1) ((if _ then _ else _) ++ rest) σ ds = _
        by_cases z : (Stm.ite t p q).nL = 0
        · rw [if_pos z]
          show run T it res (N + c + 1) (.ite (τ.tst t) (τ.all kk p) (τ.all kk q) :: (τ.all (kk + 1) r ++ rest)) σ ds = _
          rw [run_ite, tst_tn hT k R hn1.1, e1, Option.bind_some, ← e2 N rest]
          have e3 : (if v = true then τ.all kk p else τ.all kk q) = τ.all kk X := by
            rw [← eX]
            cases v <;> rfl
          rw [nL_ite] at z
          rw [e3, st2 X (by omega), all_app r (by omega), List.append_assoc]
        · rw [if_neg z]
          show run T it res (N + c + 1) (.ite (τ.tst t) (τ.all kk (p ++ r)) (τ.all kk (q ++ r)) :: rest) σ ds = _
          rw [run_ite, tst_tn hT k R hn1.1, e1, Option.bind_some, ← e2 N rest]
          have e3 : (if v = true then τ.all kk (p ++ r) else τ.all kk (q ++ r)) = τ.all kk (X ++ r) := by
            rw [← eX]
            cases v <;> rfl
          rw [e3, st2 (X ++ r) (by rw [nIs_app]; omega)]
      · have := b' z
        rw [nLs_app] at this
        rw [nLs_cons, nL_ite]
        omega
end
end K21
set_option Elab.async false
set_option linter.all false
set_option maxRecDepth 100000
set_option maxHeartbeats 4000000
namespace K21
open PySem
section
variable {τ : Tn} {Rg : List Str} {turn : Bool}
theorem src_tn (k : TnOk τ Rg) {l P : List Str} (hp : ∀ x ∈ l, τ.nm x ∈ P) {y : Str} (h : srcIn Rg y = true) (g : srcOk turn (some l) y = true) : srcOk turn (some P) (τ.nm y) = true := by
  unfold srcIn at h
  rw [Bool.or_eq_true, Bool.or_eq_true] at h
  unfold srcOk at g ⊢
  by_cases c : y = "item"
  · rw [if_pos c] at g
    rw [c, nm_item, if_pos rfl]
    exact g
  · rw [if_neg c] at g
    rcases h with h | h | h
    · exact absurd (of_decide_eq_true h) c
    · rw [k.cst y h, if_neg c, if_pos h]
    · rw [if_neg (by rw [(k.rno y h).1]; exact Bool.false_ne_true), Bool.and_eq_true] at g
      rw [if_neg (k.cno y h).2, if_neg (by rw [(k.cno y h).1]; exact Bool.false_ne_true), Bool.and_eq_true]
      exact ⟨k.reg y h, List.contains_iff_mem.mpr (hp y (List.contains_iff_mem.mp g.2))⟩
theorem srcs_tn (k : TnOk τ Rg) {l P : List Str} (hp : ∀ x ∈ l, τ.nm x ∈ P) {ys : List Str} (h : ys.all (srcIn Rg) = true) (g : ys.all (srcOk turn (some l)) = true) : (ys.map τ.nm).all (srcOk turn (some P)) = true := by
  rw [List.all_eq_true] at h g ⊢
  intro x hx
  obtain ⟨y, hy, rfl⟩ := List.mem_map.mp hx
  exact src_tn k hp (h y hy) (g y hy)
theorem tstOk_tn (k : TnOk τ Rg) {l P : List Str} (hp : ∀ x ∈ l, τ.nm x ∈ P) : ∀ {t : Tst}, tstIn Rg t = true → tstOk turn (some l) t = true → tstOk turn (some P) (τ.tst t) = true
  | .same y z, h, g => by
    unfold tstIn at h
    unfold tstOk at g
    rw [Bool.and_eq_true] at h g
    show (srcOk turn (some P) (τ.nm y) && srcOk turn (some P) (τ.nm z)) = true
    rw [src_tn k hp h.1 g.1, src_tn k hp h.2 g.2]
    rfl
  | .ask f ys, h, g => by
    unfold tstIn at h
    unfold tstOk at g
    rw [Bool.and_eq_true] at g
    show (decide (ariT f = some (ys.map τ.nm).length) && (ys.map τ.nm).all (srcOk turn (some P))) = true
    rw [List.length_map, g.1, srcs_tn k hp h g.2]
    rfl
theorem chk_tn (k : TnOk τ Rg) : ∀ {kk : Nat} {ss : List Stm} {l : List Str} {q : Put} {P : List Str}, nIs ss < kk → nmdL Rg ss = true → (nLs ss = 0 ∨ ∃ f, τ.flag = some f) → chkL turn ss (some l) = some q → (∀ x ∈ l, τ.nm x ∈ P) →
    ∃ Q, chkL turn (τ.all kk ss) (some P) = some (some Q) ∧ (∀ x ∈ P, x ∈ Q) ∧ (nLs ss = 0 → ∃ l', q = some l' ∧ ∀ x ∈ l', τ.nm x ∈ Q)
  | 0, _, _, _, _, h, _, _, _, _ => absurd h (Nat.not_lt_zero _)
  | kk + 1, [], l, q, P, _, _, _, h, hp => by
    rw [chkL] at h
    refine ⟨P, by rw [all_nil, chkL], fun _ h => h, fun _ => ⟨l, (Option.some.inj h).symm, hp⟩⟩
  | kk + 1, s :: r, l, q, P, hi, hn, hl, h, hp => by
    rw [nmdL_cons, Bool.and_eq_true] at hn
    rw [nIs_cons] at hi
    have hl' : nLs r = 0 ∨ ∃ f, τ.flag = some f := hl.imp_left fun z => by rw [nLs_cons] at z; omega
    -- a statement that puts x, and the rest
    have plain : ∀ (s' : Stm) (x : Str), τ.all (kk + 1) (s :: r) = s' :: τ.all (kk + 1) r → Rg.contains x = true → s.nL = 0 → chkS turn s (some l) = some (addPut x (some l)) → chkS turn s' (some P) = some (addPut (τ.nm x) (some P)) →
        ∃ Q, chkL turn (τ.all (kk + 1) (s :: r)) (some P) = some (some Q) ∧ (∀ x ∈ P, x ∈ Q) ∧ (nLs (s :: r) = 0 → ∃ l', q = some l' ∧ ∀ x ∈ l', τ.nm x ∈ Q) := fun s' x e hx hs h1 h2 => by
      rw [chkL_cons, h1, Option.bind_some] at h
      obtain ⟨l2, a1, a2, a3, a4⟩ := mem_addPut (x := x) (l := l)
      obtain ⟨P2, b1, b2, b3, b4⟩ := mem_addPut (x := τ.nm x) (l := P)
      rw [a1] at h
      obtain ⟨Q, c1, c2, c3⟩ := chk_tn k (kk := kk + 1) (ss := r) (l := l2) (P := P2) (by omega) hn.2 hl' h (fun y hy => by
        rcases a4 y hy with z | z
        · rw [z]
          exact b3
        · exact b2 _ (hp y z))
      refine ⟨Q, by rw [e, chkL_cons, h2, b1, Option.bind_some]; exact c1, fun y hy => c2 y (b2 y hy), fun z => c3 (by rw [nLs_cons] at z; omega)⟩
    cases s with
    | leave =>
      obtain ⟨f, hf⟩ : ∃ f, τ.flag = some f := by
        rcases hl with z | z
        · rw [nLs_cons] at z
          simp [Stm.nL] at z
        · exact z
      obtain ⟨g1, g2, g3, g4⟩ := k.flg f hf
      obtain ⟨P2, b1, b2, b3, b4⟩ := mem_addPut (x := f) (l := P)
      refine ⟨P2, ?_, b2, fun z => ?_⟩
      · have e : τ.all (kk + 1) (.leave :: r) = [.put f "a"] := by rw [all_cons, hf]; rfl
        have e2 : chkS turn (.put f "a") (some P) = some (addPut f (some P)) := by
          rw [chkS]
          have e3 : srcOk turn (some P) "a" = true := by
            unfold srcOk
            rw [if_neg (by decide +kernel), if_pos (by decide +kernel)]
          rw [g3, e3]
          rfl
        rw [e, chkL_cons, e2, b1, Option.bind_some, chkL]
      · rw [nLs_cons] at z
        simp [Stm.nL] at z
    | put x y =>
      have hn1 : (Rg.contains x && srcIn Rg y) = true := by rw [← hn.1, Stm.nmd]
      rw [Bool.and_eq_true] at hn1
      have h0 := h
      rw [chkL_cons] at h0
      obtain ⟨q1, h1, _⟩ := Option.bind_eq_some_iff.mp h0
      have h1' := h1
      rw [chkS] at h1'
      split at h1'
      · rename_i c
        rw [Bool.and_eq_true] at c
        refine plain (.put (τ.nm x) (τ.nm y)) x (by rw [all_cons]; rfl) hn1.1 (by simp [Stm.nL]) (by rw [h1, ← h1']) ?_
        rw [chkS, k.reg x hn1.1, src_tn k hp hn1.2 c.2]
        rfl
      · cases h1'
    | call x f ys =>
      have hn1 : (Rg.contains x && ys.all (srcIn Rg)) = true := by rw [← hn.1, Stm.nmd]
      rw [Bool.and_eq_true] at hn1
      have h0 := h
      rw [chkL_cons] at h0
      obtain ⟨q1, h1, _⟩ := Option.bind_eq_some_iff.mp h0
      have h1' := h1
      rw [chkS] at h1'
      split at h1'
      · rename_i c
        rw [Bool.and_eq_true, Bool.and_eq_true] at c
        refine plain (.call (τ.nm x) f (ys.map τ.nm)) x (by rw [all_cons]; rfl) hn1.1 (by simp [Stm.nL]) (by rw [h1, ← h1']) ?_
        rw [chkS, k.reg x hn1.1, srcs_tn k hp hn1.2 c.2.2, List.length_map, c.2.1]
        rfl
      · cases h1'
    | act x d ys =>
      cases x with
      | none =>
        have hn1 : (ys.all (srcIn Rg)) = true := by rw [← hn.1, Stm.nmd]
        rw [chkL_cons] at h
        obtain ⟨q1, h1, h2⟩ := Option.bind_eq_some_iff.mp h
        rw [chkS] at h1
        split at h1
        · rename_i c
          rw [Bool.and_eq_true] at c
          rw [← Option.some.inj h1] at h2
          obtain ⟨Q, c1, c2, c3⟩ := chk_tn k (kk := kk + 1) (ss := r) (l := l) (P := P) (by omega) hn.2 hl' h2 hp
          refine ⟨Q, ?_, c2, fun z => c3 (by rw [nLs_cons] at z; omega)⟩
          rw [all_cons]
          show chkL turn (.act none d (ys.map τ.nm) :: τ.all (kk + 1) r) (some P) = _
          rw [chkL_cons, chkS, srcs_tn k hp hn1 c.2, List.length_map, c.1]
          exact c1
        · cases h1
      | some x =>
        have hn1 : (Rg.contains x && ys.all (srcIn Rg)) = true := by rw [← hn.1, Stm.nmd]
        rw [Bool.and_eq_true] at hn1
        have h0 := h
        rw [chkL_cons] at h0
        obtain ⟨q1, h1, _⟩ := Option.bind_eq_some_iff.mp h0
        have h1' := h1
        rw [chkS] at h1'
        split at h1'
        · rename_i c
          rw [Bool.and_eq_true, Bool.and_eq_true] at c
          refine plain (.act (some (τ.nm x)) d (ys.map τ.nm)) x (by rw [all_cons]; rfl) hn1.1 (by simp [Stm.nL]) (by rw [h1, ← h1']) ?_
          rw [chkS, k.reg x hn1.1, srcs_tn k hp hn1.2 c.2.2, List.length_map, c.2.1]
          rfl
        · cases h1'
    | ite t a b =>
      have hn1 : (tstIn Rg t && (nmdL Rg a && nmdL Rg b)) = true := by rw [← nmd_ite, hn.1]
      rw [Bool.and_eq_true, Bool.and_eq_true] at hn1
      rw [nI_ite] at hi
      by_cases z : (Stm.ite t a b).nL = 0
      · have zz := z
        rw [nL_ite] at zz
        rw [chkL_cons] at h
        obtain ⟨q1, h1, h2⟩ := Option.bind_eq_some_iff.mp h
        rw [chkS] at h1
        split at h1
        · rename_i c
          obtain ⟨qa, ha, h1⟩ := Option.bind_eq_some_iff.mp h1
          obtain ⟨qb, hb, h1⟩ := Option.bind_eq_some_iff.mp h1
          obtain ⟨Qa, a1, a2, a3⟩ := chk_tn k (kk := kk) (ss := a) (l := l) (P := P) (by omega) hn1.2.1 (.inl (by omega)) ha hp
          obtain ⟨Qb, b1, b2, b3⟩ := chk_tn k (kk := kk) (ss := b) (l := l) (P := P) (by omega) hn1.2.2 (.inl (by omega)) hb hp
          obtain ⟨la, ea, ma⟩ := a3 (by omega)
          obtain ⟨lb, eb, mb⟩ := b3 (by omega)
          have em : meet qa qb = q1 := Option.some.inj h1
          rw [ea, eb] at em
          rw [← em] at h2
          obtain ⟨Q, c1, c2, c3⟩ := chk_tn k (kk := kk + 1) (ss := r) (l := la.filter lb.contains) (P := Qa.filter Qb.contains) (by omega) hn.2 hl' h2 (fun x hx => by
            obtain ⟨x1, x2⟩ := mem_meet.mp hx
            exact mem_meet.mpr ⟨ma x x1, mb x x2⟩)
          refine ⟨Q, ?_, fun x hx => c2 x (mem_meet.mpr ⟨a2 x hx, b2 x hx⟩), fun w => c3 (by rw [nLs_cons] at w; omega)⟩
          rw [all_cons]
          show chkL turn (if _ then _ else _) (some P) = _
          rw [if_pos z]
          show chkL turn (.ite (τ.tst t) (τ.all kk a) (τ.all kk b) :: τ.all (kk + 1) r) (some P) = _
          rw [chkL_cons, chkS, tstOk_tn k hp hn1.1 c, a1, b1]
          exact c1
        · cases h1
      · obtain ⟨c, ⟨qa, ha, _⟩, qb, hb, _⟩ := chk_branch h
        have fl : ∃ f, τ.flag = some f := by
          rcases hl with w | w
          · rw [nLs_cons] at w
            omega
          · exact w
        obtain ⟨Qa, a1, a2, a3⟩ := chk_tn k (kk := kk) (ss := a ++ r) (l := l) (P := P) (by rw [nIs_app]; omega) (by rw [nmdL_app, hn1.2.1, hn.2]; rfl) (.inr fl) ha hp
        obtain ⟨Qb, b1, b2, b3⟩ := chk_tn k (kk := kk) (ss := b ++ r) (l := l) (P := P) (by rw [nIs_app]; omega) (by rw [nmdL_app, hn1.2.2, hn.2]; rfl) (.inr fl) hb hp
        refine ⟨Qa.filter Qb.contains, ?_, fun x hx => mem_meet.mpr ⟨a2 x hx, b2 x hx⟩, fun w => by rw [nLs_cons] at w; omega⟩
        rw [all_cons]
        show chkL turn (if _ then _ else _) (some P) = _
        rw [if_neg z]
        show chkL turn [.ite (τ.tst t) (τ.all kk (a ++ r)) (τ.all kk (b ++ r))] (some P) = _
        rw [chkL_cons, chkS, tstOk_tn k hp hn1.1 c, a1, b1]
        show (some (meet (some Qa) (some Qb))).bind (fun q => chkL turn [] q) = _
        rw [Option.bind_some, chkL]
        rfl
termination_by kk ss => (kk, ss.length)
theorem nLs_all : ∀ {kk : Nat} {ss : List Stm}, nIs ss < kk → nLs (τ.all kk ss) = 0
  | 0, _, h => absurd h (Nat.not_lt_zero _)
  | kk + 1, [], _ => by rw [all_nil, nLs]
  | kk + 1, s :: r, h => by
    rw [nIs_cons] at h
    have ih := nLs_all (kk := kk + 1) (ss := r) (by omega)
    rw [all_cons]
    cases s with
    | leave =>
      show nLs [Stm.put _ _] = 0
      rw [nLs_cons, nLs]; simp [Stm.nL]
    | put x y =>
      show nLs (Stm.put _ _ :: τ.all (kk + 1) r) = 0
      rw [nLs_cons, ih]; simp [Stm.nL]
    | call x f ys =>
      show nLs (Stm.call _ _ _ :: τ.all (kk + 1) r) = 0
      rw [nLs_cons, ih]; simp [Stm.nL]
    | act x d ys =>
      show nLs (Stm.act _ _ _ :: τ.all (kk + 1) r) = 0
      rw [nLs_cons, ih]
      simp [Stm.nL]
    | ite t a b =>
      rw [nI_ite] at h
      show nLs (if _ then _ else _) = 0
      split
      · show nLs (Stm.ite _ (τ.all kk a) (τ.all kk b) :: τ.all (kk + 1) r) = 0
        rw [nLs_cons, ih, nL_ite, nLs_all (by omega), nLs_all (by omega)]
      · show nLs [Stm.ite _ (τ.all kk (a ++ r)) (τ.all kk (b ++ r))] = 0
        rw [nLs_cons, nL_ite, nLs_all (by rw [nIs_app]; omega), nLs_all (by rw [nIs_app]; omega), nLs]
termination_by kk ss => (kk, ss.length)
mutual
theorem Stm.lst_of : ∀ s : Stm, s.nL = 0 → s.lst = true
  | .put _ _, _ => by simp [Stm.lst]
  | .call _ _ _, _ => by simp [Stm.lst]
  | .act _ _ _, _ => by simp [Stm.lst]
  | .leave, h => by simp [Stm.nL] at h
  | .ite t a b, h => by
    rw [nL_ite] at h
    rw [Stm.lst, lstL_of a (by omega), lstL_of b (by omega)]
    rfl
theorem lstL_of : ∀ ss : List Stm, nLs ss = 0 → lstL ss = true
  | [], _ => by simp [lstL]
  | s :: r, h => by
    rw [nLs_cons] at h
    have h1 := Stm.lst_of s (by omega)
    have h2 := lstL_of r (by omega)
    have e : lstL (s :: r) = ((match s with | .leave => r.isEmpty | _ => true) && (s.lst && lstL r)) := by simp only [lstL]; cases s <;> rfl
    rw [e, h1, h2]
    cases s with
    | leave => simp [Stm.nL] at h
    | _ => rfl
end
end
end K21
set_option Elab.async false
set_option linter.all false
set_option maxRecDepth 100000
set_option maxHeartbeats 4000000
namespace K21
open PySem
/-! ### loops, sections, runs -/
structure Lp where
  start : List Stm
  turn : List Stm
  fin : List Stm
def rs2 : List Str := ["r", "s"]
def rs3 : List Str := ["r", "s", "t"]
structure LpOk (L : Lp) (Rg : List Str) : Prop where
  rg : Rg = rs2 ∨ Rg = rs3
  regs : regsL L.fin (regsL L.turn (regsL L.start [])) = Rg
  chk : ∃ p0 q1 q2, chkL false L.start (some []) = some (some p0) ∧ chkL true L.turn (some p0) = some q1 ∧ chkL false L.fin (some p0) = some q2
  lst : lstL L.start = true ∧ lstL L.turn = true ∧ lstL L.fin = true
  nmd : nmdL Rg L.start = true ∧ nmdL Rg L.turn = true ∧ nmdL Rg L.fin = true
  small : wts L.start ≤ 45 ∧ wts L.turn ≤ 45 ∧ wts L.fin ≤ 45
  ifs : nIs L.start < 20 ∧ nIs L.turn < 20 ∧ nIs L.fin < 20
  noL : nLs L.start = 0 ∧ nLs L.fin = 0
inductive Sec where
  | start
  | turn (i : Int)
  | fin
/-- a section of one loop: l tells whether it has left -/
def Part (B : Nat) (T : Tab) (L : Lp) (sec : Sec) (res : List Int) (st : Sto) (l : Bool) (ds : List Deed) (st' : Sto) (l' : Bool) (ds' : List Deed) : Prop :=
  match sec with
  | .start => ∃ n b, n ≤ B ∧ run T none res n L.start st ds = some (st', ds', b) ∧ l' = b
  | .turn i => (l = true ∧ st' = st ∧ l' = true ∧ ds' = ds) ∨ (l = false ∧ ∃ n, n ≤ B ∧ run T (some i) res n L.turn st ds = some (st', ds', l'))
  | .fin => ∃ n b, n ≤ B ∧ run T none res n L.fin st ds = some (st', ds', b)
structure JS where
  s1 : Sto
  s2 : Sto
  l1 : Bool
  l2 : Bool
def JStep (T : Tab) (L1 L2 : Lp) (sec : Sec) (res : List Int) (S S' : JS) (ds : List Deed) : Prop :=
  ∃ d, Part 46 T L1 sec res S.s1 S.l1 [] S'.s1 S'.l1 d ∧ Part 46 T L2 sec res S.s2 S.l2 d S'.s2 S'.l2 ds
def JRun (T : Tab) (L1 L2 : Lp) : List (Sec × List Int) → JS → List (List Deed) → Prop
  | [], _, outs => outs = []
  | x :: r, S, outs => ∃ S' ds rest, JStep T L1 L2 x.1 x.2 S S' ds ∧ outs = ds :: rest ∧ JRun T L1 L2 r S' rest
def SRun (T : Tab) (L : Lp) : List (Sec × List Int) → Sto → Bool → List (List Deed) → Prop
  | [], _, _, outs => outs = []
  | x :: r, st, l, outs => ∃ st' l' ds rest, Part 200 T L x.1 x.2 st l [] st' l' ds ∧ outs = ds :: rest ∧ SRun T L r st' l' rest
/-! ### the loop beside -/
def spares : List Str := ["pa", "pb", "pc", "pd", "pe"]
def flagOf (L : Lp) (f : Str) : Option Str := if nLs L.turn = 0 then none else some f
def tn1 (L1 : Lp) (R2 : List Str) : Tn := ⟨[], flagOf L1 (spares.getD R2.length "")⟩
def tn2 (L2 : Lp) (R2 : List Str) : Tn := ⟨R2.zip spares, flagOf L2 (spares.getD (R2.length + 1) "")⟩
def raise (τ : Tn) : List Stm := match τ.flag with
  | none => []
  | some f => [.put f "b"]
def told (L1 L2 : Lp) (R2 : List Str) : Lp :=
  ⟨raise (tn1 L1 R2) ++ (raise (tn2 L2 R2) ++ ((tn1 L1 R2).all 20 L1.start ++ (tn2 L2 R2).all 20 L2.start)),
   (tn1 L1 R2).guard 20 L1.turn ++ (tn2 L2 R2).guard 20 L2.turn, (tn1 L1 R2).all 20 L1.fin ++ (tn2 L2 R2).all 20 L2.fin⟩
theorem mem_rs {x : Str} (h : (["r", "s"] : List Str).contains x = true) : x = "r" ∨ x = "s" := by
  simpa using List.contains_iff_mem.mp h
theorem mem_rst {x : Str} (h : (["r", "s", "t"] : List Str).contains x = true) : x = "r" ∨ x = "s" ∨ x = "t" := by
  simpa using List.contains_iff_mem.mp h
theorem mem_ab {x : Str} (h : consts.contains x = true) : x = "a" ∨ x = "b" := by
  have e : x ∈ (["a", "b"] : List Str) := List.contains_iff_mem.mp h
  simpa using e
/-- a look at all that TnOk says, for lists of names -/
def tnB (ren : List (Str × Str)) (f : Str) (Rg : List Str) : Bool :=
  (consts.all fun x => decide ((Tn.mk ren none).nm x = x)) &&
  ((Rg.all fun x => !consts.contains ((Tn.mk ren none).nm x) && (!decide ((Tn.mk ren none).nm x = "item") && (!consts.contains x && (!decide (x = "item") && (regOk ((Tn.mk ren none).nm x) && !decide ((Tn.mk ren none).nm x = f)))))) &&
  ((Rg.all fun x => Rg.all fun y => !decide ((Tn.mk ren none).nm x = (Tn.mk ren none).nm y) || decide (x = y)) && (!consts.contains f && (!decide (f = "item") && regOk f))))
theorem tn_of {ren : List (Str × Str)} {f : Str} {Rg : List Str} {fl : Option Str} (h : tnB ren f Rg = true) (hf : fl = none ∨ fl = some f) : TnOk ⟨ren, fl⟩ Rg := by
  unfold tnB at h
  simp only [Bool.and_eq_true, List.all_eq_true, decide_eq_true_eq, Bool.not_eq_true', decide_eq_false_iff_not, Bool.or_eq_true] at h
  obtain ⟨h1, h2, h3, h4, h5, h6⟩ := h
  have e : ∀ x, (Tn.mk ren fl).nm x = (Tn.mk ren none).nm x := fun _ => rfl
  refine ⟨fun x hx => h1 x (List.contains_iff_mem.mp hx), fun x hx => ?_, fun x hx => ?_, fun x y hx hy => ?_, fun x hx => ?_, fun g hg => ?_⟩
  · obtain ⟨a, b, _⟩ := h2 x (List.contains_iff_mem.mp hx)
    exact ⟨a, b⟩
  · obtain ⟨_, _, a, b, _⟩ := h2 x (List.contains_iff_mem.mp hx)
    exact ⟨a, b⟩
  · intro hxy
    rcases h3 x (List.contains_iff_mem.mp hx) y (List.contains_iff_mem.mp hy) with z | z
    · exact absurd hxy z
    · exact z
  · exact (h2 x (List.contains_iff_mem.mp hx)).2.2.2.2.1
  · rcases hf with z | z
    · rw [z] at hg
      cases hg
    · rw [z] at hg
      cases hg
      exact ⟨h4, h5, h6, fun x hx => (h2 x (List.contains_iff_mem.mp hx)).2.2.2.2.2⟩
section
variable {L1 L2 L : Lp} {R1 R2 Rg : List Str}
theorem flag_or (L : Lp) (f : Str) : flagOf L f = none ∨ flagOf L f = some f := by
  unfold flagOf
  split
  · exact .inl rfl
  · exact .inr rfl
theorem tn1_ok (h1 : R1 = rs2 ∨ R1 = rs3) (h2 : R2 = rs2 ∨ R2 = rs3) : TnOk (tn1 L1 R2) R1 := by
  refine tn_of (f := spares.getD R2.length "") ?_ (flag_or _ _)
  rcases h1 with e | e <;> rcases h2 with g | g <;> (rw [e, g]; decide +kernel)
theorem tn2_ok (h2 : R2 = rs2 ∨ R2 = rs3) : TnOk (tn2 L2 R2) R2 := by
  refine tn_of (f := spares.getD (R2.length + 1) "") ?_ (flag_or _ _)
  rcases h2 with g | g <;> (rw [g]; decide +kernel)
/-- the names of the one are other names for the other -/
def apB (R1 R2 : List Str) : Bool :=
  (R1.all fun x => R2.all fun y => !decide (x = (Tn.mk (R2.zip spares) none).nm y)) && ((R1.all fun x => !decide (x = spares.getD R2.length "") && !decide (x = spares.getD (R2.length + 1) "")) &&
  ((R2.all fun y => !decide ((Tn.mk (R2.zip spares) none).nm y = spares.getD R2.length "") && !decide ((Tn.mk (R2.zip spares) none).nm y = spares.getD (R2.length + 1) "")) && !decide (spares.getD R2.length "" = spares.getD (R2.length + 1) "")))
theorem nm1 (x : Str) : (tn1 L1 R2).nm x = x := by
  unfold Tn.nm
  split
  · rename_i e
    exact e.symm
  · rfl
theorem apart (h1 : R1 = rs2 ∨ R1 = rs3) (h2 : R2 = rs2 ∨ R2 = rs3) :
    (∀ x, R1.contains x = true → Oth (tn2 L2 R2) R2 ((tn1 L1 R2).nm x)) ∧ (∀ f, (tn1 L1 R2).flag = some f → Oth (tn2 L2 R2) R2 f) ∧ (∀ x, R2.contains x = true → Oth (tn1 L1 R2) R1 ((tn2 L2 R2).nm x)) ∧ (∀ f, (tn2 L2 R2).flag = some f → Oth (tn1 L1 R2) R1 f) := by
  have h : apB R1 R2 = true := by rcases h1 with e | e <;> rcases h2 with g | g <;> (rw [e, g]; decide +kernel)
  unfold apB at h
  simp only [Bool.and_eq_true, List.all_eq_true, decide_eq_true_eq, Bool.not_eq_true', decide_eq_false_iff_not] at h
  obtain ⟨a1, a2, a3, a4⟩ := h
  have e : ∀ x, (tn2 L2 R2).nm x = (Tn.mk (R2.zip spares) none).nm x := fun _ => rfl
  have f1 : ∀ f, (tn1 L1 R2).flag = some f → f = spares.getD R2.length "" := fun f hf => by
    rcases flag_or L1 (spares.getD R2.length "") with z | z
    · rw [show (tn1 L1 R2).flag = none from z] at hf
      cases hf
    · rw [show (tn1 L1 R2).flag = some _ from z] at hf
      exact (Option.some.inj hf).symm
  have f2 : ∀ f, (tn2 L2 R2).flag = some f → f = spares.getD (R2.length + 1) "" := fun f hf => by
    rcases flag_or L2 (spares.getD (R2.length + 1) "") with z | z
    · rw [show (tn2 L2 R2).flag = none from z] at hf
      cases hf
    · rw [show (tn2 L2 R2).flag = some _ from z] at hf
      exact (Option.some.inj hf).symm
  refine ⟨fun x hx => ⟨fun y hy => ?_, fun z => ?_⟩, fun f hf => ⟨fun y hy => ?_, fun z => ?_⟩, fun x hx => ⟨fun y hy => ?_, fun z => ?_⟩, fun f hf => ⟨fun y hy => ?_, fun z => ?_⟩⟩
  · rw [nm1, e]
    exact a1 x (List.contains_iff_mem.mp hx) y (List.contains_iff_mem.mp hy)
  · rw [nm1] at z
    exact (a2 x (List.contains_iff_mem.mp hx)).2 (f2 _ z)
  · rw [f1 f hf, e]
    exact fun q => (a3 y (List.contains_iff_mem.mp hy)).1 q.symm
  · exact a4 ((f1 f hf).symm.trans (f2 f z))
  · rw [nm1, e]
    exact fun q => a1 y (List.contains_iff_mem.mp hy) x (List.contains_iff_mem.mp hx) q.symm
  · rw [e] at z
    exact (a3 x (List.contains_iff_mem.mp hx)).1 (f1 _ z)
  · rw [f2 f hf, nm1]
    exact fun q => (a2 y (List.contains_iff_mem.mp hy)).2 q.symm
  · exact a4 ((f1 f z).symm.trans (f2 f hf))
end
end K21
set_option Elab.async false
set_option linter.all false
set_option maxRecDepth 100000
set_option maxHeartbeats 4000000
namespace K21
open PySem
section
variable {L1 L2 L : Lp} {R1 R2 Rg : List Str} {turn : Bool}
theorem chkL_nil {p : Put} : chkL turn [] p = some p := by rw [chkL]
theorem chk_raise {τ : Tn} (k : TnOk τ Rg) (P : List Str) : ∃ Q, chkL turn (raise τ) (some P) = some (some Q) ∧ (∀ x ∈ P, x ∈ Q) ∧ ∀ f, τ.flag = some f → f ∈ Q := by
  unfold raise
  cases hf : τ.flag with
  | none => exact ⟨P, chkL_nil, fun _ h => h, fun f z => by cases z⟩
  | some f =>
    obtain ⟨g1, g2, g3, g4⟩ := k.flg f hf
    obtain ⟨P2, b1, b2, b3, b4⟩ := mem_addPut (x := f) (l := P)
    refine ⟨P2, ?_, b2, fun f' z => by cases z; exact b3⟩
    have e3 : srcOk turn (some P) "b" = true := by
      unfold srcOk
      rw [if_neg (by decide +kernel), if_pos (by decide +kernel)]
    show chkL turn [.put f "b"] (some P) = _
    rw [chkL_cons, chkS, g3, e3]
    show (some (addPut f (some P))).bind _ = _
    rw [Option.bind_some, b1, chkL_nil]
theorem flag_has (L : Lp) (f : Str) : nLs L.turn = 0 ∨ ∃ g, flagOf L f = some g := by
  unfold flagOf
  split
  · rename_i h
    exact .inl h
  · exact .inr ⟨f, rfl⟩
theorem chk_guard {τ : Tn} (k : TnOk τ Rg) {ss : List Stm} {l : List Str} {q : Put} {P : List Str} (hi : nIs ss < 20) (hn : nmdL Rg ss = true) (hl : nLs ss = 0 ∨ ∃ f, τ.flag = some f) (h : chkL true ss (some l) = some q)
    (hp : ∀ x ∈ l, τ.nm x ∈ P) (hf : ∀ f, τ.flag = some f → f ∈ P) : ∃ Q, chkL true (τ.guard 20 ss) (some P) = some (some Q) ∧ ∀ x ∈ P, x ∈ Q := by
  obtain ⟨Q, c1, c2, _⟩ := chk_tn k hi hn hl h hp
  unfold Tn.guard
  cases e : τ.flag with
  | none => exact ⟨Q, c1, c2⟩
  | some f =>
    obtain ⟨g1, g2, g3, g4⟩ := k.flg f e
    dsimp only
    split
    · exact ⟨P, chkL_nil, fun _ h => h⟩
    · refine ⟨Q.filter P.contains, ?_, fun x hx => mem_meet.mpr ⟨c2 x hx, hx⟩⟩
      have e1 : srcOk true (some P) f = true := by
        unfold srcOk
        rw [if_neg g2, if_neg (by rw [g1]; exact Bool.false_ne_true), g3]
        exact List.contains_iff_mem.mpr (hf f e)
      have e2 : srcOk true (some P) "b" = true := by
        unfold srcOk
        rw [if_neg (by decide +kernel), if_pos (by decide +kernel)]
      rw [chkL_cons, chkS, tstOk, e1, e2, c1]
      show ((some (some Q)).bind fun q => (chkL true [] (some P)).bind fun q' => some (meet q q')).bind (fun q => chkL true [] q) = _
      rw [chkL_nil, Option.bind_some, Option.bind_some, Option.bind_some, chkL_nil]
      rfl
theorem nLs_guard {τ : Tn} {ss : List Stm} (hi : nIs ss < 20) : nLs (τ.guard 20 ss) = 0 := by
  unfold Tn.guard
  split
  · exact nLs_all hi
  · split
    · rw [nLs]
    · rw [nLs_cons, nL_ite, nLs_all hi, nLs]
theorem nLs_raise {τ : Tn} : nLs (raise τ) = 0 := by
  unfold raise
  split
  · rw [nLs]
  · rw [nLs_cons, nLs]
    simp [Stm.nL]
theorem told_noL (h1 : LpOk L1 R1) (h2 : LpOk L2 R2) : nLs (told L1 L2 R2).start = 0 ∧ nLs (told L1 L2 R2).turn = 0 ∧ nLs (told L1 L2 R2).fin = 0 := by
  refine ⟨?_, ?_, ?_⟩
  · show nLs (_ ++ (_ ++ (_ ++ _))) = 0
    rw [nLs_app, nLs_app, nLs_app, nLs_raise, nLs_raise, nLs_all h1.ifs.1, nLs_all h2.ifs.1]
  · show nLs (_ ++ _) = 0
    rw [nLs_app, nLs_guard h1.ifs.2.1, nLs_guard h2.ifs.2.1]
  · show nLs (_ ++ _) = 0
    rw [nLs_app, nLs_all h1.ifs.2.2, nLs_all h2.ifs.2.2]
/-- the loop beside can be read -/
theorem told_chk (h1 : LpOk L1 R1) (h2 : LpOk L2 R2) : (∃ p q1 q2, chkL false (told L1 L2 R2).start (some []) = some (some p) ∧ chkL true (told L1 L2 R2).turn (some p) = some q1 ∧ chkL false (told L1 L2 R2).fin (some p) = some q2) ∧
    lstL (told L1 L2 R2).start = true ∧ lstL (told L1 L2 R2).turn = true ∧ lstL (told L1 L2 R2).fin = true := by
  obtain ⟨n1, n2, n3⟩ := told_noL h1 h2
  refine ⟨?_, lstL_of _ n1, lstL_of _ n2, lstL_of _ n3⟩
  have k1 := tn1_ok (L1 := L1) h1.rg h2.rg
  have k2 := tn2_ok (L2 := L2) h2.rg
  obtain ⟨p1, a1, b1, c1, d1, e1⟩ := h1.chk
  obtain ⟨p2, a2, b2, c2, d2, e2⟩ := h2.chk
  obtain ⟨A, rA, sA, fA⟩ := chk_raise (turn := false) k1 []
  obtain ⟨B, rB, sB, fB⟩ := chk_raise (turn := false) k2 A
  obtain ⟨C, rC, sC, mC⟩ := chk_tn k1 (P := B) h1.ifs.1 h1.nmd.1 (.inl h1.noL.1) c1 (fun x hx => by cases hx)
  obtain ⟨D, rD, sD, mD⟩ := chk_tn k2 (P := C) h2.ifs.1 h2.nmd.1 (.inl h2.noL.1) c2 (fun x hx => by cases hx)
  obtain ⟨l1, el1, ml1⟩ := mC h1.noL.1
  obtain ⟨l2, el2, ml2⟩ := mD h2.noL.1
  cases el1
  cases el2
  have hl1 : nLs L1.turn = 0 ∨ ∃ f, (tn1 L1 R2).flag = some f := flag_has L1 _
  have hl2 : nLs L2.turn = 0 ∨ ∃ f, (tn2 L2 R2).flag = some f := flag_has L2 _
  obtain ⟨F, rF, sF⟩ := chk_guard k1 (P := D) h1.ifs.2.1 h1.nmd.2.1 hl1 d1 (fun x hx => sD _ (ml1 x hx)) (fun f hf => sD _ (sC _ (sB _ (fA f hf))))
  obtain ⟨G, rG, sG⟩ := chk_guard k2 (P := F) h2.ifs.2.1 h2.nmd.2.1 hl2 d2 (fun x hx => sF _ (ml2 x hx)) (fun f hf => sF _ (sD _ (sC _ (fB f hf))))
  obtain ⟨M, rM, sM, _⟩ := chk_tn k1 (P := D) h1.ifs.2.2 h1.nmd.2.2 (.inl h1.noL.2) e1 (fun x hx => sD _ (ml1 x hx))
  obtain ⟨N, rN, sN, _⟩ := chk_tn k2 (P := M) h2.ifs.2.2 h2.nmd.2.2 (.inl h2.noL.2) e2 (fun x hx => sM _ (ml2 x hx))
  refine ⟨D, some G, some N, ?_, ?_, ?_⟩
  · show chkL false (_ ++ (_ ++ (_ ++ _))) _ = _
    rw [chkL_app, rA, Option.bind_some, chkL_app, rB, Option.bind_some, chkL_app, rC, Option.bind_some, rD]
  · show chkL true (_ ++ _) _ = _
    rw [chkL_app, rF, Option.bind_some, rG]
  · show chkL false (_ ++ _) _ = _
    rw [chkL_app, rM, Option.bind_some, rN]
end
/-! ### the same deeds -/
section
variable {L1 L2 : Lp} {R1 R2 Rg : List Str} {T : Tab} {m : Int} {it : Option Int} {res : List Int} {τ : Tn}
theorem raise_run (hT : TabOk T m) (k : TnOk τ Rg) {σ : Sto} (h0 : ∀ x, consts.contains x = true → σ x = none) : ∃ c σ', c ≤ 1 ∧ (∀ N rest ds, run T it res (N + c) (raise τ ++ rest) σ ds = run T it res N rest σ' ds) ∧
    (∀ x, τ.flag ≠ some x → σ' x = σ x) ∧ (∀ f, τ.flag = some f → σ' f = T.cst "b") := by
  unfold raise
  cases hf : τ.flag with
  | none => exact ⟨0, σ, Nat.zero_le _, fun N rest ds => rfl, fun _ _ => rfl, fun f z => by cases z⟩
  | some f =>
    obtain ⟨v, hv, _⟩ := hT.cst "b" (by decide +kernel)
    refine ⟨1, stSet σ f v, Nat.le_refl _, fun N rest ds => ?_, fun x z => ?_, fun g z => ?_⟩
    · show run T it res (N + 1) (.put f "b" :: rest) σ ds = _
      have e2 : ev T it σ "b" = some v := by
        unfold ev
        rw [if_neg (by decide +kernel), h0 "b" (by decide +kernel)]
        exact hv
      rw [run_put, e2, Option.bind_some]
    · unfold stSet
      rw [if_neg (fun q => z (by rw [q]))]
    · cases z
      unfold stSet
      rw [if_pos rfl, hv]
/-- the turn behind its guard -/
theorem guard_run (hT : TabOk T m) (k : TnOk τ Rg) {σ st st' : Sto} {ss : List Stm} {ds ds' : List Deed} {l l' : Bool} (hi : nIs ss < 20) (hn : nmdL Rg ss = true) (hl : nLs ss = 0 ∨ ∃ f, τ.flag = some f) (R : Rel τ Rg σ st)
    (hf : ∀ f, τ.flag = some f → σ f = if l = true then T.cst "a" else T.cst "b") (h0 : τ.flag = none → l = false)
    (h : (l = true ∧ st' = st ∧ l' = true ∧ ds' = ds) ∨ (l = false ∧ ∃ n, n ≤ 46 ∧ run T it res n ss st ds = some (st', ds', l'))) :
    ∃ c σ', c ≤ 47 ∧ (∀ N rest, run T it res (N + c) (τ.guard 20 ss ++ rest) σ ds = run T it res N rest σ' ds') ∧ Rel τ Rg σ' st' ∧ (∀ y, Oth τ Rg y → σ' y = σ y) ∧ (∀ f, τ.flag = some f → σ' f = if l' = true then T.cst "a" else T.cst "b") ∧ (τ.flag = none → l' = false) := by
  have hA : (T.cst "a").isSome = true := by
    obtain ⟨v, hv, _⟩ := hT.cst "a" (by decide +kernel)
    rw [hv]
    rfl
  have tst_g : ∀ f, τ.flag = some f → tst T it σ (.same f "b") = some (!l) := fun f e => by
    obtain ⟨g1, g2, g3, g4⟩ := k.flg f e
    obtain ⟨va, ha, _⟩ := hT.cst "a" (by decide +kernel)
    obtain ⟨vb, hb, _⟩ := hT.cst "b" (by decide +kernel)
    have ne : va ≠ vb := fun z => hT.ne (by rw [ha, hb, z])
    have e1 : ev T it σ f = some (if l = true then va else vb) := by
      unfold ev
      rw [if_neg g2, hf f e, ha, hb]
      cases l <;> rfl
    have e2 : ev T it σ "b" = some vb := by
      unfold ev
      rw [if_neg (by decide +kernel), R.c1 "b" (by decide +kernel)]
      exact hb
    show (ev T it σ f).bind _ = _
    rw [e1, Option.bind_some, e2, Option.bind_some]
    cases l with
    | true =>
      rw [if_pos rfl, decide_eq_false ne]
      rfl
    | false =>
      rw [if_neg Bool.false_ne_true, decide_eq_true rfl]
      rfl
  rcases h with ⟨e1, e2, e3, e4⟩ | ⟨e1, n, hn46, hrun⟩
  · subst e1 e2 e3 e4
    cases e : τ.flag with
    | none => cases h0 e
    | some f =>
      have fin : ∀ {c : Nat}, c ≤ 47 → (∀ N rest, run T it res (N + c) (τ.guard 20 ss ++ rest) σ ds' = run T it res N rest σ ds') → ∃ c σ', c ≤ 47 ∧ (∀ N rest, run T it res (N + c) (τ.guard 20 ss ++ rest) σ ds' = run T it res N rest σ' ds') ∧ Rel τ Rg σ' st' ∧ (∀ y, Oth τ Rg y → σ' y = σ y) ∧ (∀ g, some f = some g → σ' g = if true = true then T.cst "a" else T.cst "b") ∧ (some f = none → true = false) :=
        fun {c} hc q => ⟨c, σ, hc, q, R, fun _ _ => rfl, fun g z => by rw [hf g (by rw [e, z])], fun z => by cases z⟩
      unfold Tn.guard at fin ⊢
      rw [e] at fin ⊢
      by_cases z : τ.all 20 ss = []
      · exact fin (c := 0) (Nat.zero_le _) fun N rest => by
          show run T it res (N + 0) ((if _ then _ else _) ++ rest) σ ds' = _
          rw [if_pos z]
          rfl
      · exact fin (c := 1) (by omega) fun N rest => by
          show run T it res (N + 1) ((if _ then _ else _) ++ rest) σ ds' = _
          rw [if_neg z]
          show run T it res (N + 1) (.ite (.same f "b") (τ.all 20 ss) [] :: rest) σ ds' = _
          rw [run_ite, tst_g f e, Option.bind_some]
          rfl
  · subst e1
    obtain ⟨c, σ', hc, q, R', o', f', b'⟩ := sim hT.cno hA k n 20 ss st ds st' ds' l' hi hn hl hrun σ R
    have ff : ∀ f, τ.flag = some f → σ' f = if l' = true then T.cst "a" else T.cst "b" := fun f z => by
      rw [f' f z, hf f z]
      rfl
    have fn : τ.flag = none → l' = false := fun z => by
      cases w : l' with
      | false => rfl
      | true =>
        rcases hl with y | ⟨g, y⟩
        · exact absurd y (b' w)
        · rw [z] at y
          cases y
    cases e : τ.flag with
    | none =>
      refine ⟨c, σ', by omega, fun N rest => ?_, R', o', fun g z => (by cases z), fun _ => fn e⟩
      unfold Tn.guard
      rw [e]
      exact q N rest
    | some f =>
      by_cases z : τ.all 20 ss = []
      · refine ⟨c, σ', by omega, fun N rest => ?_, R', o', fun g y => ff g (by rw [e, y]), fun z => by cases z⟩
        unfold Tn.guard
        rw [e]
        show run T it res (N + c) ((if _ then _ else _) ++ rest) σ ds = _
        have q2 := q N rest
        rw [z] at q2
        rw [if_pos z]
        exact q2
      · refine ⟨c + 1, σ', by omega, fun N rest => ?_, R', o', fun g y => ff g (by rw [e, y]), fun z => by cases z⟩
        unfold Tn.guard
        rw [e]
        show run T it res (N + c + 1) ((if _ then _ else _) ++ rest) σ ds = _
        rw [if_neg z]
        show run T it res (N + c + 1) (.ite (.same f "b") (τ.all 20 ss) [] :: rest) σ ds = _
        rw [run_ite, tst_g f e, Option.bind_some]
        exact q N rest
end
end K21
set_option Elab.async false
set_option linter.all false
set_option maxRecDepth 100000
set_option maxHeartbeats 4000000
namespace K21
open PySem
def emp : Sto := fun _ => none
structure Both (T : Tab) (m : Int) (L1 L2 : Lp) (R1 R2 p1 p2 : List Str) (S : JS) (σ : Sto) : Prop where
  r1 : Rel (tn1 L1 R2) R1 σ S.s1
  r2 : Rel (tn2 L2 R2) R2 σ S.s2
  f1 : ∀ f, (tn1 L1 R2).flag = some f → σ f = if S.l1 = true then T.cst "a" else T.cst "b"
  f2 : ∀ f, (tn2 L2 R2).flag = some f → σ f = if S.l2 = true then T.cst "a" else T.cst "b"
  n1 : (tn1 L1 R2).flag = none → S.l1 = false
  n2 : (tn2 L2 R2).flag = none → S.l2 = false
  d1 : ∀ x ∈ p1, (S.s1 x).isSome = true
  d2 : ∀ x ∈ p2, (S.s2 x).isSome = true
  i1 : InR m S.s1
  i2 : InR m S.s2
section
variable {L1 L2 : Lp} {R1 R2 Rg : List Str} {T : Tab} {m : Int} {res : List Int} {τ : Tn} {σ st : Sto}
theorem rel_oth {σ' : Sto} (k : TnOk τ Rg) (R : Rel τ Rg σ st) (h : ∀ x, Rg.contains x = true → σ' (τ.nm x) = σ (τ.nm x)) (hc : ∀ x, consts.contains x = true → σ' x = none) : Rel τ Rg σ' st :=
  ⟨fun x hx => (h x hx).trans (R.eq x hx), hc, R.c2⟩
theorem start_ok (W : TabOk T m) (hm : 0 < m) (h1 : LpOk L1 R1) (h2 : LpOk L2 R2) (hres : ∀ v ∈ res, D0 m v) {p1 p2 : List Str} (c1 : chkL false L1.start (some []) = some (some p1)) (c2 : chkL false L2.start (some []) = some (some p2)) :
    ∃ S ds σ, JStep T L1 L2 .start res ⟨emp, emp, false, false⟩ S ds ∧ Part 200 T (told L1 L2 R2) .start res emp false [] σ false ds ∧ Both T m L1 L2 R1 R2 p1 p2 S σ := by
  have k1 := tn1_ok (L1 := L1) h1.rg h2.rg
  have k2 := tn2_ok (L2 := L2) h2.rg
  obtain ⟨o1, o2, o3, o4⟩ := apart (L1 := L1) (L2 := L2) h1.rg h2.rg
  have hA : (T.cst "a").isSome = true := by
    obtain ⟨v, hv, _⟩ := W.cst "a" (by decide +kernel)
    rw [hv]
    rfl
  obtain ⟨s1, d1, b1, e1, i1, _, q1⟩ := run_ok W hm (turn := false) (it := none) (fun z => by cases z) hres 46 L1.start [] _ emp [] (by have := h1.small.1; omega) c1 (fun x hx => by cases hx) (fun x v z => by cases z)
  obtain ⟨s2, d2, b2, e2, i2, _, q2⟩ := run_ok W hm (turn := false) (it := none) (fun z => by cases z) hres 46 L2.start [] _ emp d1 (by have := h2.small.1; omega) c2 (fun x hx => by cases hx) (fun x v z => by cases z)
  obtain ⟨ca, σa, ha, qa, oa, fa⟩ := raise_run (it := none) (res := res) W k1 (σ := emp) (fun _ _ => rfl)
  have ea : ∀ x, consts.contains x = true → σa x = none := fun x hx => oa x fun z => by
    have := (k1.flg x z).1
    rw [hx] at this
    cases this
  obtain ⟨cb, σb, hb, qb, ob, fb⟩ := raise_run (it := none) (res := res) W k2 (σ := σa) ea
  have eb : ∀ x, consts.contains x = true → σb x = none := fun x hx => (ob x fun z => by
    have := (k2.flg x z).1
    rw [hx] at this
    cases this).trans (ea x hx)
  have R1' : Rel (tn1 L1 R2) R1 σb emp := ⟨fun x hx => by
    rw [ob _ fun z => (o1 x hx).2 z, oa _ fun z => (k1.flg _ z).2.2.2 x hx rfl]
    rfl, eb, fun _ _ => rfl⟩
  obtain ⟨cc, σc, hc, qc, Rc, oc, fc, bc⟩ := sim W.cno hA k1 46 20 L1.start emp [] s1 d1 b1 h1.ifs.1 h1.nmd.1 (.inl h1.noL.1) e1 σb R1'
  have eb1 : b1 = false := by
    cases w : b1 with
    | false => rfl
    | true => exact absurd h1.noL.1 (bc w)
  have R2' : Rel (tn2 L2 R2) R2 σc emp := ⟨fun x hx => by
    rw [oc _ (o3 x hx), ob _ fun z => (k2.flg _ z).2.2.2 x hx rfl, oa _ fun z => (o3 x hx).2 z]
    rfl, Rc.c1, fun _ _ => rfl⟩
  obtain ⟨cd, σd, hd, qd, Rd, od, fd, bd⟩ := sim W.cno hA k2 46 20 L2.start emp d1 s2 d2 b2 h2.ifs.1 h2.nmd.1 (.inl h2.noL.1) e2 σc R2'
  have eb2 : b2 = false := by
    cases w : b2 with
    | false => rfl
    | true => exact absurd h2.noL.1 (bd w)
  obtain ⟨l1', el1, dl1⟩ := q1 eb1
  obtain ⟨l2', el2, dl2⟩ := q2 eb2
  cases el1
  cases el2
  subst eb1 eb2
  refine ⟨⟨s1, s2, false, false⟩, d2, σd, ⟨d1, ⟨46, false, Nat.le_refl _, e1, rfl⟩, ⟨46, false, Nat.le_refl _, e2, rfl⟩⟩, ⟨1 + cd + cc + cb + ca, false, by omega, ?_, rfl⟩, ?_⟩
  · show run T none res (1 + cd + cc + cb + ca) (raise _ ++ (raise _ ++ (_ ++ _))) emp [] = _
    rw [qa, qb, qc]
    have z := qd 1 []
    rw [List.append_nil] at z
    rw [z, run_nil]
  · refine ⟨rel_oth k1 Rc (fun x hx => od _ (o1 x hx)) Rd.c1, Rd, fun f hf => ?_, fun f hf => ?_, fun _ => rfl, fun _ => rfl, dl1, dl2, i1, i2⟩
    · show σd f = T.cst "b"
      rw [od _ (o2 f hf), fc f hf]
      show σb f = _
      rw [ob _ fun z => (o2 f hf).2 z, fa f hf]
    · show σd f = T.cst "b"
      rw [fd f hf]
      show σc f = _
      rw [oc _ (o4 f hf), fb f hf]
/-- a loop's turn, if it has not left -/
theorem turn_part (W : TabOk T m) (hm : 0 < m) {L : Lp} (hL : LpOk L Rg) {i : Int} (hi : D0 m i) (hres : ∀ v ∈ res, D0 m v) {p : List Str} {q : Put} (c : chkL true L.turn (some p) = some q) {st : Sto} (hd : ∀ x ∈ p, (st x).isSome = true) (hr : InR m st) (l : Bool) (ds : List Deed) :
    ∃ st' l' ds', Part 46 T L (.turn i) res st l ds st' l' ds' ∧ (∀ x ∈ p, (st' x).isSome = true) ∧ InR m st' := by
  cases l with
  | true => exact ⟨st, true, ds, .inl ⟨rfl, rfl, rfl, rfl⟩, hd, hr⟩
  | false =>
    obtain ⟨s1, d1, b1, e1, i1, m1, _⟩ := run_ok W hm (turn := true) (it := some i) (fun _ => ⟨i, rfl, hi⟩) hres 46 L.turn p q st ds (by have := hL.small.2.1; omega) c hd hr
    exact ⟨s1, b1, d1, .inr ⟨rfl, 46, Nat.le_refl _, e1⟩, fun x hx => m1 x (hd x hx), i1⟩
theorem turn_ok (W : TabOk T m) (hm : 0 < m) (h1 : LpOk L1 R1) (h2 : LpOk L2 R2) {i : Int} (hi : D0 m i) (hres : ∀ v ∈ res, D0 m v) {p1 p2 : List Str} {q1 q2 : Put} (c1 : chkL true L1.turn (some p1) = some q1) (c2 : chkL true L2.turn (some p2) = some q2)
    {S : JS} (B : Both T m L1 L2 R1 R2 p1 p2 S σ) : ∃ S' ds σ', JStep T L1 L2 (.turn i) res S S' ds ∧ Part 200 T (told L1 L2 R2) (.turn i) res σ false [] σ' false ds ∧ Both T m L1 L2 R1 R2 p1 p2 S' σ' := by
  have k1 := tn1_ok (L1 := L1) h1.rg h2.rg
  have k2 := tn2_ok (L2 := L2) h2.rg
  obtain ⟨o1, o2, o3, o4⟩ := apart (L1 := L1) (L2 := L2) h1.rg h2.rg
  obtain ⟨s1, l1, d1, P1, dm1, i1⟩ := turn_part W hm h1 hi hres c1 B.d1 B.i1 S.l1 []
  obtain ⟨s2, l2, d2, P2, dm2, i2⟩ := turn_part W hm h2 hi hres c2 B.d2 B.i2 S.l2 d1
  obtain ⟨ca, σa, ha, qa, Ra, oa, fa, na⟩ := guard_run W k1 h1.ifs.2.1 h1.nmd.2.1 (flag_has L1 _) B.r1 B.f1 B.n1 P1
  have R2' : Rel (tn2 L2 R2) R2 σa S.s2 := rel_oth k2 B.r2 (fun x hx => oa _ (o3 x hx)) Ra.c1
  obtain ⟨cb, σb, hb, qb, Rb, ob, fb, nb⟩ := guard_run W k2 h2.ifs.2.1 h2.nmd.2.1 (flag_has L2 _) R2' (fun f hf => (oa _ (o4 f hf)).trans (B.f2 f hf)) B.n2 P2
  refine ⟨⟨s1, s2, l1, l2⟩, d2, σb, ⟨d1, P1, P2⟩, .inr ⟨rfl, 1 + cb + ca, by omega, ?_⟩, ⟨rel_oth k1 Ra (fun x hx => ob _ (o1 x hx)) Rb.c1, Rb, fun f hf => (ob _ (o2 f hf)).trans (fa f hf), fb, na, nb, dm1, dm2, i1, i2⟩⟩
  show run T (some i) res (1 + cb + ca) (_ ++ _) σ [] = _
  rw [qa]
  have z := qb 1 []
  rw [List.append_nil] at z
  rw [z, run_nil]
theorem fin_ok (W : TabOk T m) (hm : 0 < m) (h1 : LpOk L1 R1) (h2 : LpOk L2 R2) (hres : ∀ v ∈ res, D0 m v) {p1 p2 : List Str} {q1 q2 : Put} (c1 : chkL false L1.fin (some p1) = some q1) (c2 : chkL false L2.fin (some p2) = some q2)
    {S : JS} (B : Both T m L1 L2 R1 R2 p1 p2 S σ) : ∃ S' ds σ', JStep T L1 L2 .fin res S S' ds ∧ Part 200 T (told L1 L2 R2) .fin res σ false [] σ' false ds := by
  have k1 := tn1_ok (L1 := L1) h1.rg h2.rg
  have k2 := tn2_ok (L2 := L2) h2.rg
  obtain ⟨o1, o2, o3, o4⟩ := apart (L1 := L1) (L2 := L2) h1.rg h2.rg
  have hA : (T.cst "a").isSome = true := by
    obtain ⟨v, hv, _⟩ := W.cst "a" (by decide +kernel)
    rw [hv]
    rfl
  obtain ⟨s1, d1, b1, e1, i1, _, _⟩ := run_ok W hm (turn := false) (it := none) (fun z => by cases z) hres 46 L1.fin p1 _ S.s1 [] (by have := h1.small.2.2; omega) c1 B.d1 B.i1
  obtain ⟨s2, d2, b2, e2, i2, _, _⟩ := run_ok W hm (turn := false) (it := none) (fun z => by cases z) hres 46 L2.fin p2 _ S.s2 d1 (by have := h2.small.2.2; omega) c2 B.d2 B.i2
  obtain ⟨cc, σc, hc, qc, Rc, oc, fc, bc⟩ := sim W.cno hA k1 46 20 L1.fin S.s1 [] s1 d1 b1 h1.ifs.2.2 h1.nmd.2.2 (.inl h1.noL.2) e1 σ B.r1
  have R2' : Rel (tn2 L2 R2) R2 σc S.s2 := rel_oth k2 B.r2 (fun x hx => oc _ (o3 x hx)) Rc.c1
  obtain ⟨cd, σd, hd, qd, Rd, od, fd, bd⟩ := sim W.cno hA k2 46 20 L2.fin S.s2 d1 s2 d2 b2 h2.ifs.2.2 h2.nmd.2.2 (.inl h2.noL.2) e2 σc R2'
  refine ⟨⟨s1, s2, S.l1, S.l2⟩, d2, σd, ⟨d1, ⟨46, b1, Nat.le_refl _, e1⟩, ⟨46, b2, Nat.le_refl _, e2⟩⟩, ⟨1 + cd + cc, false, by omega, ?_⟩⟩
  show run T none res (1 + cd + cc) (_ ++ _) σ [] = _
  rw [qc]
  have z := qd 1 []
  rw [List.append_nil] at z
  rw [z, run_nil]
/-- the sections of a run -/
def secsOf (turns : List (Int × List Int)) (rl : List Int) : List (Sec × List Int) := turns.map (fun x => (Sec.turn x.1, x.2)) ++ [(.fin, rl)]
theorem turns_ok (W : TabOk T m) (hm : 0 < m) (h1 : LpOk L1 R1) (h2 : LpOk L2 R2) {p1 p2 : List Str} {q1 q2 q3 q4 : Put} (c1 : chkL true L1.turn (some p1) = some q1) (c2 : chkL true L2.turn (some p2) = some q2)
    (c3 : chkL false L1.fin (some p1) = some q3) (c4 : chkL false L2.fin (some p2) = some q4) {rl : List Int} (hrl : ∀ v ∈ rl, D0 m v) : ∀ (turns : List (Int × List Int)) (S : JS) (σ : Sto), (∀ x ∈ turns, D0 m x.1 ∧ ∀ v ∈ x.2, D0 m v) → Both T m L1 L2 R1 R2 p1 p2 S σ →
    ∃ outs, JRun T L1 L2 (secsOf turns rl) S outs ∧ SRun T (told L1 L2 R2) (secsOf turns rl) σ false outs
  | [], S, σ, _, B => by
    obtain ⟨S', ds, σ', a, b⟩ := fin_ok W hm h1 h2 hrl c3 c4 B
    exact ⟨[ds], ⟨S', ds, [], a, rfl, rfl⟩, ⟨σ', false, ds, [], b, rfl, rfl⟩⟩
  | x :: r, S, σ, hx, B => by
    obtain ⟨a1, a2⟩ := hx x List.mem_cons_self
    obtain ⟨S', ds, σ', a, b, B'⟩ := turn_ok W hm h1 h2 a1 a2 c1 c2 B
    obtain ⟨outs, j, s⟩ := turns_ok W hm h1 h2 c1 c2 c3 c4 hrl r S' σ' (fun y hy => hx y (List.mem_cons_of_mem _ hy)) B'
    exact ⟨ds :: outs, ⟨S', ds, outs, a, rfl, j⟩, ⟨σ', false, ds, outs, b, rfl, s⟩⟩
/-- THE MATHEMATICS: the loop beside does the deeds of both, section by section -/
theorem beside_law (W : TabOk T m) (hm : 0 < m) (h1 : LpOk L1 R1) (h2 : LpOk L2 R2) (r0 rl : List Int) (turns : List (Int × List Int)) (hr0 : ∀ v ∈ r0, D0 m v) (hrl : ∀ v ∈ rl, D0 m v) (ht : ∀ x ∈ turns, D0 m x.1 ∧ ∀ v ∈ x.2, D0 m v) :
    ∃ outs, JRun T L1 L2 ((.start, r0) :: secsOf turns rl) ⟨emp, emp, false, false⟩ outs ∧ SRun T (told L1 L2 R2) ((.start, r0) :: secsOf turns rl) emp false outs := by
  obtain ⟨p1, a1, a2, a3, a4, a5⟩ := h1.chk
  obtain ⟨p2, b1, b2, b3, b4, b5⟩ := h2.chk
  obtain ⟨S, ds, σ, j, s, B⟩ := start_ok W hm h1 h2 hr0 a3 b3
  obtain ⟨outs, j2, s2⟩ := turns_ok W hm h1 h2 a4 b4 a5 b5 hrl turns S σ ht B
  exact ⟨ds :: outs, ⟨S, ds, outs, j, rfl, j2⟩, ⟨σ, false, ds, outs, s, rfl, s2⟩⟩
end
end K21
set_option Elab.async false
set_option linter.all false
set_option maxRecDepth 100000
set_option maxHeartbeats 4000000
namespace K21
open PySem PySem.Spec PyProof.Rows L2
local macro_rules | `(tactic| walk_at "hp") => `(tactic| first
  | assumption
  | exact upd_same
  | (refine (upd_ne ?_).trans ?_ <;> first | assumption | exact upd_same | (apply Ne.symm; assumption) | exact ne_of_none (by walk_at "hp") (by assumption) | exact (ne_of_none (by walk_at "hp") (by assumption)).symm | (walk_at "hp")))
/-! ### rows, frozen -/
mutual
def frz : PyData → PyData
  | .list ds => .tuple (frzL ds)
  | .tuple ds => .tuple (frzL ds)
  | d => d
def frzL : List PyData → List PyData
  | [] => []
  | d :: r => frz d :: frzL r
end
mutual
def pdep : PyData → Nat
  | .list ds => 1 + pdepL ds
  | .tuple ds => 1 + pdepL ds
  | _ => 0
def pdepL : List PyData → Nat
  | [] => 0
  | d :: r => max (pdep d) (pdepL r)
end
mutual
def pwid : PyData → Nat
  | .list ds => max ds.length (pwidL ds)
  | .tuple ds => max ds.length (pwidL ds)
  | _ => 0
def pwidL : List PyData → Nat
  | [] => 0
  | d :: r => max (pwid d) (pwidL r)
end
theorem frzL_map : ∀ ds, frzL ds = ds.map frz
  | [] => by rw [frzL]; rfl
  | d :: r => by rw [frzL, frzL_map r]; rfl
theorem pdepL_le : ∀ {ds : List PyData} {d : PyData}, d ∈ ds → pdep d ≤ pdepL ds
  | [], d, h => by cases h
  | e :: r, d, h => by
    rw [pdepL]
    rcases List.mem_cons.mp h with z | z
    · rw [z]; exact Nat.le_max_left _ _
    · exact Nat.le_trans (pdepL_le z) (Nat.le_max_right _ _)
theorem pwidL_le : ∀ {ds : List PyData} {d : PyData}, d ∈ ds → pwid d ≤ pwidL ds
  | [], d, h => by cases h
  | e :: r, d, h => by
    rw [pwidL]
    rcases List.mem_cons.mp h with z | z
    · rw [z]; exact Nat.le_max_left _ _
    · exact Nat.le_trans (pwidL_le z) (Nat.le_max_right _ _)
def spRow (K : PySem.W.Frag) : Sp := fun vs H Q _ => ∃ v d, vs = [v] ∧ Dp K H v d ∧ ∀ H', Same H H' → Q (.bl (isRow d)) H'
def spFrozen (K : PySem.W.Frag) (n : Nat) : Sp := fun vs H Q _ => ∃ v d, vs = [v] ∧ Dp K H v d ∧ pdep d ≤ n ∧ pwid d ≤ 1000 ∧ ∀ v' H', Same H H' → Dp K (tups H') v' (frz d) → Q v' H'
theorem tups_hid_le {D : Addr} {H : Hp} : Same (tups (hid D H)) (tups H) := hid_in.t.tups
theorem pe_never {X : Cx} {e : Expr} : PE X e (fun _ _ _ => False) := ⟨fun _ _ _ _ _ _ h => h.elim⟩
theorem row_of {K : PySem.W.Frag} {H : Hp} {v : V} {d : PyData} (h : Dp K H v d) (r : isRow d = true) : ∃ a xs ds, v = .ref a ∧ DpAll K H xs ds ∧ frz d = .tuple (frzL ds) ∧ (pdep d = 1 + pdepL ds ∧ pwid d = max ds.length (pwidL ds)) ∧ (SqL K H a xs ∨ SqT K H a xs) := by
  cases h with
  | lst a b => exact ⟨_, _, _, rfl, b, by rw [frz], ⟨by rw [pdep], by rw [pwid]⟩, .inl a⟩
  | tup a b => exact ⟨_, _, _, rfl, b, by rw [frz], ⟨by rw [pdep], by rw [pwid]⟩, .inr a⟩
  | non => cases r
  | bl b => cases r
  | int b => cases r
  | str b => cases r
theorem frz_not {d : PyData} (h : isRow d = false) : frz d = d := by
  cases d with
  | list _ => cases h
  | tuple _ => cases h
  | none => simp [frz]
  | bool _ => simp [frz]
  | int _ => simp [frz]
  | str _ => simp [frz]
  | dict _ => simp [frz]
theorem frz_not' {K : PySem.W.Frag} {H H' : Hp} {v : V} {d : PyData} (h : Dp K H v d) (r : isRow d = false) : Dp K H' v d := by
  cases h with
  | lst a b => cases r
  | tup a b => cases r
  | non => exact .non
  | bl b => exact .bl b
  | int b => exact .int b
  | str b => exact .str b
section
variable {P : Program} {w : World} {K : PySem.W.Frag} {mg : Str → Option Value} {base : Heap}
theorem sc_is_row_loops : FnScope ["thing"] ["thing"] (defScope s_is_row_loops) := ⟨rfl, rfl, rfl, by decide +kernel, rfl, by decide +kernel, by decide +kernel⟩
theorem ok_is_row_loops (T : Txt K mg) : Cal P w K mg base 1 "is_row_loops" (spRow K) := by
  refine cal_of T.d_is_row_loops T.g_is_row_loops sc_is_row_loops (fun _ _ _ _ _ _ us hl => match us, hl with | [_], _ => rfl) (fun vs H Q E h => ?_) (fun cdv A outer s H vs Q E hr h => ?_)
  · obtain ⟨v, d, rfl, _⟩ := h
    rfl
  obtain ⟨v, d, rfl, hd, k⟩ := h
  refine ⟨_, (pss_one (ps_ret (pb call_isiT T.b_isinstance v_isinstance (pa_cons (pv 0) (pa_cons (pe_tup (pa_cons (p_ty T.b_list v_list) (pa_cons (p_ty T.b_tuple v_tuple) pa_nil))) pa_nil))))), ?_⟩
  refine ⟨_, rfl, (by show 2 ≤ sizeLine; decide), fun p hp => ?_⟩
  have s1 : Same H (upd H p (.tup [.ty "list", .ty "tuple"])) := Same.new hp
  exact ⟨_, p, _, _, _, _, rfl, upd_same, .cons (.ty _) (.cons (.ty _) .nil), tyx_of (hd.up s1), kr_row (hd.up s1), k _ s1⟩
theorem sc_is_row_names : FnScope ["thing"] ["thing"] (defScope s_is_row_names) := ⟨rfl, rfl, rfl, by decide +kernel, rfl, by decide +kernel, by decide +kernel⟩
theorem ok_is_row_names (T : Txt K mg) : Cal P w K mg base 1 "is_row_names" (spRow K) := by
  refine cal_of T.d_is_row_names T.g_is_row_names sc_is_row_names (fun _ _ _ _ _ _ us hl => match us, hl with | [_], _ => rfl) (fun vs H Q E h => ?_) (fun cdv A outer s H vs Q E hr h => ?_)
  · obtain ⟨v, d, rfl, _⟩ := h
    rfl
  obtain ⟨v, d, rfl, hd, k⟩ := h
  refine ⟨_, (pss_one (ps_ret (pb call_isiT T.b_isinstance v_isinstance (pa_cons (pv 0) (pa_cons (pe_tup (pa_cons (p_ty T.b_list v_list) (pa_cons (p_ty T.b_tuple v_tuple) pa_nil))) pa_nil))))), ?_⟩
  refine ⟨_, rfl, (by show 2 ≤ sizeLine; decide), fun p hp => ?_⟩
  have s1 : Same H (upd H p (.tup [.ty "list", .ty "tuple"])) := Same.new hp
  exact ⟨_, p, _, _, _, _, rfl, upd_same, .cons (.ty _) (.cons (.ty _) .nil), tyx_of (hd.up s1), kr_row (hd.up s1), k _ s1⟩
theorem sc_frozen : FnScope ["thing", "one"] ["thing"] (defScope s_frozen) := ⟨rfl, rfl, rfl, by decide +kernel, rfl, by decide +kernel, by decide +kernel⟩
theorem ok_frozen (T : Txt K mg) : ∀ n : Nat, Cal P w K mg base (n + 2) "frozen" (spFrozen K n) := by
  intro n
  induction n with
  | zero =>
    refine cal_of T.d_frozen T.g_frozen sc_frozen (fun _ _ _ _ _ _ us hl => match us, hl with | [_], _ => rfl) (fun vs H Q E h => ?_) (fun cdv A outer s H vs Q E hr h => ?_)
    · obtain ⟨v, d, rfl, _⟩ := h
      rfl
    obtain ⟨v, d, rfl, hd, hn, hw, k⟩ := h
    have sc := sc_frozen
    have c_is_row_loops : Cal P w K mg base 1 "is_row_loops" (spRow K) := ok_is_row_loops T
    refine ⟨_, (pss_one (ps_ret (pe_ifExp (pt_val (pc c_is_row_loops hr (by omega) (pa_cons (pv 0) pa_nil))) pe_never (pv 0)))), ?_⟩
    refine ⟨_, rfl, _, d, rfl, hd, fun H1 s1 => ⟨_, rfl, ?_⟩⟩
    have e : isRow d = false := by
      cases z : isRow d with
      | false => rfl
      | true =>
        obtain ⟨a, xs, ds, rfl, h1, h2, ⟨h3, _⟩, _⟩ := row_of hd z
        omega
    rw [e]
    refine iteF ⟨_, rfl, k _ _ s1 ?_⟩
    rw [frz_not e]
    exact frz_not' hd e
  | succ n ih =>
    refine cal_of T.d_frozen T.g_frozen sc_frozen (fun _ _ _ _ _ _ us hl => match us, hl with | [_], _ => rfl) (fun vs H Q E h => ?_) (fun cdv A outer s H vs Q E hr h => ?_)
    · obtain ⟨v, d, rfl, _⟩ := h
      rfl
    obtain ⟨v, d, rfl, hd, hn, hw, k⟩ := h
    have sc := sc_frozen
    have c_is_row_loops : Cal P w K mg base 1 "is_row_loops" (spRow K) := ok_is_row_loops T
    have c_frozen := ih
    refine ⟨_, (pss_one (ps_ret (pe_ifExp (pt_val (pc c_is_row_loops hr (by omega) (pa_cons (pv 0) pa_nil))) (pbt call_tuple_of T.b_tuple v_tuple (pa_cons (pe_lc (own := [("one", 1)]) (g := gName 1) (tt := tYes) rfl sc.nd (pi_seq (pv 0)) (blkOk_by (N := ["thing", "one"]) (sc := defScope s_frozen) (by decide +kernel)) (fun _ _ _ _ _ => (pgn 1 sc.nd)) (fun _ _ _ _ _ => pts_nil) (fun _ _ _ _ _ => (pc c_frozen hr (by omega) (pa_cons (pv 1) pa_nil)))) pa_nil)) (pv 0)))), ?_⟩
    refine ⟨_, rfl, _, d, rfl, hd, fun H1 s1 => ⟨_, rfl, ?_⟩⟩
    refine ite2 (fun e => ?_) (fun e => ?_)
    · obtain ⟨a, xs, ds, rfl, h1, h2, ⟨h3, h4⟩, h5⟩ := row_of hd e
      have lw : ds.length ≤ 1000 := by omega
      have ll := dpa_len h1
      have main : ∀ {J : It} {G : Hp → Prop}, Walk J xs.length G (YAt xs) → (∀ H2, Same H1 H2 → G H2) → ∀ D, H1 D = none → ∀ Qd : Hp → Prop, (∀ H2 ys, Same H1 (hid D H2) → H2 D = some (.lst ys) → DpAll K (tups H2) ys (frzL ds) → Qd H2) → _ := fun {J G} W hG D hD Qd hQ =>
        lc_rel W (g := gName 1) (te := tCall (spFrozen K n) [] E0 (tCons (tVar 1) tNil)) (vs := [1]) (σ := start ["thing", "one"] [V.ref a]) (Qd := Qd) hD (by omega) (fun i y H2 => ∃ d', ds[i]? = some d' ∧ Dp K (tups H2) y (frz d')) (fun i y H2 H3 s3 ⟨d', e1, e2⟩ => ⟨d', e1, e2.up s3.t.tups⟩) hG
          (fun i x H2 H3 hi s2 ⟨ys, hy⟩ yx R kR => by
            obtain ⟨rfl, hx⟩ := yx
            obtain ⟨d', e1, e2⟩ := dpa_get h1 hx
            have m := List.mem_of_getElem? e1
            refine ⟨rfl, _, rfl, _, d', rfl, e2.up (s1.trans s2), ?_, ?_, fun v' H4 s4 hv => kR _ _ s4 ⟨d', e1, hv.up (tups_hid (s4 _ _ hy))⟩⟩
            · have := pdepL_le m; omega
            · have := pwidL_le m; omega)
          (fun H2 ys s2 hy hl hp => hQ H2 ys s2 hy (dpAll_ix (by rw [frzL_map, List.length_map]; omega) fun i v' d' q1 q2 => by
            obtain ⟨d0, e1, e2⟩ := hp i v' q1
            rw [frzL_map, List.getElem?_map, e1] at q2
            cases q2
            exact e2.up tups_hid_le))
      have fin : ∀ (D : Addr) H2 ys, H1 D = none → Same H1 (hid D H2) → H2 D = some (.lst ys) → DpAll K (tups H2) ys (frzL ds) → ∃ p ys, [V.ref D] = [.ref p] ∧ ((SqL K H2 p ys ∧ ∀ l, H2 l = none → Q (.ref l) (upd H2 l (.tup ys))) ∨ (SqT K H2 p ys ∧ Q (.ref p) H2)) := fun D H2 ys hD s2 hy hp => by
        refine ⟨D, ys, rfl, .inl ⟨SqL.of hy, fun l hl => k _ _ ((s1.trans s2).trans (hid_in.trans (Same.new hl))) ?_⟩⟩
        rw [h2]
        exact .tup (SqT.of (tups_some upd_same)) (hp.up (Same.new hl).t.tups)
      rcases h5 with h5 | h5
      · exact ⟨_, rfl, a, rfl, .inl ⟨⟨xs, s1.seq h5⟩, fun D hD => main walk_list (fun H2 s2 => s2.seq (s1.seq h5)) D hD _ fun H2 ys => fin D H2 ys hD⟩⟩
      · exact ⟨_, rfl, a, rfl, .inr ⟨⟨xs, s1.tup h5⟩, fun D hD => main walk_tup (fun H2 s2 => s2.tup (s1.tup h5)) D hD _ fun H2 ys => fin D H2 ys hD⟩⟩
    · have e : isRow d = false := Bool.eq_false_iff.mpr e
      refine ⟨_, rfl, k _ _ s1 ?_⟩
      rw [frz_not e]
      exact frz_not' hd e
end
end K21
set_option Elab.async false
set_option linter.all false
set_option maxRecDepth 100000
set_option maxHeartbeats 4000000
namespace K21
open PySem PySem.Spec PyProof.Rows L2
/-! ### names; a reader -/
def dF : List (Key × V) := [(.inr "f", .int 1), (.inr "g", .int 2)]
def dT : List (Key × V) := [(.inr "p", .int 2)]
def dD : List (Key × V) := [(.inr "tell", .int 1), (.inr "show", .int 2)]
def NamesAt (K : PySem.W.Frag) (H : Hp) (n : Addr) : Prop := ∃ dx c f t d r fa pa p0 : Addr, H n = some (.ins (He.ga K "Names") dx [("constants", .ref c), ("some_functions", .ref f), ("some_tests", .ref t), ("some_deeds", .ref d), ("some_rules", .ref r), ("some_facts", .ref fa), ("some_pairs", .ref pa)]) ∧
  H c = some (.tup [.str "a", .str "b"]) ∧ H f = some (.dK dF) ∧ H t = some (.dK dT) ∧ H d = some (.dK dD) ∧ H r = some (.dK []) ∧ H fa = some (.lst []) ∧ H pa = some (.lst [.ref p0]) ∧ SqT K H p0 [.str "b", .str "a"]
def RdAt (K : PySem.W.Frag) (H : Hp) (r l : Addr) : Prop := ∃ dx n u : Addr, H r = some (.ins (He.ga K "Reader") dx [("names", .ref n), ("used", .ref u), ("found", .ref l)]) ∧ NamesAt K H n ∧ H u = some (.lst (used.map V.str))
def regsOk (l : List Str) : Prop := l.Nodup ∧ ∀ x ∈ l, regW.contains x = true
theorem nd_len : ∀ {l m : List Str}, l.Nodup → (∀ x ∈ l, x ∈ m) → l.length ≤ m.length
  | [], _, _, _ => Nat.zero_le _
  | x :: r, m, h, hs => by
    obtain ⟨h1, h2⟩ := List.nodup_cons.mp h
    have hx := hs x List.mem_cons_self
    have q := nd_len (m := m.erase x) h2 (fun y hy => (List.mem_erase_of_ne (fun (z : y = x) => h1 (by rw [← z]; exact hy))).mpr (hs y (List.mem_cons_of_mem _ hy)))
    rw [List.length_erase_of_mem hx] at q
    have := List.length_pos_of_mem hx
    rw [List.length_cons]
    omega
theorem regsOk.len {l : List Str} (h : regsOk l) : l.length ≤ 8 := nd_len (m := regW) h.1 (fun x hx => List.contains_iff_mem.mp (h.2 x hx))
theorem regsOk.add {l : List Str} {x : Str} (h : regsOk l) (hx : regOk x = true) (n : l.contains x = false) : regsOk (l ++ [x]) := by
  have hw : regW.contains x = true := by
    unfold regOk at hx
    exact (Bool.and_eq_true_iff.mp hx).2
  refine ⟨List.nodup_append.mpr ⟨h.1, by simp, fun a ha b hb e => ?_⟩, fun y hy => ?_⟩
  · have e2 : b = x := by simpa using hb
    rw [e, e2] at ha
    rw [List.contains_iff_mem.mpr ha] at n
    cases n
  · rcases List.mem_append.mp hy with q | q
    · exact h.2 y q
    · have e2 : y = x := by simpa using q
      rw [e2]
      exact hw
theorem regsOk.filter {l : List Str} (h : regsOk l) (f : Str → Bool) : regsOk (l.filter f) := ⟨h.1.filter f, fun x hx => h.2 x (List.mem_filter.mp hx).1⟩
theorem regsOk.nil : regsOk [] := ⟨List.nodup_nil, fun x hx => by cases hx⟩
def PutAt (H : Hp) (v : V) (p : Put) : Prop := match p with
  | none => v = .non
  | some l => ∃ a, v = .ref a ∧ H a = some (.lst (l.map V.str)) ∧ regsOk l
/-- what is behind both ways -/
theorem use_rest {P : Hp → Prop} {G : Prop} (C : Hp → Prop) (h1 : (∀ H1, C H1 → P H1) → G) (h2 : ∀ H1, C H1 → P H1) : G := h1 h2
section
variable {K : PySem.W.Frag} {H H' : Hp}
theorem NamesAt.up {n : Addr} (h : NamesAt K H n) (e : Same H H') : NamesAt K H' n := by
  obtain ⟨dx, c, f, t, d, r, fa, pa, p0, h0, h1, h2, h3, h4, h5, h6, h7, h8⟩ := h
  exact ⟨dx, c, f, t, d, r, fa, pa, p0, e _ _ h0, e _ _ h1, e _ _ h2, e _ _ h3, e _ _ h4, e _ _ h5, e _ _ h6, e _ _ h7, e.tup h8⟩
theorem RdAt.up {r l : Addr} (h : RdAt K H r l) (e : Same H H') : RdAt K H' r l := by
  obtain ⟨dx, n, u, h0, h1, h2⟩ := h
  exact ⟨dx, n, u, e _ _ h0, h1.up e, e _ _ h2⟩
theorem PutAt.up {v : V} {p : Put} (h : PutAt H v p) (e : Same H H') : PutAt H' v p := by
  cases p with
  | none => exact h
  | some l =>
    obtain ⟨a, h1, h2, h3⟩ := h
    exact ⟨a, h1, e _ _ h2, h3⟩
end
def spAll (K : PySem.W.Frag) : Sp := fun vs H Q _ => ∃ n, vs = [.ref n] ∧ NamesAt K H n ∧ ∀ l H', Same H H' → H l = none → H' l = some (.lst (used.map V.str)) → Q (.ref l) H'
def spDic (K : PySem.W.Frag) (d : List (Key × V)) : Sp := fun vs H Q _ => ∃ n, vs = [.ref n] ∧ NamesAt K H n ∧ ∀ p, H p = none → Q (.ref p) (upd H p (.dK d))
def spApart (K : PySem.W.Frag) : Sp := fun vs H Q _ => ∃ n, vs = [.ref n] ∧ NamesAt K H n ∧ ∀ p p0, H p = none → SqT K H p0 [.str "b", .str "a"] → Q (.ref p) (upd H p (.lst [.ref p0]))
def spReg (K : PySem.W.Frag) : Sp := fun vs H Q _ => ∃ r l v, vs = [.ref r, v] ∧ RdAt K H r l ∧ ((v = .non ∧ ∀ H', Same H H' → Q (.bl false) H') ∨ ∃ x, v = .str x ∧ regOk x = true ∧ ∀ H', Same H H' → Q (.bl true) H')
def spSrc (K : PySem.W.Frag) : Sp := fun vs H Q _ => ∃ r l x vp p sec, vs = [.ref r, .str x, vp, .str sec] ∧ RdAt K H r l ∧ PutAt H vp p ∧ srcOk (decide (sec = "turn")) p x = true ∧ ∀ H', Same H H' → Q (.bl true) H'
def spSrcs (K : PySem.W.Frag) : Sp := fun vs H Q _ => ∃ r l a ys vp p sec, vs = [.ref r, .ref a, .int (List.length (α := Str) ys), vp, .str sec] ∧ RdAt K H r l ∧ SqT K H a (ys.map V.str) ∧ ys.length ≤ 1000 ∧ PutAt H vp p ∧ ys.all (srcOk (decide (sec = "turn")) p) = true ∧ ∀ H', Same H H' → Q (.bl true) H'
section
variable {P : Program} {w : World} {K : PySem.W.Frag} {mg : Str → Option Value} {base : Heap}
theorem sc_Names_all_names : FnScope ["self"] ["self"] (defScope s_Names_all_names) := ⟨rfl, rfl, rfl, by decide +kernel, rfl, by decide +kernel, by decide +kernel⟩
theorem ok_Names_all_names (T : Txt K mg) : Met P w K mg base (1) (He.ga K "Names") "all_names" (spAll K) := by
  refine met_of T.d_Names_all_names T.c_Names T.m_Names_all_names sc_Names_all_names (fun _ _ _ _ _ _ us hl => match us, hl with | [_], _ => rfl) (fun vs H Q E h => ?_) (fun cdv A outer s H vs Q E hr h => ?_)
  · obtain ⟨n, rfl, ⟨dx, c, f, t, d, r, fa, pa, p0, h0, h1, h2, h3, h4, h5, h6, h7, h8⟩, k⟩ := h
    rfl
  obtain ⟨n, rfl, ⟨dx, c, f, t, d, r, fa, pa, p0, h0, h1, h2, h3, h4, h5, h6, h7, h8⟩, k⟩ := h
  have sc := sc_Names_all_names
  have hu := hu_of hr
  refine ⟨_, (pss_one (ps_ret (pe_op op_cat (pe_op op_cat (pe_op op_cat (pbt call_list_of T.b_list v_list (pa_cons (pe_fld (pv 0) rfl) pa_nil)) (pbt (call_list_dK rfl) T.b_list v_list (pa_cons (pe_fld (pv 0) rfl) pa_nil))) (pbt (call_list_dK rfl) T.b_list v_list (pa_cons (pe_fld (pv 0) rfl) pa_nil))) (pbt (call_list_dK rfl) T.b_list v_list (pa_cons (pe_fld (pv 0) rfl) pa_nil))))), ?_⟩
  refine ⟨_, rfl, _, _, dx, _, _, rfl, h0, T.c_Names, T.n_Names_constants, rfl, _, _, rfl, .inr (SqT.of h1), fun l1 e1 => ?_⟩
  have s1 : Same H (upd H l1 (.lst [.str "a", .str "b"])) := Same.new e1
  refine ⟨_, rfl, _, _, dx, _, _, rfl, s1 _ _ h0, T.c_Names, T.n_Names_some_functions, rfl, _, _, rfl, s1 _ _ h2, fun l2 e2 => ?_⟩
  have s2 : Same _ (upd (upd H l1 (.lst [.str "a", .str "b"])) l2 (.lst [.str "f", .str "g"])) := Same.new e2
  refine ⟨l1, l2, _, _, rfl, rfl, s2 _ _ upd_same, upd_same, by show _ ≤ sizeLine; decide, fun l3 e3 => ?_⟩
  have s3 := s1.trans (s2.trans (Same.new (o := .lst [.str "a", .str "b", .str "f", .str "g"]) e3))
  refine ⟨_, rfl, _, _, dx, _, _, rfl, s3 _ _ h0, T.c_Names, T.n_Names_some_tests, rfl, _, _, rfl, s3 _ _ h3, fun l4 e4 => ?_⟩
  have s4 := Same.new (o := .lst [.str "p"]) e4
  refine ⟨l3, l4, _, _, rfl, rfl, s4 _ _ upd_same, upd_same, by show _ ≤ sizeLine; decide, fun l5 e5 => ?_⟩
  have s5 := s3.trans (s4.trans (Same.new (o := .lst [.str "a", .str "b", .str "f", .str "g", .str "p"]) e5))
  refine ⟨_, rfl, _, _, dx, _, _, rfl, s5 _ _ h0, T.c_Names, T.n_Names_some_deeds, rfl, _, _, rfl, s5 _ _ h4, fun l6 e6 => ?_⟩
  have s6 := Same.new (o := .lst [.str "tell", .str "show"]) e6
  refine ⟨l5, l6, _, _, rfl, rfl, s6 _ _ upd_same, upd_same, by show _ ≤ sizeLine; decide, fun l7 e7 => ?_⟩
  exact k l7 _ (s5.trans (s6.trans (Same.new e7))) ((s5.trans s6).free e7) upd_same
theorem sc_Names_tests : FnScope ["self"] ["self"] (defScope s_Names_tests) := ⟨rfl, rfl, rfl, by decide +kernel, rfl, by decide +kernel, by decide +kernel⟩
theorem ok_Names_tests (T : Txt K mg) : Met P w K mg base (1) (He.ga K "Names") "tests" (spDic K dT) := by
  refine met_of T.d_Names_tests T.c_Names T.m_Names_tests sc_Names_tests (fun _ _ _ _ _ _ us hl => match us, hl with | [_], _ => rfl) (fun vs H Q E h => ?_) (fun cdv A outer s H vs Q E hr h => ?_)
  · obtain ⟨n, rfl, ⟨dx, c, f, t, d, r, fa, pa, p0, h0, h1, h2, h3, h4, h5, h6, h7, h8⟩, k⟩ := h
    rfl
  obtain ⟨n, rfl, ⟨dx, c, f, t, d, r, fa, pa, p0, h0, h1, h2, h3, h4, h5, h6, h7, h8⟩, k⟩ := h
  have sc := sc_Names_tests
  have hu := hu_of hr
  refine ⟨_, (pss_one (ps_ret (pbt call_dictD T.b_dict v_dict (pa_cons (pe_fld (pv 0) rfl) pa_nil)))), ?_⟩
  exact ⟨_, rfl, _, _, dx, _, _, rfl, h0, T.c_Names, T.n_Names_some_tests, rfl, _, _, rfl, .inl h3, k⟩
theorem sc_Names_functions : FnScope ["self"] ["self"] (defScope s_Names_functions) := ⟨rfl, rfl, rfl, by decide +kernel, rfl, by decide +kernel, by decide +kernel⟩
theorem ok_Names_functions (T : Txt K mg) : Met P w K mg base (1) (He.ga K "Names") "functions" (spDic K dF) := by
  refine met_of T.d_Names_functions T.c_Names T.m_Names_functions sc_Names_functions (fun _ _ _ _ _ _ us hl => match us, hl with | [_], _ => rfl) (fun vs H Q E h => ?_) (fun cdv A outer s H vs Q E hr h => ?_)
  · obtain ⟨n, rfl, ⟨dx, c, f, t, d, r, fa, pa, p0, h0, h1, h2, h3, h4, h5, h6, h7, h8⟩, k⟩ := h
    rfl
  obtain ⟨n, rfl, ⟨dx, c, f, t, d, r, fa, pa, p0, h0, h1, h2, h3, h4, h5, h6, h7, h8⟩, k⟩ := h
  have sc := sc_Names_functions
  have hu := hu_of hr
  refine ⟨_, (pss_one (ps_ret (pbt call_dictD T.b_dict v_dict (pa_cons (pe_fld (pv 0) rfl) pa_nil)))), ?_⟩
  exact ⟨_, rfl, _, _, dx, _, _, rfl, h0, T.c_Names, T.n_Names_some_functions, rfl, _, _, rfl, .inl h2, k⟩
theorem sc_Names_deeds : FnScope ["self"] ["self"] (defScope s_Names_deeds) := ⟨rfl, rfl, rfl, by decide +kernel, rfl, by decide +kernel, by decide +kernel⟩
theorem ok_Names_deeds (T : Txt K mg) : Met P w K mg base (1) (He.ga K "Names") "deeds" (spDic K dD) := by
  refine met_of T.d_Names_deeds T.c_Names T.m_Names_deeds sc_Names_deeds (fun _ _ _ _ _ _ us hl => match us, hl with | [_], _ => rfl) (fun vs H Q E h => ?_) (fun cdv A outer s H vs Q E hr h => ?_)
  · obtain ⟨n, rfl, ⟨dx, c, f, t, d, r, fa, pa, p0, h0, h1, h2, h3, h4, h5, h6, h7, h8⟩, k⟩ := h
    rfl
  obtain ⟨n, rfl, ⟨dx, c, f, t, d, r, fa, pa, p0, h0, h1, h2, h3, h4, h5, h6, h7, h8⟩, k⟩ := h
  have sc := sc_Names_deeds
  have hu := hu_of hr
  refine ⟨_, (pss_one (ps_ret (pbt call_dictD T.b_dict v_dict (pa_cons (pe_fld (pv 0) rfl) pa_nil)))), ?_⟩
  exact ⟨_, rfl, _, _, dx, _, _, rfl, h0, T.c_Names, T.n_Names_some_deeds, rfl, _, _, rfl, .inl h4, k⟩
theorem sc_Names_apart : FnScope ["self"] ["self"] (defScope s_Names_apart) := ⟨rfl, rfl, rfl, by decide +kernel, rfl, by decide +kernel, by decide +kernel⟩
theorem ok_Names_apart (T : Txt K mg) : Met P w K mg base (1) (He.ga K "Names") "apart" (spApart K) := by
  refine met_of T.d_Names_apart T.c_Names T.m_Names_apart sc_Names_apart (fun _ _ _ _ _ _ us hl => match us, hl with | [_], _ => rfl) (fun vs H Q E h => ?_) (fun cdv A outer s H vs Q E hr h => ?_)
  · obtain ⟨n, rfl, ⟨dx, c, f, t, d, r, fa, pa, p0, h0, h1, h2, h3, h4, h5, h6, h7, h8⟩, k⟩ := h
    rfl
  obtain ⟨n, rfl, ⟨dx, c, f, t, d, r, fa, pa, p0, h0, h1, h2, h3, h4, h5, h6, h7, h8⟩, k⟩ := h
  have sc := sc_Names_apart
  have hu := hu_of hr
  refine ⟨_, (pss_one (ps_ret (pbt call_list_of T.b_list v_list (pa_cons (pe_fld (pv 0) rfl) pa_nil)))), ?_⟩
  exact ⟨_, rfl, _, _, dx, _, _, rfl, h0, T.c_Names, T.n_Names_some_pairs, rfl, _, _, rfl, .inl (SqL.of h7), fun p hp => k p p0 hp h8⟩
theorem sc_Reader_is_register : FnScope ["self", "thing"] ["self", "thing"] (defScope s_Reader_is_register) := ⟨rfl, rfl, rfl, by decide +kernel, rfl, by decide +kernel, by decide +kernel⟩
theorem ok_Reader_is_register (T : Txt K mg) : Met P w K mg base (2) (He.ga K "Reader") "is_register" (spReg K) := by
  refine met_of T.d_Reader_is_register T.c_Reader T.m_Reader_is_register sc_Reader_is_register (fun _ _ _ _ _ _ us hl => match us, hl with | [_, _], _ => rfl) (fun vs H Q E h => ?_) (fun cdv A outer s H vs Q E hr h => ?_)
  · obtain ⟨r, l, v, rfl, ⟨dx, n, u, h0, h1, h2⟩, h⟩ := h
    rfl
  obtain ⟨r, l, v, rfl, ⟨dx, n, u, h0, h1, h2⟩, h⟩ := h
  have c_is_name := ok_is_name (P := P) (w := w) (base := base) T
  have sc := sc_Reader_is_register
  have hu := hu_of hr
  refine ⟨_, (pss_one (ps_ret (pe_and (pc c_is_name hr (by decide) (pa_cons (pv 1) pa_nil)) (pe_one (pe_cmpR op_notIn_seq (pv 1) (pe_fld (pv 0) rfl) (by rfl)))))), ?_⟩
  rcases h with ⟨rfl, k⟩ | ⟨x, rfl, hx, k⟩
  · exact ⟨_, rfl, .inl ⟨rfl, fun H1 s1 => ⟨_, rfl, k H1 s1⟩⟩⟩
  · have hx' : (nameOk x = true ∧ used.contains x = false) ∧ regW.contains x = true := by
      unfold regOk at hx
      simpa using hx
    refine ⟨_, rfl, .inr ⟨x, rfl, ?_, fun H1 s1 => ?_⟩⟩
    · have h := hx'.1.1
      unfold nameOk at h
      simp at h
      omega
    rw [hx'.1.1]
    refine ⟨_, rfl, _, rfl, _, rfl, _, _, dx, _, _, rfl, s1 _ _ h0, T.c_Reader, T.n_Reader_used, rfl, _, _, rfl, .inl (SqL.of (s1 _ _ h2)), rfl, flat_strs used, ?_⟩
    rw [inV_strs, hx'.1.2]
    exact k H1 s1
theorem nm_len {x : Str} (h : regOk x = true) : x.length ≤ 1000 := by
  have h1 : nameOk x = true := by
    unfold regOk at h
    simp at h
    exact h.1.1
  unfold nameOk at h1
  simp at h1
  omega
theorem put_in {K : PySem.W.Frag} {H : Hp} {x : Str} {l : List Str} : inV (.str x) (l.map V.str) = l.contains x := inV_strs x l
theorem sc_Reader_is_source : FnScope ["self", "thing", "put", "section"] ["self", "thing", "put", "section"] (defScope s_Reader_is_source) := ⟨rfl, rfl, rfl, by decide +kernel, rfl, by decide +kernel, by decide +kernel⟩
theorem ok_Reader_is_source (T : Txt K mg) : Met P w K mg base (3) (He.ga K "Reader") "is_source" (spSrc K) := by
  refine met_of T.d_Reader_is_source T.c_Reader T.m_Reader_is_source sc_Reader_is_source (fun _ _ _ _ _ _ us hl => match us, hl with | [_, _, _, _], _ => rfl) (fun vs H Q E h => ?_) (fun cdv A outer s H vs Q E hr h => ?_)
  · obtain ⟨r, l, x, vp, p, sec, rfl, ⟨dx, n, u, h0, h1, h2⟩, hp, hx, k⟩ := h
    rfl
  obtain ⟨r, l, x, vp, p, sec, rfl, ⟨dx, n, u, h0, h1, h2⟩, hp, hx, k⟩ := h
  have c_Reader_is_register := ok_Reader_is_register (P := P) (w := w) (base := base) T
  have sc := sc_Reader_is_source
  have hu := hu_of hr
  refine ⟨_, (pss_cons (ps_if (pt_not (pt_val (pb call_isi T.b_isinstance v_isinstance (pa_cons (pv 1) (pa_cons (p_ty T.b_str v_str) pa_nil))))) (pss_one (ps_ret pe_bl)) pss_nil)
      (pss_cons (ps_if (pt_cmpR op_eq (pv 1) pe_str (nomark _)) (pss_one (ps_ret (pe_cmpR op_eq (pv 3) pe_str (nomark _)))) pss_nil)
      (pss_cons (ps_if (pt_cmpR op_in_seq (pv 1) (pe_fld (pe_fld (pv 0) rfl) rfl) (by rfl)) (pss_one (ps_ret pe_bl)) pss_nil)
      (pss_one (ps_ret (pe_and (pmt c_Reader_is_register hr (by decide) (pv 0) (pa_cons (pv 1) pa_nil)) (pe_one (pe_or (pe_cmpR op_isN (pv 2) pe_non (nomark _)) (pe_one (pe_cmpR op_in_seq (pv 1) (pv 2) (by rfl))))))))))), ?_⟩
  refine ⟨_, rfl, _, _, _, _, _, rfl, .ty _, .base (.str _), kt_str_str, _, rfl, iteF ?_⟩
  refine ⟨_, rfl, rfl, _, rfl, ?_⟩
  unfold srcOk at hx
  refine ite2 (fun e => ?_) (fun e => ?_)
  · have e : x = "item" := V.str.inj (of_decide_eq_true e)
    subst e
    rw [if_pos rfl] at hx
    refine ⟨_, rfl, rfl, ?_⟩
    have e2 : (decide (V.str sec = V.str "turn")) = true := decide_eq_true (congrArg V.str (of_decide_eq_true hx))
    rw [e2]
    exact k H (Same.refl H)
  have e : ¬ x = "item" := fun z => e (decide_eq_true (congrArg V.str z))
  rw [if_neg e] at hx
  have h1' := h1
  obtain ⟨dn, c, f, t, d, ru, fa, pa, p0, g0, g1, g2, g3, g4, g5, g6, g7, g8⟩ := h1'
  refine ⟨_, rfl, _, rfl, _, _, dx, _, _, rfl, h0, T.c_Reader, T.n_Reader_names, rfl, _, _, dn, _, _, rfl, g0, T.c_Names, T.n_Names_constants, rfl, _, _, rfl, .inr (SqT.of g1), rfl, rfl, _, rfl, ?_⟩
  refine ite2 (fun e => ?_) (fun e => ?_)
  · exact k H (Same.refl H)
  have e2 : consts.contains x = false := (inV_strs x consts).symm.trans (Bool.eq_false_iff.mpr e)
  rw [e2, if_neg Bool.false_ne_true] at hx
  obtain ⟨e3, e4⟩ := Bool.and_eq_true_iff.mp hx
  refine ⟨_, rfl, _, dx, _, rfl, h0, rfl, _, rfl, r, l, _, rfl, ⟨dx, n, u, h0, h1, h2⟩, .inr ⟨x, rfl, e3, fun H1 s1 => ?_⟩⟩
  refine ⟨_, rfl, vp, rfl, rfl, ?_⟩
  cases p with
  | none =>
    cases hp
    exact ⟨_, rfl, k H1 s1⟩
  | some pl =>
    obtain ⟨q, rfl, q1, q2⟩ := hp
    refine ⟨_, rfl, ?_⟩
    refine iteF ⟨_, rfl, _, rfl, _, _, rfl, .inl (SqL.of (s1 _ _ q1)), rfl, flat_strs pl, ?_⟩
    rw [if_neg Bool.false_ne_true, inV_strs]
    have e5 : pl.contains x = true := e4
    rw [e5]
    exact k H1 s1
theorem sc_Reader_are_sources : FnScope ["self", "things", "number", "put", "section", "thing"] ["self", "things", "number", "put", "section"] (defScope s_Reader_are_sources) := ⟨rfl, rfl, rfl, by decide +kernel, rfl, by decide +kernel, by decide +kernel⟩
theorem ok_Reader_are_sources (T : Txt K mg) : Met P w K mg base (4) (He.ga K "Reader") "are_sources" (spSrcs K) := by
  refine met_of T.d_Reader_are_sources T.c_Reader T.m_Reader_are_sources sc_Reader_are_sources (fun _ _ _ _ _ _ us hl => match us, hl with | [_, _, _, _, _], _ => rfl) (fun vs H Q E h => ?_) (fun cdv A outer s H vs Q E hr h => ?_)
  · obtain ⟨r, l, a, ys, vp, p, sec, rfl, hr0, ha, hl, hp, hx, k⟩ := h
    rfl
  obtain ⟨r, l, a, ys, vp, p, sec, rfl, hr0, ha, hl, hp, hx, k⟩ := h
  have c_Reader_is_source := ok_Reader_is_source (P := P) (w := w) (base := base) T
  have sc := sc_Reader_are_sources
  have hu := hu_of hr
  refine ⟨_, (pss_one (ps_ret (pe_and (pe_cmpR op_eq (pb call_len T.b_len v_len (pa_cons (pv 1) pa_nil)) (pv 2) (nomark _)) (pe_one (pb (cr_all rfl) T.b_all v_all (pa_cons (pe_lc (own := [("thing", 5)]) (g := gName 5) (tt := tYes) rfl sc.nd (pi_tup (pv 1)) (blkOk_by (N := ["self", "things", "number", "put", "section", "thing"]) (sc := defScope s_Reader_are_sources) (by decide +kernel)) (fun _ _ _ _ _ => (pgn 5 sc.nd)) (fun _ _ _ _ _ => pts_nil) (fun _ _ _ _ _ => (pmt c_Reader_is_source hr (by decide) (pv 0) (pa_cons (pv 5) (pa_cons (pv 3) (pa_cons (pv 4) pa_nil)))))) pa_nil)))))), ?_⟩
  refine ⟨_, rfl, _, _, rfl, .inr ⟨_, ha, rfl⟩, _, rfl, rfl, _, rfl, ?_⟩
  rw [decide_eq_true (show V.int ((ys.map V.str).length : Nat) = V.int (ys.length : Nat) by rw [List.length_map])]
  refine iteT ?_
  refine ⟨_, rfl, a, rfl, ⟨_, ha⟩, fun D hD => ?_⟩
  refine lc_map walk_tup hD (by rw [List.length_map]; omega) (fun _ => .bl true) (fun H1 s1 => s1.tup ha) ?_ ?_
  · rintro i v H1 H2 hi s1 ⟨rfl, hv⟩ R kR
    rw [List.getElem?_map] at hv
    cases e : ys[i]? with
    | none =>
      rw [e] at hv
      cases hv
    | some y =>
      rw [e] at hv
      cases hv
      obtain ⟨dx, n, u, g0, g1, g2⟩ := hr0.up s1
      exact ⟨rfl, _, rfl, _, dx, _, rfl, g0, rfl, _, rfl, _, rfl, _, rfl, r, l, y, vp, p, sec, rfl, hr0.up s1, hp.up s1, List.all_eq_true.mp hx y (List.mem_of_getElem? e), fun H3 s3 => kR H3 s3⟩
  · intro H1 s1 hl1
    refine ⟨D, (List.range (ys.map V.str).length).map fun _ => true, rfl, SqL.of ?_, ?_⟩
    · rw [hl1, List.map_map]
      rfl
    · have e : ((List.range (ys.map V.str).length).map fun _ => true).all id = true := by
        rw [List.all_map, List.all_eq_true]
        intro _ _
        rfl
      rw [e]
      exact k _ (s1.trans hid_in)
end
end K21
set_option Elab.async false
set_option linter.all false
set_option maxRecDepth 100000
set_option maxHeartbeats 4000000
namespace K21
open PySem PySem.Spec PyProof.Rows L2
section
variable {K : PySem.W.Frag} {H H' : Hp}
theorem dp_tup {v : V} {ds : List PyData} (h : Dp K H v (.tuple ds)) : ∃ a xs, v = .ref a ∧ SqT K H a xs ∧ DpAll K H xs ds := by
  cases h with
  | tup a b => exact ⟨_, _, rfl, a, b⟩
theorem dp_lst {v : V} {ds : List PyData} (h : Dp K H v (.list ds)) : ∃ a xs, v = .ref a ∧ SqL K H a xs ∧ DpAll K H xs ds := by
  cases h with
  | lst a b => exact ⟨_, _, rfl, a, b⟩
theorem dpa_cons {xs : List V} {d : PyData} {ds : List PyData} (h : DpAll K H xs (d :: ds)) : ∃ v r, xs = v :: r ∧ Dp K H v d ∧ DpAll K H r ds := by
  cases h with
  | cons a b => exact ⟨_, _, rfl, a, b⟩
theorem dpa_str {xs : List V} {x : Str} {ds : List PyData} (h : DpAll K H xs (.str x :: ds)) : ∃ r, xs = .str x :: r ∧ DpAll K H r ds := by
  cases h with
  | cons a b =>
    cases a
    exact ⟨_, rfl, b⟩
theorem dpa_none {xs : List V} {ds : List PyData} (h : DpAll K H xs (.none :: ds)) : ∃ r, xs = .non :: r ∧ DpAll K H r ds := by
  cases h with
  | cons a b =>
    cases a
    exact ⟨_, rfl, b⟩
end
theorem ariT_inv {p : Str} {n : Nat} (h : ariT p = some n) : p = "p" ∧ n = 2 := by
  unfold ariT at h
  split at h
  · rename_i e
    exact ⟨e, (Option.some.inj h).symm⟩
  · cases h
theorem ariF_inv {p : Str} {n : Nat} (h : ariF p = some n) : (p = "f" ∧ n = 1) ∨ (p = "g" ∧ n = 2) := by
  unfold ariF at h
  split at h
  · rename_i e
    exact .inl ⟨e, (Option.some.inj h).symm⟩
  · split at h
    · rename_i e
      exact .inr ⟨e, (Option.some.inj h).symm⟩
    · cases h
theorem ariD_inv {p : Str} {n : Nat} (h : ariD p = some n) : (p = "tell" ∧ n = 1) ∨ (p = "show" ∧ n = 2) := by
  unfold ariD at h
  split at h
  · rename_i e
    exact .inl ⟨e, (Option.some.inj h).symm⟩
  · split at h
    · rename_i e
      exact .inr ⟨e, (Option.some.inj h).symm⟩
    · cases h
def spTst (K : PySem.W.Frag) : Sp := fun vs H Q _ => ∃ r l v t vp p sec, vs = [.ref r, v, vp, .str sec] ∧ RdAt K H r l ∧ Dp K H v (encT t) ∧ PutAt H vp p ∧ tstOk (decide (sec = "turn")) p t = true ∧ ∀ H', Same H H' → Q (.bl true) H'
theorem valV_F {f : Str} {n : Nat} (h : ariF f = some n) : valV dF (.inr f) = some (.int n) := by
  rcases ariF_inv h with ⟨rfl, rfl⟩ | ⟨rfl, rfl⟩ <;> rfl
theorem valV_D {f : Str} {n : Nat} (h : ariD f = some n) : valV dD (.inr f) = some (.int n) := by
  rcases ariD_inv h with ⟨rfl, rfl⟩ | ⟨rfl, rfl⟩ <;> rfl
theorem ariF_le {f : Str} {n : Nat} (h : ariF f = some n) : n ≤ 2 := by
  rcases ariF_inv h with ⟨_, rfl⟩ | ⟨_, rfl⟩ <;> omega
theorem ariD_le {f : Str} {n : Nat} (h : ariD f = some n) : n ≤ 2 := by
  rcases ariD_inv h with ⟨_, rfl⟩ | ⟨_, rfl⟩ <;> omega
theorem cut3 (a b c : V) : ∀ ys : List V, ys.length ≤ 2 → cutV (a :: b :: c :: ys) (some 3) none = ys ∧ ¬ (HT.sIx (a :: b :: c :: ys).length 0 (some 3) = 0 ∧ HT.sIx (a :: b :: c :: ys).length (a :: b :: c :: ys).length none = (a :: b :: c :: ys).length)
  | [], _ => ⟨rfl, fun z => by cases z.1⟩
  | [_], _ => ⟨rfl, fun z => by cases z.1⟩
  | [_, _], _ => ⟨rfl, fun z => by cases z.1⟩
  | _ :: _ :: _ :: _, h => absurd h (by simp)
def spPlain (K : PySem.W.Frag) (b : Bool) : Sp := fun vs H Q _ => ∃ r l v s vp p sec, vs = [.ref r, v, vp, .str sec] ∧ RdAt K H r l ∧ Dp K H v (enc b s) ∧ PutAt H vp p ∧
  ((s = .leave ∧ ∀ H', Same H H' → Q (.bl false) H') ∨ (s.nI = 0 ∧ s.nL = 0 ∧ (chkS (decide (sec = "turn")) s p).isSome = true ∧ ∀ H', Same H H' → Q (.bl true) H'))
def spLeave (K : PySem.W.Frag) (b : Bool) : Sp := fun vs H Q _ => ∃ r v, vs = [r, v, .str "turn", .bl true] ∧ Dp K H v (enc b .leave) ∧ ∀ H', Same H H' → Q (.bl true) H'
section
variable {P : Program} {w : World} {K : PySem.W.Frag} {mg : Str → Option Value} {base : Heap} {b : Bool}
theorem sc_Reader_is_test : FnScope ["self", "test", "put", "section", "tests"] ["self", "test", "put", "section"] (defScope s_Reader_is_test) := ⟨rfl, rfl, rfl, by decide +kernel, rfl, by decide +kernel, by decide +kernel⟩
theorem ok_Reader_is_test (T : Txt K mg) : Met P w K mg base (5) (He.ga K "Reader") "is_test" (spTst K) := by
  refine met_of T.d_Reader_is_test T.c_Reader T.m_Reader_is_test sc_Reader_is_test (fun _ _ _ _ _ _ us hl => match us, hl with | [_, _, _, _], _ => rfl) (fun vs H Q E h => ?_) (fun cdv A outer s H vs Q E hr h => ?_)
  · obtain ⟨r, l, v, t, vp, p, sec, rfl, hr0, hd, hp, hx, k⟩ := h
    rfl
  obtain ⟨r, l, v, t, vp, p, sec, rfl, hr0, hd, hp, hx, k⟩ := h
  have c_is_row_loops : Cal P w K mg base 1 "is_row_loops" (spRow K) := ok_is_row_loops T
  have c_Reader_are_sources := ok_Reader_are_sources (P := P) (w := w) (base := base) T
  have c_Names_tests := ok_Names_tests (P := P) (w := w) (base := base) T
  have sc := sc_Reader_is_test
  have hu := hu_of hr
  refine ⟨_, (pss_cons (ps_if (PW.pt (pw_or (pt_not (pt_val (pc c_is_row_loops hr (by decide) (pa_cons (pv 1) pa_nil)))) (pw_or (pt_cmpR op_lt (pb call_len T.b_len v_len (pa_cons (pv 1) pa_nil)) pe_int (nomark _)) (pw_or1 (pt_not (pt_val (pb call_isi T.b_isinstance v_isinstance (pa_cons (pe_ix ix_tup (pv 1) pe_int (fun _ _ => rfl)) (pa_cons (p_ty T.b_str v_str) pa_nil))))))))) (pss_one (ps_ret pe_bl)) pss_nil)
      (pss_cons (ps_if (pt_cmpR op_eq (pe_ix ix_tup (pv 1) pe_int (fun _ _ => rfl)) pe_str (nomark _)) (pss_one (ps_ret (pmt c_Reader_are_sources hr (by decide) (pv 0) (pa_cons (pe_slice sl_tup (pv 1) (po_some pe_int) po_none) (pa_cons pe_int (pa_cons (pv 2) (pa_cons (pv 3) pa_nil))))))) pss_nil)
      (pss_cons (pset 4 sc.nd (pmt0 c_Names_tests hr (by decide) (pe_fld (pv 0) rfl)))
      (pss_cons (ps_if (PW.pt (pw_or (pt_cmpR op_ne (pe_ix ix_tup (pv 1) pe_int (fun _ _ => rfl)) pe_str (nomark _)) (pw_or (pt_not (pt_val (pb call_isi T.b_isinstance v_isinstance (pa_cons (pe_ix ix_tup (pv 1) pe_int (fun _ _ => rfl)) (pa_cons (p_ty T.b_str v_str) pa_nil))))) (pw_or1 (pt_cmp (pc_dnotin hu (pe_ix ix_tup (pv 1) pe_int (fun _ _ => rfl)) (pv 4))))))) (pss_one (ps_ret pe_bl)) pss_nil)
      (pss_one (ps_ret (pmt c_Reader_are_sources hr (by decide) (pv 0) (pa_cons (pe_slice sl_tup (pv 1) (po_some pe_int) po_none) (pa_cons (pe_dget hu (pv 4) (pe_ix ix_tup (pv 1) pe_int (fun _ _ => rfl)) (fun _ _ => rfl)) (pa_cons (pv 2) (pa_cons (pv 3) pa_nil))))))))))), ?_⟩
  cases t with
  | same y z =>
    rw [encT] at hd
    refine ⟨_, rfl, _, _, rfl, hd, fun H1 s1 => ⟨_, rfl, iteF ?_⟩⟩
    obtain ⟨a, xs, rfl, ha, hxs⟩ := dp_tup (hd.up s1)
    have e : xs = ([("same" : Str), y, z]).map V.str := dpAll_strs_inv (xs := ["same", y, z]) hxs
    subst e
    obtain ⟨dx, n, u, g0, g1, g2⟩ := hr0.up s1
    refine ⟨_, rfl, _, _, rfl, .inr ⟨_, ha, rfl⟩, _, _, rfl, rfl, _, rfl, iteF ?_⟩
    refine ⟨_, rfl, _, _, _, _, rfl, rfl, ha, rfl, _, _, _, _, _, rfl, .ty _, .base (.str _), kt_str_str, _, rfl, iteF ?_⟩
    refine ⟨_, rfl, _, _, _, _, rfl, rfl, ha, rfl, rfl, _, rfl, iteT ?_⟩
    refine ⟨_, rfl, _, dx, _, rfl, g0, rfl, _, rfl, _, rfl, a, _, rfl, ha, (fun z => by cases z.1), fun p1 e1 => ?_⟩
    have s2 := s1.trans (Same.new (o := .tup [.str y, .str z]) e1)
    refine ⟨_, rfl, _, rfl, r, l, p1, [y, z], _, p, sec, rfl, hr0.up s2, SqT.of upd_same, (by show 2 ≤ 1000; omega), hp.up s2, ?_, fun H3 s3 => k _ (s2.trans s3)⟩
    rw [tstOk] at hx
    rw [List.all_cons, List.all_cons, List.all_nil, Bool.and_true]
    exact hx
  | ask q ys =>
    rw [encT] at hd
    rw [tstOk] at hx
    obtain ⟨hx1, hx2⟩ := Bool.and_eq_true_iff.mp hx
    obtain ⟨rfl, h2⟩ := ariT_inv (of_decide_eq_true hx1)
    refine ⟨_, rfl, _, _, rfl, hd, fun H1 s1 => ⟨_, rfl, iteF ?_⟩⟩
    obtain ⟨a, xs, rfl, ha, hxs⟩ := dp_tup (hd.up s1)
    have e : xs = (("ask" : Str) :: ("p" : Str) :: ys).map V.str := dpAll_strs_inv (xs := "ask" :: "p" :: ys) hxs
    subst e
    obtain ⟨dx, n, u, g0, g1, g2⟩ := hr0.up s1
    obtain ⟨y, z, rfl⟩ : ∃ y z, ys = [y, z] := by
      match ys, h2 with
      | [y, z], _ => exact ⟨y, z, rfl⟩
    refine ⟨_, rfl, _, _, rfl, .inr ⟨_, ha, rfl⟩, _, _, rfl, rfl, _, rfl, iteF ?_⟩
    refine ⟨_, rfl, _, _, _, _, rfl, rfl, ha, rfl, _, _, _, _, _, rfl, .ty _, .base (.str _), kt_str_str, _, rfl, iteF ?_⟩
    refine ⟨_, rfl, _, _, _, _, rfl, rfl, ha, rfl, rfl, _, rfl, iteF ?_⟩
    obtain ⟨dn, cc, ff, tt, ddd, ru, fa, pa, p0, j0, jr⟩ := id g1
    refine ⟨_, rfl, _, _, dx, _, _, rfl, g0, T.c_Reader, T.n_Reader_names, rfl, _, dn, _, rfl, j0, rfl, n, rfl, g1, fun p1 e1 => ?_⟩
    have s2 := Same.new (o := .dK dT) e1
    refine ⟨_, rfl, _, _, _, _, rfl, rfl, s2.tup ha, rfl, rfl, _, rfl, iteF ?_⟩
    refine ⟨_, rfl, _, _, _, _, rfl, rfl, s2.tup ha, rfl, _, _, _, _, _, rfl, .ty _, .base (.str _), kt_str_str, _, rfl, iteF ?_⟩
    refine ⟨_, rfl, _, _, _, _, rfl, rfl, s2.tup ha, rfl, _, rfl, p1, _, rfl, .inl ⟨dT, .inr "p", .inl upd_same, rfl, rfl⟩, _, rfl, iteF ?_⟩
    refine ⟨_, rfl, _, dx, _, rfl, s2 _ _ g0, rfl, _, rfl, _, rfl, a, _, rfl, s2.tup ha, (fun z => by cases z.1), fun p2 e2 => ?_⟩
    have s3 := s2.trans (Same.new (o := .tup [.str y, .str z]) e2)
    have s4 := s1.trans s3
    refine ⟨_, rfl, _, rfl, _, _, _, _, rfl, rfl, s3.tup ha, rfl, p1, _, rfl, .inl ⟨dT, .inr "p", .inl ((Same.new e2) _ _ upd_same), rfl, rfl⟩, ?_⟩
    exact ⟨_, rfl, _, rfl, r, l, p2, [y, z], _, p, sec, rfl, hr0.up s4, SqT.of upd_same, (by show 2 ≤ 1000; omega), hp.up s4, hx2, fun H3 s5 => k _ (s4.trans s5)⟩
theorem sc_Reader_is_plain : FnScope ["self", "thing", "put", "section", "some"] ["self", "thing", "put", "section"] (defScope s_Reader_is_plain) := ⟨rfl, rfl, rfl, by decide +kernel, rfl, by decide +kernel, by decide +kernel⟩
theorem ok_Reader_is_plain (T : Txt K mg) : Met P w K mg base (5) (He.ga K "Reader") "is_plain" (spPlain K b) := by
  refine met_of T.d_Reader_is_plain T.c_Reader T.m_Reader_is_plain sc_Reader_is_plain (fun _ _ _ _ _ _ us hl => match us, hl with | [_, _, _, _], _ => rfl) (fun vs H Q E h => ?_) (fun cdv A outer s H vs Q E hr h => ?_)
  · obtain ⟨r, l, v, st, vp, p, sec, rfl, hr0, hd, hp, hx⟩ := h
    rfl
  obtain ⟨r, l, v, st, vp, p, sec, rfl, hr0, hd, hp, hx⟩ := h
  have c_is_row_loops : Cal P w K mg base 1 "is_row_loops" (spRow K) := ok_is_row_loops T
  have c_Reader_is_register := ok_Reader_is_register (P := P) (w := w) (base := base) T
  have c_Reader_are_sources := ok_Reader_are_sources (P := P) (w := w) (base := base) T
  have c_Names_functions := ok_Names_functions (P := P) (w := w) (base := base) T
  have c_Names_deeds := ok_Names_deeds (P := P) (w := w) (base := base) T
  have sc := sc_Reader_is_plain
  have hu := hu_of hr
  refine ⟨_, (pss_cons (ps_if (PW.pt (pw_or (pt_not (pt_val (pc c_is_row_loops hr (by decide) (pa_cons (pv 1) pa_nil)))) (pw_or (pt_cmpR op_lt (pb call_len T.b_len v_len (pa_cons (pv 1) pa_nil)) pe_int (nomark _)) (pw_or1 (pt_not (pt_val (pb call_isi T.b_isinstance v_isinstance (pa_cons (pe_ix ix_tup (pv 1) pe_int (fun _ _ => rfl)) (pa_cons (p_ty T.b_str v_str) pa_nil))))))))) (pss_one (ps_ret pe_bl)) pss_nil)
      (pss_cons (ps_if (pt_cmpR op_eq (pe_ix ix_tup (pv 1) pe_int (fun _ _ => rfl)) pe_str (nomark _)) (pss_one (ps_ret (pe_and (pmt c_Reader_is_register hr (by decide) (pv 0) (pa_cons (pe_ix ix_tup (pv 1) pe_int (fun _ _ => rfl)) pa_nil)) (pe_one (pmt c_Reader_are_sources hr (by decide) (pv 0) (pa_cons (pe_slice sl_tup (pv 1) (po_some pe_int) po_none) (pa_cons pe_int (pa_cons (pv 2) (pa_cons (pv 3) pa_nil))))))))) pss_nil)
      (pss_cons (pset 4 sc.nd (pe_ifExp (pt_cmpR op_eq (pe_ix ix_tup (pv 1) pe_int (fun _ _ => rfl)) pe_str (nomark _)) (pmt0 c_Names_functions hr (by decide) (pe_fld (pv 0) rfl)) (pmt0 c_Names_deeds hr (by decide) (pe_fld (pv 0) rfl))))
      (pss_cons (ps_if (PW.pt (pw_or (pt_cmpR op_notIn_seq (pe_ix ix_tup (pv 1) pe_int (fun _ _ => rfl)) (pe_tup (pa_cons pe_str (pa_cons pe_str pa_nil))) (by rfl)) (pw_or (pt_not (pt_val (pb call_isi T.b_isinstance v_isinstance (pa_cons (pe_ix ix_tup (pv 1) pe_int (fun _ _ => rfl)) (pa_cons (p_ty T.b_str v_str) pa_nil))))) (pw_or1 (pt_cmp (pc_dnotin hu (pe_ix ix_tup (pv 1) pe_int (fun _ _ => rfl)) (pv 4))))))) (pss_one (ps_ret pe_bl)) pss_nil)
      (pss_cons (ps_if (PW.pt (pw_and (pt_not (pt_val (pmt c_Reader_is_register hr (by decide) (pv 0) (pa_cons (pe_ix ix_tup (pv 1) pe_int (fun _ _ => rfl)) pa_nil)))) (pw_and1 (PW.pt (pw_or (pt_cmpR op_eq (pe_ix ix_tup (pv 1) pe_int (fun _ _ => rfl)) pe_str (nomark _)) (pw_or1 (pt_cmpR op_notN (pe_ix ix_tup (pv 1) pe_int (fun _ _ => rfl)) pe_non (nomark _)))))))) (pss_one (ps_ret pe_bl)) pss_nil)
      (pss_one (ps_ret (pmt c_Reader_are_sources hr (by decide) (pv 0) (pa_cons (pe_slice sl_tup (pv 1) (po_some pe_int) po_none) (pa_cons (pe_dget hu (pv 4) (pe_ix ix_tup (pv 1) pe_int (fun _ _ => rfl)) (fun _ _ => rfl)) (pa_cons (pv 2) (pa_cons (pv 3) pa_nil)))))))))))), ?_⟩
  rcases hx with ⟨rfl, k⟩ | ⟨hI, hL, hx, k⟩
  · rw [enc] at hd
    refine ⟨_, rfl, _, _, rfl, hd, fun H1 s1 => ⟨_, rfl, iteF ?_⟩⟩
    obtain ⟨a, xs, rfl, ha, hxs⟩ := dp_tup (hd.up s1)
    have e : xs = ([("leave" : Str)]).map V.str := dpAll_strs_inv (xs := ["leave"]) hxs
    subst e
    exact ⟨_, rfl, _, _, rfl, .inr ⟨_, ha, rfl⟩, _, _, rfl, rfl, _, rfl, iteT (k _ s1)⟩
  cases st with
  | leave => cases hL
  | ite t x y =>
    rw [nI_ite] at hI
    omega
  | put x y =>
    rw [enc] at hd
    rw [chkS] at hx
    have hx' : regOk x = true ∧ srcOk (decide (sec = "turn")) p y = true := by
      split at hx
      · rename_i e
        exact Bool.and_eq_true_iff.mp e
      · cases hx
    refine ⟨_, rfl, _, _, rfl, hd, fun H1 s1 => ⟨_, rfl, iteF ?_⟩⟩
    obtain ⟨a, xs, rfl, ha, hxs⟩ := dp_tup (hd.up s1)
    have e : xs = ([("put" : Str), x, y]).map V.str := dpAll_strs_inv (xs := ["put", x, y]) hxs
    subst e
    refine ⟨_, rfl, _, _, rfl, .inr ⟨_, ha, rfl⟩, _, _, rfl, rfl, _, rfl, iteF ?_⟩
    refine ⟨_, rfl, _, _, _, _, rfl, rfl, ha, rfl, _, _, _, _, _, rfl, .ty _, .base (.str _), kt_str_str, _, rfl, iteF ?_⟩
    refine ⟨_, rfl, _, _, _, _, rfl, rfl, ha, rfl, rfl, _, rfl, iteT ?_⟩
    have hr1 := hr0.up s1
    obtain ⟨dx, n, u, g0, g1, g2⟩ := id hr1
    refine ⟨_, rfl, _, dx, _, rfl, g0, rfl, _, rfl, _, _, _, _, rfl, rfl, ha, rfl, r, l, _, rfl, hr1, .inr ⟨x, rfl, hx'.1, fun H2 s2 => ⟨_, rfl, iteT ?_⟩⟩⟩
    refine ⟨_, rfl, _, dx, _, rfl, s2 _ _ g0, rfl, _, rfl, _, rfl, a, _, rfl, s2.tup ha, (fun z => by cases z.1), fun p1 e1 => ?_⟩
    have s3 := s1.trans (s2.trans (Same.new (o := .tup [.str y]) e1))
    refine ⟨_, rfl, _, rfl, r, l, p1, [y], _, p, sec, rfl, hr0.up s3, SqT.of upd_same, (by show 1 ≤ 1000; omega), hp.up s3, ?_, fun H3 s4 => k _ (s3.trans s4)⟩
    rw [List.all_cons, List.all_nil, Bool.and_true]
    exact hx'.2
  | call x f ys =>
    rw [enc] at hd
    rw [chkS] at hx
    have hx' : regOk x = true ∧ (ariF f = some ys.length ∧ ys.all (srcOk (decide (sec = "turn")) p) = true) := by
      split at hx
      · rename_i e
        obtain ⟨e1, e2⟩ := Bool.and_eq_true_iff.mp e
        obtain ⟨e3, e4⟩ := Bool.and_eq_true_iff.mp e2
        exact ⟨e1, of_decide_eq_true e3, e4⟩
      · cases hx
    obtain ⟨hreg, hq, hy⟩ := hx'
    have ha2 : ys.length ≤ 2 := ariF_le hq
    refine ⟨_, rfl, _, _, rfl, hd, fun H1 s1 => ⟨_, rfl, iteF ?_⟩⟩
    obtain ⟨a, xs, rfl, ha, hxs⟩ := dp_tup (hd.up s1)
    have e : xs = (("call" : Str) :: x :: f :: ys).map V.str := dpAll_strs_inv (xs := "call" :: x :: f :: ys) hxs
    subst e
    have at0 : atI ((("call" : Str) :: x :: f :: ys).map V.str) 0 = some (.str "call") := atI_nat (j := 0) rfl
    have at1 : atI ((("call" : Str) :: x :: f :: ys).map V.str) 1 = some (.str x) := atI_nat (j := 1) rfl
    have at2 : atI ((("call" : Str) :: x :: f :: ys).map V.str) 2 = some (.str f) := atI_nat (j := 2) rfl
    have ha3 : (ys.map V.str).length ≤ 2 := by rw [List.length_map]; exact ha2
    refine ⟨_, rfl, _, _, rfl, .inr ⟨_, ha, rfl⟩, _, _, rfl, rfl, _, rfl, ?_⟩
    rw [decide_eq_false (by simp [List.length_cons]; omega)]
    refine iteF ?_
    refine ⟨_, rfl, _, _, _, _, rfl, rfl, ha, at0, _, _, _, _, _, rfl, .ty _, .base (.str _), kt_str_str, _, rfl, iteF ?_⟩
    refine ⟨_, rfl, _, _, _, _, rfl, rfl, ha, at0, rfl, _, rfl, iteF ?_⟩
    have hr1 := hr0.up s1
    obtain ⟨dx, n, u, g0, g1, g2⟩ := id hr1
    obtain ⟨dn, cc, ff, tt, ddd, ru, fa, pa, p0, j0, jr⟩ := id g1
    refine ⟨_, rfl, _, _, _, _, rfl, rfl, ha, at0, rfl, _, rfl, iteT ?_⟩
    refine ⟨_, rfl, _, _, dx, _, _, rfl, g0, T.c_Reader, T.n_Reader_names, rfl, _, dn, _, rfl, j0, rfl, n, rfl, g1, fun p1 e1 => ?_⟩
    have s2 := Same.new (o := .dK dF) e1
    refine ⟨_, rfl, _, _, _, _, rfl, rfl, s2.tup ha, at0, (by show 2 ≤ sizeLine; decide), fun p2 e2 => ⟨p2, _, rfl, .inr (SqT.of upd_same), rfl, rfl, _, rfl, ?_⟩⟩
    refine iteF ?_
    have s3 := s2.trans (Same.new (o := .tup [.str "call", .str "do"]) e2)
    refine ⟨_, rfl, _, _, _, _, rfl, rfl, s3.tup ha, at2, _, _, _, _, _, rfl, .ty _, .base (.str _), kt_str_str, _, rfl, iteF ?_⟩
    have hdic : upd (upd H1 p1 (.dK dF)) p2 (.tup [.str "call", .str "do"]) p1 = some (.dK dF) := (Same.new e2) _ _ upd_same
    refine ⟨_, rfl, _, _, _, _, rfl, rfl, s3.tup ha, at2, _, rfl, p1, some (.int ys.length), rfl, .inl ⟨dF, .inr f, .inl hdic, rfl, (valV_F hq).symm⟩, _, rfl, iteF ?_⟩
    have s4 := s1.trans s3
    refine ⟨_, rfl, _, dx, _, rfl, s3 _ _ g0, rfl, _, rfl, _, _, _, _, rfl, rfl, s3.tup ha, at1, r, l, _, rfl, hr0.up s4, .inr ⟨x, rfl, hreg, fun H5 s5 => ⟨_, rfl, iteF ?_⟩⟩⟩
    refine ⟨_, rfl, _, dx, _, rfl, s5 _ _ (s3 _ _ g0), rfl, _, rfl, _, rfl, a, _, rfl, s5.tup (s3.tup ha), (cut3 _ _ _ _ ha3).2, fun p3 e3 => ?_⟩
    rw [show cutV ((("call" : Str) :: x :: f :: ys).map V.str) (some 3) none = ys.map V.str from (cut3 _ _ _ _ ha3).1]
    have s6 := Same.new (o := .tup (ys.map V.str)) e3
    have s7 := s4.trans (s5.trans s6)
    refine ⟨_, rfl, _, rfl, _, _, _, _, rfl, rfl, s6.tup (s5.tup (s3.tup ha)), at2, p1, _, rfl, .inl ⟨dF, .inr f, .inl (s6 _ _ (s5 _ _ hdic)), rfl, (valV_F hq).symm⟩, ?_⟩
    exact ⟨_, rfl, _, rfl, r, l, p3, ys, _, p, sec, rfl, hr0.up s7, SqT.of upd_same, by omega, hp.up s7, hy, fun H3 s8 => k _ (s7.trans s8)⟩
  | act x0 d ys =>
    cases x0 with
    | some x =>
      rw [enc, optD] at hd
      rw [chkS] at hx
      have hx' : regOk x = true ∧ (ariD d = some ys.length ∧ ys.all (srcOk (decide (sec = "turn")) p) = true) := by
        split at hx
        · rename_i e
          obtain ⟨e1, e2⟩ := Bool.and_eq_true_iff.mp e
          obtain ⟨e3, e4⟩ := Bool.and_eq_true_iff.mp e2
          exact ⟨e1, of_decide_eq_true e3, e4⟩
        · cases hx
      obtain ⟨hreg, hq, hy⟩ := hx'
      have ha2 : ys.length ≤ 2 := ariD_le hq
      refine ⟨_, rfl, _, _, rfl, hd, fun H1 s1 => ⟨_, rfl, iteF ?_⟩⟩
      obtain ⟨a, xs, rfl, ha, hxs⟩ := dp_tup (hd.up s1)
      have e : xs = (("do" : Str) :: x :: d :: ys).map V.str := dpAll_strs_inv (xs := "do" :: x :: d :: ys) hxs
      subst e
      have at0 : atI ((("do" : Str) :: x :: d :: ys).map V.str) 0 = some (.str "do") := atI_nat (j := 0) rfl
      have at1 : atI ((("do" : Str) :: x :: d :: ys).map V.str) 1 = some (.str x) := atI_nat (j := 1) rfl
      have at2 : atI ((("do" : Str) :: x :: d :: ys).map V.str) 2 = some (.str d) := atI_nat (j := 2) rfl
      have ha3 : (ys.map V.str).length ≤ 2 := by rw [List.length_map]; exact ha2
      refine ⟨_, rfl, _, _, rfl, .inr ⟨_, ha, rfl⟩, _, _, rfl, rfl, _, rfl, ?_⟩
      rw [decide_eq_false (by simp [List.length_cons]; omega)]
      refine iteF ?_
      refine ⟨_, rfl, _, _, _, _, rfl, rfl, ha, at0, _, _, _, _, _, rfl, .ty _, .base (.str _), kt_str_str, _, rfl, iteF ?_⟩
      refine ⟨_, rfl, _, _, _, _, rfl, rfl, ha, at0, rfl, _, rfl, iteF ?_⟩
      have hr1 := hr0.up s1
      obtain ⟨dx, n, u, g0, g1, g2⟩ := id hr1
      obtain ⟨dn, cc, ff, tt, ddd, ru, fa, pa, p0, j0, jr⟩ := id g1
      refine ⟨_, rfl, _, _, _, _, rfl, rfl, ha, at0, rfl, _, rfl, iteF ?_⟩
      refine ⟨_, rfl, _, _, dx, _, _, rfl, g0, T.c_Reader, T.n_Reader_names, rfl, _, dn, _, rfl, j0, rfl, n, rfl, g1, fun p1 e1 => ?_⟩
      have s2 := Same.new (o := .dK dD) e1
      refine ⟨_, rfl, _, _, _, _, rfl, rfl, s2.tup ha, at0, (by show 2 ≤ sizeLine; decide), fun p2 e2 => ⟨p2, _, rfl, .inr (SqT.of upd_same), rfl, rfl, _, rfl, ?_⟩⟩
      refine iteF ?_
      have s3 := s2.trans (Same.new (o := .tup [.str "call", .str "do"]) e2)
      refine ⟨_, rfl, _, _, _, _, rfl, rfl, s3.tup ha, at2, _, _, _, _, _, rfl, .ty _, .base (.str _), kt_str_str, _, rfl, iteF ?_⟩
      have hdic : upd (upd H1 p1 (.dK dD)) p2 (.tup [.str "call", .str "do"]) p1 = some (.dK dD) := (Same.new e2) _ _ upd_same
      refine ⟨_, rfl, _, _, _, _, rfl, rfl, s3.tup ha, at2, _, rfl, p1, some (.int ys.length), rfl, .inl ⟨dD, .inr d, .inl hdic, rfl, (valV_D hq).symm⟩, _, rfl, iteF ?_⟩
      have s4 := s1.trans s3
      refine ⟨_, rfl, _, dx, _, rfl, s3 _ _ g0, rfl, _, rfl, _, _, _, _, rfl, rfl, s3.tup ha, at1, r, l, _, rfl, hr0.up s4, .inr ⟨x, rfl, hreg, fun H5 s5 => ⟨_, rfl, iteF ?_⟩⟩⟩
      refine ⟨_, rfl, _, dx, _, rfl, s5 _ _ (s3 _ _ g0), rfl, _, rfl, _, rfl, a, _, rfl, s5.tup (s3.tup ha), (cut3 _ _ _ _ ha3).2, fun p3 e3 => ?_⟩
      rw [show cutV ((("do" : Str) :: x :: d :: ys).map V.str) (some 3) none = ys.map V.str from (cut3 _ _ _ _ ha3).1]
      have s6 := Same.new (o := .tup (ys.map V.str)) e3
      have s7 := s4.trans (s5.trans s6)
      refine ⟨_, rfl, _, rfl, _, _, _, _, rfl, rfl, s6.tup (s5.tup (s3.tup ha)), at2, p1, _, rfl, .inl ⟨dD, .inr d, .inl (s6 _ _ (s5 _ _ hdic)), rfl, (valV_D hq).symm⟩, ?_⟩
      exact ⟨_, rfl, _, rfl, r, l, p3, ys, _, p, sec, rfl, hr0.up s7, SqT.of upd_same, by omega, hp.up s7, hy, fun H3 s8 => k _ (s7.trans s8)⟩
    | none =>
      rw [enc, optD] at hd
      rw [chkS] at hx
      have hx' : (ariD d = some ys.length ∧ ys.all (srcOk (decide (sec = "turn")) p) = true) := by
        split at hx
        · rename_i e
          obtain ⟨e3, e4⟩ := Bool.and_eq_true_iff.mp e
          exact ⟨of_decide_eq_true e3, e4⟩
        · cases hx
      obtain ⟨hq, hy⟩ := hx'
      have ha2 : ys.length ≤ 2 := ariD_le hq
      refine ⟨_, rfl, _, _, rfl, hd, fun H1 s1 => ⟨_, rfl, iteF ?_⟩⟩
      obtain ⟨a, xs, rfl, ha, hxs⟩ := dp_tup (hd.up s1)
      obtain ⟨r1, rfl, hr1'⟩ := dpa_str hxs
      obtain ⟨r2, rfl, hr2'⟩ := dpa_none hr1'
      have e : r2 = (d :: ys).map V.str := dpAll_strs_inv (xs := d :: ys) hr2'
      subst e
      have at0 : atI (.str "do" :: .non :: (d :: ys).map V.str) 0 = some (.str "do") := atI_nat (j := 0) rfl
      have at1 : atI (.str "do" :: .non :: (d :: ys).map V.str) 1 = some .non := atI_nat (j := 1) rfl
      have at2 : atI (.str "do" :: .non :: (d :: ys).map V.str) 2 = some (.str d) := atI_nat (j := 2) rfl
      have ha3 : (ys.map V.str).length ≤ 2 := by rw [List.length_map]; exact ha2
      refine ⟨_, rfl, _, _, rfl, .inr ⟨_, ha, rfl⟩, _, _, rfl, rfl, _, rfl, ?_⟩
      rw [decide_eq_false (by simp [List.length_cons]; omega)]
      refine iteF ?_
      refine ⟨_, rfl, _, _, _, _, rfl, rfl, ha, at0, _, _, _, _, _, rfl, .ty _, .base (.str _), kt_str_str, _, rfl, iteF ?_⟩
      refine ⟨_, rfl, _, _, _, _, rfl, rfl, ha, at0, rfl, _, rfl, iteF ?_⟩
      have hr1 := hr0.up s1
      obtain ⟨dx, n, u, g0, g1, g2⟩ := id hr1
      obtain ⟨dn, cc, ff, tt, ddd, ru, fa, pa, p0, j0, jr⟩ := id g1
      refine ⟨_, rfl, _, _, _, _, rfl, rfl, ha, at0, rfl, _, rfl, iteF ?_⟩
      refine ⟨_, rfl, _, _, dx, _, _, rfl, g0, T.c_Reader, T.n_Reader_names, rfl, _, dn, _, rfl, j0, rfl, n, rfl, g1, fun p1 e1 => ?_⟩
      have s2 := Same.new (o := .dK dD) e1
      refine ⟨_, rfl, _, _, _, _, rfl, rfl, s2.tup ha, at0, (by show 2 ≤ sizeLine; decide), fun p2 e2 => ⟨p2, _, rfl, .inr (SqT.of upd_same), rfl, rfl, _, rfl, ?_⟩⟩
      refine iteF ?_
      have s3 := s2.trans (Same.new (o := .tup [.str "call", .str "do"]) e2)
      refine ⟨_, rfl, _, _, _, _, rfl, rfl, s3.tup ha, at2, _, _, _, _, _, rfl, .ty _, .base (.str _), kt_str_str, _, rfl, iteF ?_⟩
      have hdic : upd (upd H1 p1 (.dK dD)) p2 (.tup [.str "call", .str "do"]) p1 = some (.dK dD) := (Same.new e2) _ _ upd_same
      refine ⟨_, rfl, _, _, _, _, rfl, rfl, s3.tup ha, at2, _, rfl, p1, some (.int ys.length), rfl, .inl ⟨dD, .inr d, .inl hdic, rfl, (valV_D hq).symm⟩, _, rfl, iteF ?_⟩
      have s4 := s1.trans s3
      refine ⟨_, rfl, _, dx, _, rfl, s3 _ _ g0, rfl, _, rfl, _, _, _, _, rfl, rfl, s3.tup ha, at1, r, l, _, rfl, hr0.up s4, .inl ⟨rfl, fun H5 s5 => ⟨_, rfl, iteT ?_⟩⟩⟩
      refine ⟨_, rfl, _, _, _, _, rfl, rfl, s5.tup (s3.tup ha), at0, rfl, _, rfl, iteF ?_⟩
      refine ⟨_, rfl, _, _, _, _, rfl, rfl, s5.tup (s3.tup ha), at1, rfl, _, rfl, iteF ?_⟩
      refine ⟨_, rfl, _, dx, _, rfl, s5 _ _ (s3 _ _ g0), rfl, _, rfl, _, rfl, a, _, rfl, s5.tup (s3.tup ha), (cut3 _ _ _ _ ha3).2, fun p3 e3 => ?_⟩
      rw [show cutV (V.str "do" :: V.non :: (d :: ys).map V.str) (some 3) none = ys.map V.str from (cut3 _ _ _ _ ha3).1]
      have s6 := Same.new (o := .tup (ys.map V.str)) e3
      have s7 := s4.trans (s5.trans s6)
      refine ⟨_, rfl, _, rfl, _, _, _, _, rfl, rfl, s6.tup (s5.tup (s3.tup ha)), at2, p1, _, rfl, .inl ⟨dD, .inr d, .inl (s6 _ _ (s5 _ _ hdic)), rfl, (valV_D hq).symm⟩, ?_⟩
      exact ⟨_, rfl, _, rfl, r, l, p3, ys, _, p, sec, rfl, hr0.up s7, SqT.of upd_same, by omega, hp.up s7, hy, fun H3 s8 => k _ (s7.trans s8)⟩
end
end K21
set_option Elab.async false
set_option linter.all false
set_option maxRecDepth 100000
set_option maxHeartbeats 4000000
namespace K21
open PySem PySem.Spec PyProof.Rows L2
def regO : Option Str → List Str → List Str
  | none, f => f
  | some x, f => if f.contains x then f else f ++ [x]
def putO : Option Str → Put → Put
  | none, p => p
  | some x, p => addPut x p
def spWith (K : PySem.W.Frag) : Sp := fun vs H Q _ => ∃ r l v x vp p fnd, vs = [.ref r, v, vp] ∧ RdAt K (hid l H) r l ∧ H l = some (.lst (fnd.map V.str)) ∧ regsOk fnd ∧ PutAt (hid l H) vp p ∧ Dp K H v (optD x) ∧ (∀ y, x = some y → regOk y = true) ∧
  ∀ v' H', Same (hid l H) (hid l H') → H' l = some (.lst ((regO x fnd).map V.str)) → regsOk (regO x fnd) → PutAt (hid l H') v' (putO x p) → Q v' H'
section
variable {P : Program} {w : World} {K : PySem.W.Frag} {mg : Str → Option Value} {base : Heap} {b : Bool}
theorem sc_Reader_is_leave : FnScope ["self", "thing", "section", "is_last"] ["self", "thing", "section", "is_last"] (defScope s_Reader_is_leave) := ⟨rfl, rfl, rfl, by decide +kernel, rfl, by decide +kernel, by decide +kernel⟩
theorem ok_Reader_is_leave (T : Txt K mg) : Met P w K mg base (2) (He.ga K "Reader") "is_leave" (spLeave K b) := by
  refine met_of T.d_Reader_is_leave T.c_Reader T.m_Reader_is_leave sc_Reader_is_leave (fun _ _ _ _ _ _ us hl => match us, hl with | [_, _, _, _], _ => rfl) (fun vs H Q E h => ?_) (fun cdv A outer s H vs Q E hr h => ?_)
  · obtain ⟨r, v, rfl, hd, k⟩ := h
    rfl
  obtain ⟨r, v, rfl, hd, k⟩ := h
  have c_is_row_loops : Cal P w K mg base 1 "is_row_loops" (spRow K) := ok_is_row_loops T
  have sc := sc_Reader_is_leave
  have hu := hu_of hr
  refine ⟨_, (pss_one (ps_ret (pe_and (pc c_is_row_loops hr (by decide) (pa_cons (pv 1) pa_nil)) (pe_and (pe_cmpR (op_eqD hr.units) (pbt call_list_of T.b_list v_list (pa_cons (pv 1) pa_nil)) (pe_lst (pa_cons pe_str pa_nil)) (nomark _)) (pe_and (pe_cmpR op_eq (pv 2) pe_str (nomark _)) (pe_one (pv 3))))))), ?_⟩
  rw [enc] at hd
  refine ⟨_, rfl, _, _, rfl, hd, fun H1 s1 => ⟨_, rfl, iteT ?_⟩⟩
  obtain ⟨a, xs, rfl, ha, hxs⟩ := dp_tup (hd.up s1)
  refine ⟨_, rfl, _, _, rfl, .inr ha, fun p1 e1 => ⟨(by show 1 ≤ sizeLine; decide), fun p2 e2 => ?_⟩⟩
  have s2 := Same.new (o := .lst xs) e1
  have s3 := Same.new (o := .lst [.str "leave"]) e2
  refine ⟨.list [.str "leave"], .list [.str "leave"], .lst (SqL.of (s3 _ _ upd_same)) (hxs.up (s2.trans s3)), .lst (SqL.of upd_same) (.cons (.str _) .nil), by decide +kernel, by decide +kernel, _, rfl, ?_⟩
  rw [show PyData.eqv (.list [.str "leave"]) (.list [.str "leave"]) = true by decide +kernel]
  exact iteT ⟨_, rfl, rfl, _, rfl, iteT ⟨_, rfl, k _ (s1.trans (s2.trans s3))⟩⟩
theorem sc_Reader_with_put : FnScope ["self", "name", "put"] ["self", "name", "put"] (defScope s_Reader_with_put) := ⟨rfl, rfl, rfl, by decide +kernel, rfl, by decide +kernel, by decide +kernel⟩
theorem ok_Reader_with_put (T : Txt K mg) : Met P w K mg base (1) (He.ga K "Reader") "with_put" (spWith K) := by
  refine met_of T.d_Reader_with_put T.c_Reader T.m_Reader_with_put sc_Reader_with_put (fun _ _ _ _ _ _ us hl => match us, hl with | [_, _, _], _ => rfl) (fun vs H Q E h => ?_) (fun cdv A outer s H vs Q E hr h => ?_)
  · obtain ⟨r, l, v, x, vp, p, fnd, rfl, hr0, hl, hf, hp, hd, hx, k⟩ := h
    rfl
  obtain ⟨r, l, v, x, vp, p, fnd, rfl, hr0, hl, hf, hp, hd, hx, k⟩ := h
  have sc := sc_Reader_with_put
  have hu := hu_of hr
  refine ⟨_, (pss_cons (ps_if (pt_cmpR op_isN (pv 1) pe_non (nomark _)) (pss_one (ps_ret (pv 2))) pss_nil)
      (pss_cons (ps_if (pt_cmpR op_notIn_seq (pv 1) (pe_fld (pv 0) rfl) (by rfl)) (pss_one (ps_expr (pe_bm PySem.F.plainAttrs_list PySem.F.slot_list_append PySem.F.type_list_append mt_append (pe_fld (pv 0) rfl) (pa_cons (pv 1) pa_nil)))) pss_nil)
      (pss_cons (ps_if (PW.pt (pw_or (pt_cmpR op_isN (pv 2) pe_non (nomark _)) (pw_or1 (pt_cmpR op_in_seq (pv 1) (pv 2) (by rfl))))) (pss_one (ps_ret (pv 2))) pss_nil)
      (pss_one (ps_ret (pe_op op_cat (pv 2) (pe_lst (pa_cons (pv 1) pa_nil)))))))), ?_⟩
  cases x with
  | none =>
    cases hd
    exact ⟨_, rfl, rfl, _, rfl, iteT ⟨_, rfl, k _ _ (Same.refl _) hl hf hp⟩⟩
  | some x =>
    cases hd
    have hx := hx x rfl
    obtain ⟨dx, n, u, g0, g1, g2⟩ := hr0
    have g0' := hid_in _ _ g0
    refine ⟨_, rfl, rfl, _, rfl, iteF ?_⟩
    refine ⟨_, rfl, _, rfl, _, _, dx, _, _, rfl, g0', T.c_Reader, T.n_Reader_found, rfl, l, _, rfl, .inl (SqL.of hl), rfl, flat_strs fnd, _, rfl, ?_⟩
    rw [inV_strs]
    apply use_rest (fun H1 => hid l H1 = hid l H ∧ H1 l = some (.lst ((regO (some x) fnd).map V.str)) ∧ regsOk (regO (some x) fnd))
    · intro rest
      refine ite2 (fun e => ?_) (fun e => ?_)
      · have e2 : fnd.contains x = false := by simpa using e
        refine ⟨_, rfl, _, _, dx, _, _, rfl, g0', T.c_Reader, T.n_Reader_found, rfl, .inl ⟨rfl, _, SqL.of hl⟩, _, rfl, l, _, _, rfl, rfl, hl, ?_, rest _ ⟨hid_upd, ?_, ?_⟩⟩
        · rw [List.length_map]
          exact Nat.lt_of_le_of_lt hf.len (by decide)
        · rw [upd_same, show regO (some x) fnd = if fnd.contains x = true then fnd else fnd ++ [x] from rfl, e2]
          simp
        · rw [show regO (some x) fnd = if fnd.contains x = true then fnd else fnd ++ [x] from rfl, e2, if_neg Bool.false_ne_true]
          exact hf.add hx e2
      · have e2 : fnd.contains x = true := by simpa using e
        refine rest _ ⟨rfl, ?_, ?_⟩
        · rw [show regO (some x) fnd = if fnd.contains x = true then fnd else fnd ++ [x] from rfl, e2, if_pos rfl]
          exact hl
        · rw [show regO (some x) fnd = if fnd.contains x = true then fnd else fnd ++ [x] from rfl, e2, if_pos rfl]
          exact hf
    · rintro H1 ⟨eh, h1, h2⟩
      have hp1 : PutAt (hid l H1) vp p := by rw [eh]; exact hp
      have s1 : Same (hid l H) (hid l H1) := by rw [eh]; exact Same.refl _
      cases p with
      | none =>
        cases hp1
        exact ⟨_, rfl, rfl, _, rfl, iteT ⟨_, rfl, k _ _ s1 h1 h2 rfl⟩⟩
      | some pl =>
        obtain ⟨q, rfl, q1, q2⟩ := id hp1
        refine ⟨_, rfl, rfl, _, rfl, iteF ?_⟩
        refine ⟨_, rfl, _, rfl, q, _, rfl, .inl (SqL.of (hid_in _ _ q1)), rfl, flat_strs pl, _, rfl, ?_⟩
        rw [if_neg Bool.false_ne_true, inV_strs]
        refine ite2 (fun e => ?_) (fun e => ?_)
        · refine ⟨_, rfl, k _ _ s1 h1 h2 ?_⟩
          unfold putO addPut
          dsimp only
          rw [e, if_pos rfl]
          exact hp1
        · have e2 : pl.contains x = false := Bool.eq_false_iff.mpr e
          refine ⟨_, rfl, _, rfl, (by show 1 ≤ sizeLine; decide), fun p1 e1 => ?_⟩
          have s2 := Same.new (o := .lst [.str x]) e1
          refine ⟨q, p1, _, _, rfl, rfl, s2 _ _ (hid_in _ _ q1), upd_same, ?_, fun p2 e2' => ?_⟩
          · rw [List.length_map]
            exact Nat.le_trans (Nat.add_le_add_right q2.len 1) (by decide)
          have s3 := s2.trans (Same.new (o := .lst (pl.map V.str ++ [.str x])) e2')
          have np : p2 ≠ l := fun z => by
            rw [z] at e2'
            rw [s2 _ _ h1] at e2'
            cases e2'
          refine k _ _ (s1.trans s3.hid) (s3 _ _ h1) h2 ?_
          unfold putO addPut
          dsimp only
          rw [e2, if_neg Bool.false_ne_true]
          refine ⟨p2, rfl, ?_, q2.add hx e2⟩
          rw [hid_ne np, upd_same]
          simp
end
end K21
set_option Elab.async false
set_option linter.all false
set_option maxRecDepth 100000
set_option maxHeartbeats 4000000
namespace K21
open PySem PySem.Spec PyProof.Rows L2
def spIf (K : PySem.W.Frag) (b : Bool) (n : Nat) : Sp := fun vs H Q _ => ∃ r l v t x y pl sec rest vp p q fnd, vs = [.ref r, v, .ref pl, vp] ∧ RdAt K (hid l H) r l ∧ H l = some (.lst (List.map V.str fnd)) ∧ regsOk fnd ∧ SqT K (hid l H) pl (.str sec :: rest) ∧ rest.length + 2 * n ≤ 499 ∧
  PutAt (hid l H) vp p ∧ Dp K (hid l H) v (enc b (.ite t x y)) ∧ max (deps x) (deps y) ≤ n ∧ (lstL x = true ∧ lstL y = true) ∧ chkS (decide (sec = "turn")) (.ite t x y) p = some q ∧
  ∀ v' H', Same (hid l H) (hid l H') → H' l = some (.lst ((regsL y (regsL x fnd)).map V.str)) → regsOk (regsL y (regsL x fnd)) → PutAt (hid l H') v' q → Q v' H'
def spRead (K : PySem.W.Frag) (b c : Bool) (n : Nat) : Sp := fun vs H Q _ => ∃ r l v ss pl sec rest vp p q fnd, vs = [.ref r, v, .ref pl, vp] ∧ RdAt K (hid l H) r l ∧ H l = some (.lst (List.map V.str fnd)) ∧ regsOk fnd ∧ SqT K (hid l H) pl (.str sec :: rest) ∧ rest.length + 2 * n ≤ 500 ∧
  PutAt (hid l H) vp p ∧ Dp K (hid l H) v (sqD c (encL b ss)) ∧ deps ss ≤ n ∧ lstL ss = true ∧ chkL (decide (sec = "turn")) ss p = some q ∧
  ∀ v' H', Same (hid l H) (hid l H') → H' l = some (.lst ((regsL ss fnd).map V.str)) → regsOk (regsL ss fnd) → PutAt (hid l H') v' q → Q v' H'
theorem sqD_row {K : PySem.W.Frag} {H : Hp} {v : V} {c : Bool} {ds : List PyData} (h : Dp K H v (sqD c ds)) : ∃ a xs, v = .ref a ∧ (SqL K H a xs ∨ SqT K H a xs) ∧ DpAll K H xs ds := by
  cases c with
  | true =>
    obtain ⟨a, xs, h1, h2, h3⟩ := dp_lst h
    exact ⟨a, xs, h1, .inl h2, h3⟩
  | false =>
    obtain ⟨a, xs, h1, h2, h3⟩ := dp_tup h
    exact ⟨a, xs, h1, .inr h2, h3⟩
theorem sqD_isRow {c : Bool} {ds : List PyData} : isRow (sqD c ds) = true := by cases c <;> rfl
section
variable {P : Program} {w : World} {K : PySem.W.Frag} {mg : Str → Option Value} {base : Heap} {b c : Bool}
theorem nh {p l : Addr} {H : Hp} {u : HO} (h : H l = some u) (hp : H p = none) : p ≠ l := fun z => by
  rw [z, h] at hp
  cases hp
theorem sc_Reader_read_if : FnScope ["self", "thing", "here", "put", "first", "second", "name"] ["self", "thing", "here", "put"] (defScope s_Reader_read_if) := ⟨rfl, rfl, rfl, by decide +kernel, rfl, by decide +kernel, by decide +kernel⟩
theorem ok_Reader_read_if (T : Txt K mg) : ∀ n : Nat, (Met P w K mg base (2*n+6) (He.ga K "Reader") "read" (spRead K b b n)) → Met P w K mg base (2*n+7) (He.ga K "Reader") "read_if" (spIf K b n) := by
  intro n
  intro c_Reader_read
  refine met_of T.d_Reader_read_if T.c_Reader T.m_Reader_read_if sc_Reader_read_if (fun _ _ _ _ _ _ us hl => match us, hl with | [_, _, _, _], _ => rfl) (fun vs H Q E h => ?_) (fun cdv A outer s H vs Q E hr h => ?_)
  · obtain ⟨r, l, v, t, x, y, pl, sec, rest, vp, p, q, fnd, rfl, hr0, hl, hf, hpl, hrest, hp, hd, hdep, ⟨lx, ly⟩, hc, k⟩ := h
    rfl
  obtain ⟨r, l, v, t, x, y, pl, sec, rest, vp, p, q, fnd, rfl, hr0, hl, hf, hpl, hrest, hp, hd, hdep, ⟨lx, ly⟩, hc, k⟩ := h
  have c_is_row_loops : Cal P w K mg base 1 "is_row_loops" (spRow K) := ok_is_row_loops T
  have c_Reader_is_test := ok_Reader_is_test (P := P) (w := w) (base := base) T
  have sc := sc_Reader_read_if
  have hu := hu_of hr
  refine ⟨_, (pss_cons (ps_if (PW.pt (pw_or (pt_not (pt_val (pmt c_Reader_is_test hr (by omega) (pv 0) (pa_cons (pe_ix ix_tup (pv 1) pe_int (fun _ _ => rfl)) (pa_cons (pv 3) (pa_cons (pe_ix ix_tup (pv 2) pe_int (fun _ _ => rfl)) pa_nil)))))) (pw_or (pt_not (pt_val (pc c_is_row_loops hr (by omega) (pa_cons (pe_ix ix_tup (pv 1) pe_int (fun _ _ => rfl)) pa_nil)))) (pw_or1 (pt_not (pt_val (pc c_is_row_loops hr (by omega) (pa_cons (pe_ix ix_tup (pv 1) pe_int (fun _ _ => rfl)) pa_nil)))))))) (pss_one ps_never) pss_nil)
      (pss_cons (pset 4 sc.nd (pmt c_Reader_read hr (by omega) (pv 0) (pa_cons (pe_ix ix_tup (pv 1) pe_int (fun _ _ => rfl)) (pa_cons (pe_op op_catT (pv 2) (pe_tup (pa_cons pe_str pa_nil))) (pa_cons (pv 3) pa_nil)))))
      (pss_cons (pset 5 sc.nd (pmt c_Reader_read hr (by omega) (pv 0) (pa_cons (pe_ix ix_tup (pv 1) pe_int (fun _ _ => rfl)) (pa_cons (pe_op op_catT (pv 2) (pe_tup (pa_cons pe_str pa_nil))) (pa_cons (pv 3) pa_nil)))))
      (pss_cons (ps_if (PW.pt (pw_or (pt_cmpR op_isN (pv 4) pe_non (nomark _)) (pw_or1 (pt_cmpR op_isN (pv 5) pe_non (nomark _))))) (pss_one (ps_ret (pe_ifExp (pt_cmpR op_isN (pv 4) pe_non (nomark _)) (pv 5) (pv 4)))) pss_nil)
      (pss_one (ps_ret (pe_lc (own := [("name", 6)]) (g := gName 6) rfl sc.nd (pi_list (pv 4)) (blkOk_by (N := ["self", "thing", "here", "put", "first", "second", "name"]) (sc := defScope s_Reader_read_if) (by decide +kernel)) (fun _ _ _ _ _ => (pgn 6 sc.nd)) (fun _ _ _ _ _ => pts_one (pt_cmpR (show OpR _ (compareOp .In) (rIn K false) from op_in_seq) (pv 6) (pv 5) (by rfl))) (fun _ _ _ _ _ => (pv 6))))))))), ?_⟩
  rw [enc] at hd
  rw [chkS] at hc
  have ht : tstOk (decide (sec = "turn")) p t = true := by
    split at hc
    · assumption
    · cases hc
  rw [if_pos ht] at hc
  obtain ⟨q1, hq1, hc⟩ := Option.bind_eq_some_iff.mp hc
  obtain ⟨q2, hq2, hc⟩ := Option.bind_eq_some_iff.mp hc
  cases hc
  obtain ⟨a, xs, rfl, ha, hxs⟩ := dp_tup hd
  obtain ⟨r1, rfl, hr1⟩ := dpa_str hxs
  obtain ⟨tv, r2, rfl, htv, hr2⟩ := dpa_cons hr1
  obtain ⟨xv, r3, rfl, hxv, hr3⟩ := dpa_cons hr2
  obtain ⟨yv, r4, rfl, hyv, hr4⟩ := dpa_cons hr3
  cases hr4
  obtain ⟨dx, n0, u, g0, g1, g2⟩ := id hr0
  have ha' := hid_in.tup ha
  refine ⟨_, rfl, _, dx, _, rfl, hid_in _ _ g0, rfl, _, rfl, _, _, _, _, rfl, rfl, ha', rfl, _, rfl, _, rfl, _, _, _, _, rfl, rfl, hid_in.tup hpl, atI_nat (j := 0) rfl, r, l, tv, t, vp, p, sec, rfl, hr0.up hid_in, htv.up hid_in, hp.up hid_in, ht, fun H1 s1 => ⟨_, rfl, iteF ?_⟩⟩
  refine ⟨_, rfl, _, _, _, _, rfl, rfl, s1.tup ha', rfl, _, _, rfl, (hxv.up hid_in).up s1, fun H2 s2 => ⟨_, rfl, ?_⟩⟩
  rw [sqD_isRow]
  refine iteF ?_
  have s12 := s1.trans s2
  refine ⟨_, rfl, _, _, _, _, rfl, rfl, s12.tup ha', rfl, _, _, rfl, (hyv.up hid_in).up s12, fun H3 s3 => ⟨_, rfl, ?_⟩⟩
  rw [sqD_isRow]
  refine iteF ?_
  have s13 := s12.trans s3
  -- first
  refine ⟨_, rfl, _, dx, _, rfl, s13 _ _ (hid_in _ _ g0), rfl, _, rfl, _, _, _, _, rfl, rfl, s13.tup ha', rfl, _, rfl, (by show 1 ≤ sizeLine; decide), fun p1 e1 => ?_⟩
  have s4 := Same.new (o := .tup [.str "then"]) e1
  refine ⟨pl, p1, _, _, rfl, rfl, (s13.trans s4).tup (hid_in.tup hpl), SqT.of upd_same, (fun z => by cases z), ?_, (fun z => by cases z), fun _ p2 e2 => ?_⟩
  · show rest.length + 1 + 1 ≤ sizeLine
    exact Nat.le_trans (by omega : rest.length + 1 + 1 ≤ 1000) (by decide)
  have s5 := s13.trans (s4.trans (Same.new (o := .tup (.str sec :: rest ++ [.str "then"])) e2))
  have h5 := s5.hid (D := l)
  refine ⟨_, rfl, r, l, xv, x, p2, sec, rest ++ [.str "then"], vp, p, q1, fnd, rfl, hr0.up h5, s5 _ _ hl, hf, SqT.of ?_, ?_, hp.up h5, hxv.up h5, by omega, lx, hq1, fun v1 H6 s6 l6 k6 p6 => ?_⟩
  · rw [hid_ne (nh (s13.trans s4 _ _ hl) e2), upd_same]
    rfl
  · rw [List.length_append]
    show rest.length + 1 + 2 * n ≤ 500
    omega
  have h6 := h5.trans s6
  -- second
  refine ⟨_, rfl, _, dx, _, rfl, hid_in _ _ (h6 _ _ g0), rfl, _, rfl, _, _, _, _, rfl, rfl, hid_in.tup (h6.tup ha), rfl, _, rfl, (by show 1 ≤ sizeLine; decide), fun p3 e3 => ?_⟩
  have s7 := Same.new (o := .tup [.str "else"]) e3
  refine ⟨pl, p3, _, _, rfl, rfl, s7.tup (hid_in.tup (h6.tup hpl)), SqT.of upd_same, (fun z => by cases z), ?_, (fun z => by cases z), fun _ p4 e4 => ?_⟩
  · show rest.length + 1 + 1 ≤ sizeLine
    exact Nat.le_trans (by omega : rest.length + 1 + 1 ≤ 1000) (by decide)
  have s8 := s7.trans (Same.new (o := .tup (.str sec :: rest ++ [.str "else"])) e4)
  have h8 := h6.trans (s8.hid (D := l))
  refine ⟨_, rfl, r, l, yv, y, p4, sec, rest ++ [.str "else"], vp, p, q2, regsL x fnd, rfl, hr0.up h8, s8 _ _ l6, k6, SqT.of ?_, ?_, hp.up h8, hyv.up h8, by omega, ly, hq2, fun v2 H9 s9 l9 k9 p9 => ?_⟩
  · rw [hid_ne (nh (s7 _ _ l6) e4), upd_same]
    rfl
  · rw [List.length_append]
    show rest.length + 1 + 2 * n ≤ 500
    omega
  have h9 := h8.trans s9
  have p6' : PutAt (hid l H9) v1 q1 := p6.up ((s8.hid (D := l)).trans s9)
  cases q1 with
  | none =>
    cases p6'
    refine ⟨_, rfl, rfl, _, rfl, iteT ⟨_, rfl, rfl, _, rfl, iteT ⟨_, rfl, ?_⟩⟩⟩
    refine k _ _ h9 l9 k9 ?_
    cases q2 <;> exact p9
  | some l1 =>
  obtain ⟨z1, rfl, z2, z3⟩ := p6'
  cases q2 with
  | none =>
    cases p9
    refine ⟨_, rfl, rfl, _, rfl, iteF ⟨_, rfl, rfl, _, rfl, iteT ⟨_, rfl, rfl, _, rfl, iteF ⟨_, rfl, ?_⟩⟩⟩⟩
    exact k _ _ h9 l9 k9 ⟨z1, rfl, z2, z3⟩
  | some l2 =>
  obtain ⟨z4, rfl, z5, z6⟩ := p9
  have z2' := hid_in _ _ z2
  have z5' := hid_in _ _ z5
  refine ⟨_, rfl, rfl, _, rfl, iteF ⟨_, rfl, rfl, _, rfl, iteF ⟨_, rfl, z1, rfl, ⟨_, SqL.of z2'⟩, fun D hD => ?_⟩⟩⟩
  have hDl : D ≠ l := nh l9 hD
  refine lc_it (walk_list (xs := l1.map V.str)) (fun i H7 => Same H9 (hid D H7) ∧ H7 D = some (.lst (((l1.take i).filter l2.contains).map V.str))) ⟨?_, ?_⟩ (fun i H7 _ z => (z.1.trans hid_in).seq (SqL.of z2')) ?_ ?_
  · rw [hid_upd]
    exact hid_of hD (Same.refl _)
  · exact upd_same
  · rintro i x7 H7 H8 hi ⟨y1, y2⟩ ⟨rfl, hx⟩
    rw [List.length_map] at hi
    have hx' : x7 = .str l1[i] := by
      rw [List.getElem?_map, List.getElem?_eq_getElem hi] at hx
      exact (Option.some.inj hx).symm
    subst hx'
    refine ⟨rfl, _, rfl, _, rfl, z4, _, rfl, .inl (SqL.of ((y1.trans hid_in) _ _ z5')), rfl, flat_strs l2, _, rfl, ?_⟩
    rw [if_neg Bool.false_ne_true, inV_strs]
    have et : l1.take (i + 1) = l1.take i ++ [l1[i]] := by rw [List.take_succ, List.getElem?_eq_getElem hi]; rfl
    refine ite2 (fun e => ?_) (fun e => ?_)
    · refine ⟨_, rfl, _, y2, ?_, ?_, ?_⟩
      · rw [List.length_map]
        refine Nat.lt_of_le_of_lt (Nat.le_trans (List.length_filter_le _ _) (Nat.le_trans (List.length_take_le _ _) (show i ≤ 8 by have := z3.len; omega))) (by decide)
      · rw [hid_upd]
        exact y1
      · rw [upd_same, et, List.filter_append, List.map_append, List.filter_cons_of_pos e]
        rfl
    · refine ⟨y1, ?_⟩
      rw [y2, et, List.filter_append, List.map_append, List.filter_cons_of_neg e]
      simp
  · rintro H7 ⟨y1, y2⟩
    rw [List.length_map, List.take_length] at y2
    refine k _ _ (h9.trans (y1.trans hid_in).hid) ((y1.trans hid_in) _ _ l9) k9 ⟨D, rfl, ?_, z3.filter _⟩
    rw [hid_ne hDl]
    exact y2
theorem enc_head {s : Stm} (h : s.nI = 0) : ∃ w rest, enc b s = .tuple (.str w :: rest) ∧ w ≠ "if" := by
  cases s with
  | put x y => exact ⟨"put", _, by rw [enc], by decide⟩
  | call x f ys => exact ⟨"call", _, by rw [enc], by decide⟩
  | act x d ys => exact ⟨"do", _, by rw [enc], by decide⟩
  | leave => exact ⟨"leave", _, by rw [enc], by decide⟩
  | ite t x y =>
    rw [nI_ite] at h
    omega
theorem regs_reg {s : Stm} (x : Option Str) (fnd : List Str) (h : s.regs fnd = regO x fnd) : True := trivial
/-- the name that a plain statement puts -/
def Stm.tgt : Stm → Option Str
  | .put x _ => some x
  | .call x _ _ => some x
  | .act x _ _ => x
  | _ => none
theorem regs_tgt {s : Stm} {fnd : List Str} (h1 : s.nI = 0) : s.regs fnd = regO s.tgt fnd := by
  cases s with
  | put x y => rw [Stm.regs]; rfl
  | call x f ys => rw [Stm.regs]; rfl
  | act x d ys => cases x <;> (rw [Stm.regs]; rfl)
  | leave => rw [Stm.regs]; rfl
  | ite t x y =>
    rw [nI_ite] at h1
    omega
theorem chk_tgt {turn : Bool} {s : Stm} {p q : Put} (h1 : s.nI = 0) (h2 : s.nL = 0) (h : chkS turn s p = some q) : q = putO s.tgt p ∧ ∀ x, s.tgt = some x → regOk x = true := by
  cases s with
  | put x y =>
    rw [chkS] at h
    split at h
    · rename_i e
      cases h
      exact ⟨rfl, fun z hz => by cases hz; exact (Bool.and_eq_true_iff.mp e).1⟩
    · cases h
  | call x f ys =>
    rw [chkS] at h
    split at h
    · rename_i e
      cases h
      exact ⟨rfl, fun z hz => by cases hz; exact (Bool.and_eq_true_iff.mp e).1⟩
    · cases h
  | act x d ys =>
    cases x with
    | some x =>
      rw [chkS] at h
      split at h
      · rename_i e
        cases h
        exact ⟨rfl, fun z hz => by cases hz; exact (Bool.and_eq_true_iff.mp e).1⟩
      · cases h
    | none =>
      rw [chkS] at h
      split at h
      · cases h
        exact ⟨rfl, fun z hz => by cases hz⟩
      · cases h
  | leave => cases h2
  | ite t x y =>
    rw [nI_ite] at h1
    omega
theorem enc_tgt {H : Hp} {s : Stm} {xs : List V} {ds : List PyData} (h1 : s.nI = 0) (h2 : s.nL = 0) (e : enc b s = .tuple ds) (h : DpAll K H xs ds) : ∃ v, xs[1]? = some v ∧ Dp K H v (optD s.tgt) := by
  cases s with
  | put x y =>
    rw [enc] at e
    cases e
    obtain ⟨r1, rfl, q1⟩ := dpa_str h
    obtain ⟨r2, rfl, q2⟩ := dpa_str q1
    exact ⟨_, rfl, .str x⟩
  | call x f ys =>
    rw [enc] at e
    cases e
    obtain ⟨r1, rfl, q1⟩ := dpa_str h
    obtain ⟨r2, rfl, q2⟩ := dpa_str q1
    exact ⟨_, rfl, .str x⟩
  | act x d ys =>
    rw [enc] at e
    cases e
    obtain ⟨r1, rfl, q1⟩ := dpa_str h
    obtain ⟨v, r2, rfl, q2, q3⟩ := dpa_cons q1
    exact ⟨_, rfl, q2⟩
  | leave => cases h2
  | ite t x y =>
    rw [nI_ite] at h1
    omega
theorem regsL_cons (s : Stm) (r : List Stm) (f : List Str) : regsL (s :: r) f = regsL r (s.regs f) := by rw [regsL]
theorem regs_ite (t : Tst) (x y : List Stm) (f : List Str) : (Stm.ite t x y).regs f = regsL y (regsL x f) := by rw [Stm.regs]
theorem lstL_cons (s : Stm) (r : List Stm) : lstL (s :: r) = ((match s with | .leave => r.isEmpty | _ => true) && (s.lst && lstL r)) := by cases s <;> simp [lstL]
theorem deps_cons (s : Stm) (r : List Stm) : deps (s :: r) = max s.dep (deps r) := by rw [deps]
theorem dep_ite (t : Tst) (x y : List Stm) : (Stm.ite t x y).dep = 1 + max (deps x) (deps y) := by rw [Stm.dep]
theorem lst_ite (t : Tst) (x y : List Stm) : (Stm.ite t x y).lst = (lstL x && lstL y) := by rw [Stm.lst]
theorem encL_cons (b : Bool) (s : Stm) (r : List Stm) : encL b (s :: r) = enc b s :: encL b r := by rw [encL]
theorem nL_of_nI {s : Stm} (h : s.nI = 0) (h2 : s ≠ .leave) : s.nL = 0 := by
  cases s with
  | put x y => simp [Stm.nL]
  | call x f ys => simp [Stm.nL]
  | act x d ys => simp [Stm.nL]
  | leave => exact absurd rfl h2
  | ite t x y =>
    rw [nI_ite] at h
    omega
def spIfO (K : PySem.W.Frag) (b : Bool) : Nat → Sp
  | 0 => fun _ _ _ _ => False
  | n + 1 => spIf K b n
theorem sc_Reader_read : FnScope ["self", "statements", "place", "put", "section", "at", "thing", "here"] ["self", "statements", "place", "put"] (defScope s_Reader_read) := ⟨rfl, rfl, rfl, by decide +kernel, rfl, by decide +kernel, by decide +kernel⟩
theorem ok_Reader_read (T : Txt K mg) : ∀ n : Nat, (Met P w K mg base (2*n+5) (He.ga K "Reader") "read_if" (spIfO K b n)) → Met P w K mg base (2*n+6) (He.ga K "Reader") "read" (spRead K b c n) := by
  intro n
  intro c_Reader_read_if
  refine met_of T.d_Reader_read T.c_Reader T.m_Reader_read sc_Reader_read (fun _ _ _ _ _ _ us hl => match us, hl with | [_, _, _, _], _ => rfl) (fun vs H Q E h => ?_) (fun cdv A outer s H vs Q E hr h => ?_)
  · obtain ⟨r, l, v, ss, pl, sec, rest, vp, p, q, fnd, rfl, hr0, hl, hf, hpl, hrest, hp, hd, hdep, hls, hc, k⟩ := h
    rfl
  obtain ⟨r, l, v, ss, pl, sec, rest, vp, p, q, fnd, rfl, hr0, hl, hf, hpl, hrest, hp, hd, hdep, hls, hc, k⟩ := h
  have c_is_row_loops : Cal P w K mg base 1 "is_row_loops" (spRow K) := ok_is_row_loops T
  have c_Reader_is_plain := ok_Reader_is_plain (P := P) (w := w) (base := base) (b := b) T
  have c_Reader_is_leave := ok_Reader_is_leave (P := P) (w := w) (base := base) (b := b) T
  have c_Reader_with_put := ok_Reader_with_put (P := P) (w := w) (base := base) T
  have sc := sc_Reader_read
  have hu := hu_of hr
  refine ⟨_, (pss_cons (pset 4 sc.nd (pe_ix ix_tup (pv 2) pe_int (fun _ _ => rfl)))
      (pss_cons (ps_for PassesOwn.never rfl (pi_enumQ rfl T.b_enumerate (pa_cons (pv 1) pa_nil)) (pg_tup rfl (pgs_cons (pgn 5 sc.nd) (pgs_cons (pgn 6 sc.nd) pgs_nil)))
        (pss_cons (pset 7 sc.nd (pe_op op_catT (pv 2) (pe_tup (pa_cons (pv 5) pa_nil))))
        (pss_one (ps_if (PW.pt (pw_and (pt_val (pc c_is_row_loops hr (by omega) (pa_cons (pv 6) pa_nil))) (pw_and (pt_cmpR op_eq (pb call_len T.b_len v_len (pa_cons (pv 6) pa_nil)) pe_int (nomark _)) (pw_and (pt_val (pb call_isi T.b_isinstance v_isinstance (pa_cons (pe_ix ix_tup (pv 6) pe_int (fun _ _ => rfl)) (pa_cons (p_ty T.b_str v_str) pa_nil)))) (pw_and1 (pt_cmpR op_eq (pe_ix ix_tup (pv 6) pe_int (fun _ _ => rfl)) pe_str (nomark _))))))) (pss_one (pset 3 sc.nd (pmt c_Reader_read_if hr (by omega) (pv 0) (pa_cons (pv 6) (pa_cons (pv 7) (pa_cons (pv 3) pa_nil)))))) (pss_one (ps_if (pt_val (pmt c_Reader_is_plain hr (by omega) (pv 0) (pa_cons (pv 6) (pa_cons (pv 3) (pa_cons (pv 4) pa_nil))))) (pss_one (pset 3 sc.nd (pmt c_Reader_with_put hr (by omega) (pv 0) (pa_cons (pe_ix ix_tup (pv 6) pe_int (fun _ _ => rfl)) (pa_cons (pv 3) pa_nil))))) (pss_one (ps_if (pt_val (pmt c_Reader_is_leave hr (by omega) (pv 0) (pa_cons (pv 6) (pa_cons (pv 4) (pa_cons (pe_cmpR op_eq (pv 5) (pe_op op_sub (pb call_len T.b_len v_len (pa_cons (pv 1) pa_nil)) pe_int) (nomark _)) pa_nil))))) (pss_one (pset 3 sc.nd pe_non)) (pss_one ps_never)))))))))
      (pss_one (ps_ret (pv 3))))), ?_⟩
  obtain ⟨a, xs, rfl, hseq, hxs⟩ := sqD_row hd
  have hlen : xs.length = ss.length := by rw [dpa_len hxs, encL_map, List.length_map]
  obtain ⟨dx, n0, u, g0, g1, g2⟩ := id hr0
  have spl := hid_in.tup hpl
  refine ⟨_, rfl, _, _, _, _, rfl, rfl, spl, atI_nat (j := 0) rfl, _, rfl, ?_⟩
  have hlenV : ∀ H', Same (hid l H) (hid l H') → LenV K (.ref a) H' xs.length := fun H' e => by
    rcases hseq with h | h
    · exact .inl ⟨_, hid_in.seq (e.seq h), rfl⟩
    · exact .inr ⟨_, hid_in.tup (e.tup h), rfl⟩
  rcases hseq with h5 | h5
  all_goals
    first
    | refine ⟨a, rfl, .inl ⟨⟨xs, hid_in.seq h5⟩, for_it walk_enum (fun i σ H7 => ∃ q' vq x5 x6 x7 fi, σ = [some (.ref r), some (.ref a), some (.ref pl), some vq, some (.str sec), x5, x6, x7] ∧ Same (hid l H) (hid l H7) ∧ H7 l = some (.lst (fi.map V.str)) ∧ regsOk fi ∧ PutAt (hid l H7) vq q' ∧ chkL (decide (sec = "turn")) (ss.drop i) q' = some q ∧ regsL (ss.drop i) fi = regsL ss fnd ∧ lstL (ss.drop i) = true ∧ deps (ss.drop i) ≤ n) ?_ (fun i σ H7 _ ⟨_, _, _, _, _, _, _, s7, _⟩ => hid_in.seq (s7.seq h5)) ?_ ?_⟩⟩
    | refine ⟨a, rfl, .inr ⟨⟨xs, hid_in.tup h5⟩, for_it walk_enumT (fun i σ H7 => ∃ q' vq x5 x6 x7 fi, σ = [some (.ref r), some (.ref a), some (.ref pl), some vq, some (.str sec), x5, x6, x7] ∧ Same (hid l H) (hid l H7) ∧ H7 l = some (.lst (fi.map V.str)) ∧ regsOk fi ∧ PutAt (hid l H7) vq q' ∧ chkL (decide (sec = "turn")) (ss.drop i) q' = some q ∧ regsL (ss.drop i) fi = regsL ss fnd ∧ lstL (ss.drop i) = true ∧ deps (ss.drop i) ≤ n) ?_ (fun i σ H7 _ ⟨_, _, _, _, _, _, _, s7, _⟩ => hid_in.tup (s7.tup h5)) ?_ ?_⟩⟩
    · exact ⟨p, vp, _, _, _, fnd, rfl, Same.refl _, hl, hf, hp, hc, rfl, hls, hdep⟩
    · rintro i x9 σ H7 H8 hi ⟨q', vq, x5, x6, x7, fi, rfl, s7, l7, k7, p7, c7, e7, t7, d7⟩ ⟨T1, y1, y2, rfl, hT, rfl, hy1, hy2⟩
      cases hy1
      rw [hlen] at hi
      have ed : ss.drop i = ss[i] :: ss.drop (i + 1) := List.drop_eq_getElem_cons hi
      rw [ed] at c7 e7 t7 d7
      rw [chkL_cons] at c7
      rw [regsL_cons] at e7
      rw [lstL_cons] at t7
      rw [deps_cons] at d7
      obtain ⟨q1, c8, c9⟩ := Option.bind_eq_some_iff.mp c7
      obtain ⟨t8, t9⟩ := Bool.and_eq_true_iff.mp t7
      obtain ⟨t10, t11⟩ := Bool.and_eq_true_iff.mp t9
      have hyd : Dp K (hid l H) y2 (enc b ss[i]) := dpAll_at hxs hy2 (by rw [encL_map, List.getElem?_map, List.getElem?_eq_getElem hi]; rfl)
      have s8 : Same H7 (upd H7 T1 (.tup [.int (i : Nat), y2])) := Same.new hT
      refine ⟨T1, _, rfl, SqT.of upd_same, rfl, _, _, rfl, _, _, rfl, rfl, ?_⟩
      refine ⟨_, rfl, _, rfl, (by show 1 ≤ sizeLine; decide), fun p1 e1 => ?_⟩
      have s9 := s8.trans (Same.new (o := .tup [.int (i : Nat)]) e1)
      refine ⟨pl, p1, _, _, rfl, rfl, s9.tup (hid_in.tup (s7.tup hpl)), SqT.of upd_same, (fun z => by cases z), ?_, (fun z => by cases z), fun _ p2 e2 => ?_⟩
      · show rest.length + 1 + 1 ≤ sizeLine
        exact Nat.le_trans (by omega : rest.length + 1 + 1 ≤ 1000) (by decide)
      have s10 := s9.trans (Same.new (o := .tup (.str sec :: rest ++ [.int (i : Nat)])) e2)
      have h10 := s7.trans (s10.hid (D := l))
      have np2 := nh (s9 _ _ l7) e2
      generalize hst : ss[i] = st at *
      have hyd' : Dp K (upd (upd (upd H7 T1 (.tup [.int (i : Nat), y2])) p1 (.tup [.int (i : Nat)])) p2 (.tup (.str sec :: rest ++ [.int (i : Nat)]))) y2 (enc b st) := hyd.up (h10.trans hid_in)
      have hrd := hr0.up h10
      have hst2 : (∃ t u z, st = .ite t u z) ∨ st.nI = 0 := by
        cases st with
        | ite t u z => exact .inl ⟨_, _, _, rfl⟩
        | put x y => exact .inr (by simp [Stm.nI])
        | call x y z => exact .inr (by simp [Stm.nI])
        | act x y z => exact .inr (by simp [Stm.nI])
        | leave => exact .inr (by simp [Stm.nI])
      rcases hst2 with ⟨t, u1, z1, rfl⟩ | hI
      · rw [dep_ite] at d7
        rw [lst_ite] at t10
        rw [regs_ite] at e7
        obtain ⟨m, rfl⟩ : ∃ m, n = m + 1 := ⟨n - 1, by omega⟩
        have hh := hyd'
        rw [enc] at hh
        refine ⟨_, rfl, _, _, rfl, hh, fun H11 s11 => ⟨_, rfl, iteT ?_⟩⟩
        obtain ⟨ya, ys, rfl, hya, hys⟩ := dp_tup (hh.up s11)
        obtain ⟨r1, rfl, hr1⟩ := dpa_str hys
        obtain ⟨tv, r2, rfl, htv, hr2⟩ := dpa_cons hr1
        obtain ⟨xv, r3, rfl, hxv, hr3⟩ := dpa_cons hr2
        obtain ⟨yv, r4, rfl, hyv, hr4⟩ := dpa_cons hr3
        cases hr4
        refine ⟨_, rfl, _, _, rfl, .inr ⟨_, hya, rfl⟩, rfl, _, rfl, iteT ?_⟩
        refine ⟨_, rfl, _, _, _, _, rfl, rfl, hya, rfl, _, _, _, _, _, rfl, .ty _, .base (.str _), kt_str_str, _, rfl, iteT ?_⟩
        refine ⟨_, rfl, _, _, _, _, rfl, rfl, hya, rfl, rfl, _, rfl, iteT ?_⟩
        have h11 := h10.trans (s11.hid (D := l))
        refine ⟨_, rfl, _, dx, _, rfl, hid_in _ _ (h11 _ _ g0), rfl, _, rfl, _, rfl, _, rfl, r, l, _, t, u1, z1, p2, sec, rest ++ [.int (i : Nat)], vq, q', q1, fi, rfl, hr0.up h11, s11 _ _ (s10 _ _ l7), k7, (s11.hid (D := l)).tup (SqT.of ?_), ?_, p7.up ((s10.hid (D := l)).trans (s11.hid (D := l))), (hyd.up h11), by omega, Bool.and_eq_true_iff.mp t10, c8, fun v1 H12 s12 l12 k12 p12 => ?_⟩
        · rw [hid_ne np2, upd_same]
          rfl
        · rw [List.length_append]
          show rest.length + 1 + 2 * m ≤ 499
          omega
        · exact ⟨q1, v1, _, _, _, regsL z1 (regsL u1 fi), rfl, h11.trans s12, l12, k12, p12, c9, e7, t11, by omega⟩
      · obtain ⟨wd, rs, he, hw⟩ := enc_head (b := b) hI
        have hh := hyd'
        rw [he] at hh
        refine ⟨_, rfl, _, _, rfl, hh, fun H11 s11 => ⟨_, rfl, iteT ?_⟩⟩
        obtain ⟨ya, ys, rfl, hya, hys⟩ := dp_tup (hh.up s11)
        obtain ⟨yr, rfl, hyr⟩ := dpa_str hys
        have h11 := h10.trans (s11.hid (D := l))
        refine ⟨_, rfl, _, _, rfl, .inr ⟨_, hya, rfl⟩, rfl, _, rfl, ?_⟩
        apply use_rest (fun H12 => H12 = H11)
        · intro go
          refine ite2 (fun e => ?_) (fun e => iteF (go H11 rfl))
          refine ⟨_, rfl, _, _, _, _, rfl, rfl, hya, atI_nat (j := 0) rfl, _, _, _, _, _, rfl, .ty _, .base (.str _), kt_str_str, _, rfl, iteT ?_⟩
          refine ⟨_, rfl, _, _, _, _, rfl, rfl, hya, atI_nat (j := 0) rfl, rfl, _, rfl, ?_⟩
          rw [decide_eq_false (fun z => hw (V.str.inj z))]
          exact iteF (go H11 rfl)
        · rintro _ rfl
          have hyd3 := hyd'.up s11
          have hrd3 := (hr0.up h11).up hid_in
          have hp3 := (p7.up ((s10.hid (D := l)).trans (s11.hid (D := l)))).up hid_in
          by_cases hlv : st = .leave
          · subst hlv
            have q9 : chkS (decide (sec = "turn")) .leave q' = if (decide (sec = "turn")) = true then some none else none := by rw [chkS]
            rw [q9] at c8
            have hsec : sec = "turn" := by
              split at c8
              · rename_i e
                exact of_decide_eq_true e
              · cases c8
            rw [if_pos (decide_eq_true hsec)] at c8
            cases c8
            refine ⟨_, rfl, _, dx, _, rfl, hid_in _ _ (h11 _ _ g0), rfl, _, rfl, _, rfl, _, rfl, r, l, _, .leave, vq, q', sec, rfl, hrd3, hyd3, hp3, .inl ⟨rfl, fun H13 s13 => ⟨_, rfl, iteF ?_⟩⟩⟩
            have h13 := h11.trans (s13.hid (D := l))
            have hlast : (i : Int) = (xs.length : Int) - 1 := by
              have z : (ss.drop (i + 1)).length = 0 := by
                have := List.isEmpty_iff.mp t8
                rw [this]
                rfl
              rw [List.length_drop] at z
              omega
            subst hsec
            rw [Stm.regs] at e7
            refine ⟨_, rfl, _, dx, _, rfl, hid_in _ _ (h13 _ _ g0), rfl, _, rfl, _, rfl, _, rfl, _, rfl, _, _, rfl, hlenV _ h13, _, _, rfl, rfl, rfl, .ref r, _, ?_, hyd3.up s13, fun H14 s14 => ⟨_, rfl, iteT ?_⟩⟩
            · rw [decide_eq_true (congrArg V.int hlast)]
              rfl
            · have h14 := h13.trans (s14.hid (D := l))
              exact ⟨none, .non, _, _, _, fi, rfl, h14, s14 _ _ (s13 _ _ (s11 _ _ (s10 _ _ l7))), k7, rfl, c9, e7, t11, by omega⟩
          · have hL := nL_of_nI hI hlv
            obtain ⟨eq1, hro⟩ := chk_tgt hI hL c8
            obtain ⟨v1, hv1, hv2⟩ := enc_tgt hI hL he hys
            refine ⟨_, rfl, _, dx, _, rfl, hid_in _ _ (h11 _ _ g0), rfl, _, rfl, _, rfl, _, rfl, r, l, _, st, vq, q', sec, rfl, hrd3, hyd3, hp3, .inr ⟨hI, hL, by rw [c8]; rfl, fun H13 s13 => ⟨_, rfl, iteT ?_⟩⟩⟩
            have h13 := h11.trans (s13.hid (D := l))
            refine ⟨_, rfl, _, dx, _, rfl, hid_in _ _ (h13 _ _ g0), rfl, _, rfl, _, _, _, _, rfl, rfl, s13.tup hya, atI_nat (j := 1) hv1, _, rfl, r, l, v1, st.tgt, vq, q', fi, rfl, hr0.up h13, s13 _ _ (s11 _ _ (s10 _ _ l7)), k7, p7.up ((s10.hid (D := l)).trans ((s11.hid (D := l)).trans (s13.hid (D := l)))), hv2.up s13, hro, fun v' H14 s14 l14 k14 p14 => ?_⟩
            rw [regs_tgt hI] at e7
            subst eq1
            exact ⟨_, v', _, _, _, _, rfl, h13.trans s14, l14, k14, p14, c9, e7, t11, by omega⟩
    · rintro σ H7 ⟨q', vq, x5, x6, x7, fi, rfl, s7, l7, k7, p7, c7, e7, t7, d7⟩
      rw [hlen, List.drop_length] at c7 e7
      rw [chkL_nil] at c7
      cases c7
      rw [regsL] at e7
      subst e7
      exact ⟨_, rfl, k _ _ s7 l7 k7 p7⟩
theorem ok_read (T : Txt K mg) (n : Nat) : ∀ c : Bool, Met P w K mg base (2*n+6) (He.ga K "Reader") "read" (spRead K b c n) := by
  induction n with
  | zero =>
    intro c
    refine ok_Reader_read T 0 ?_
    exact met_of T.d_Reader_read_if T.c_Reader T.m_Reader_read_if sc_Reader_read_if (fun _ _ _ _ _ _ us hl => match us, hl with | [_, _, _, _], _ => rfl) (fun vs H Q E h => h.elim) (fun cdv A outer s H vs Q E hr h => h.elim)
  | succ n ih =>
    intro c
    exact ok_Reader_read T (n + 1) (ok_Reader_read_if T n (ih b))
end
end K21
set_option Elab.async false
set_option linter.all false
set_option maxRecDepth 100000
set_option maxHeartbeats 400000
namespace K21
open PySem PySem.Spec PyProof.Rows L2
/-! ### sizes -/
theorem pdep_str (x : Str) : pdep (.str x) = 0 := by simp [pdep]
theorem pdep_tup (ds : List PyData) : pdep (.tuple ds) = 1 + pdepL ds := by simp [pdep]
theorem pdep_sq (c : Bool) (ds : List PyData) : pdep (sqD c ds) = 1 + pdepL ds := by cases c <;> simp [sqD, pdep]
theorem pdepL_nil : pdepL [] = 0 := by simp [pdepL]
theorem pdepL_cons (d : PyData) (r : List PyData) : pdepL (d :: r) = max (pdep d) (pdepL r) := by simp [pdepL]
theorem pdep_opt (x : Option Str) : pdep (optD x) = 0 := by cases x <;> simp [optD, pdep]
theorem strs_dep : ∀ ys : List Str, pdepL (ys.map PyData.str) = 0
  | [] => pdepL_nil
  | y :: r => by rw [List.map_cons, pdepL_cons, strs_dep r, pdep_str]; rfl
theorem encT_dep (t : Tst) : pdep (encT t) = 1 := by
  cases t with
  | same y z => simp [encT, pdep_tup, pdepL_cons, pdepL_nil, pdep_str]
  | ask f ys => simp [encT, pdep_tup, pdepL_cons, pdepL_nil, pdep_str, strs_dep]
mutual
theorem enc_dep (b : Bool) : ∀ s : Stm, pdep (enc b s) ≤ 1 + 2 * s.dep
  | .put x y => by simp [enc, pdep_tup, pdepL_cons, pdepL_nil, pdep_str]
  | .call x f ys => by simp [enc, pdep_tup, pdepL_cons, pdepL_nil, pdep_str, strs_dep]
  | .act x d ys => by simp [enc, pdep_tup, pdepL_cons, pdepL_nil, pdep_str, strs_dep, pdep_opt]
  | .leave => by simp [enc, pdep_tup, pdepL_cons, pdepL_nil, pdep_str]
  | .ite t p q => by
    have h1 := encL_dep b b p
    have h2 := encL_dep b b q
    rw [enc, pdep_tup, pdepL_cons, pdepL_cons, pdepL_cons, pdepL_cons, pdepL_nil, pdep_str, encT_dep, dep_ite]
    omega
theorem encL_dep (b c : Bool) : ∀ ss : List Stm, pdep (sqD c (encL b ss)) ≤ 2 + 2 * deps ss
  | [] => by rw [pdep_sq, encL, pdepL_nil]; omega
  | s :: r => by
    have h1 := enc_dep b s
    have h2 := encL_dep b c r
    rw [pdep_sq] at h2 ⊢
    rw [encL_cons, pdepL_cons, deps_cons]
    omega
end
theorem pwid_str (x : Str) : pwid (.str x) = 0 := by simp [pwid]
theorem pwid_tup (ds : List PyData) : pwid (.tuple ds) = max ds.length (pwidL ds) := by simp [pwid]
theorem pwid_sq (c : Bool) (ds : List PyData) : pwid (sqD c ds) = max ds.length (pwidL ds) := by cases c <;> simp [sqD, pwid]
theorem pwidL_nil : pwidL [] = 0 := by simp [pwidL]
theorem pwidL_cons (d : PyData) (r : List PyData) : pwidL (d :: r) = max (pwid d) (pwidL r) := by simp [pwidL]
theorem pwid_opt (x : Option Str) : pwid (optD x) = 0 := by cases x <;> simp [optD, pwid]
theorem strs_wid : ∀ ys : List Str, pwidL (ys.map PyData.str) = 0
  | [] => pwidL_nil
  | y :: r => by rw [List.map_cons, pwidL_cons, strs_wid r, pwid_str]; rfl
def tw : Tst → Nat
  | .same _ _ => 3
  | .ask _ ys => ys.length + 2
mutual
/-- the longest tuple or list in it -/
def Stm.mx : Stm → Nat
  | .put _ _ => 3
  | .call _ _ ys => ys.length + 3
  | .act _ _ ys => ys.length + 3
  | .leave => 1
  | .ite t a b => max (max 4 (tw t)) (max (max a.length (mxs a)) (max b.length (mxs b)))
def mxs : List Stm → Nat
  | [] => 0
  | s :: r => max s.mx (mxs r)
end
theorem mxs_nil : mxs [] = 0 := by rw [mxs]
theorem mxs_cons (s : Stm) (r : List Stm) : mxs (s :: r) = max s.mx (mxs r) := by rw [mxs]
theorem mx_ite (t : Tst) (a b : List Stm) : (Stm.ite t a b).mx = max (max 4 (tw t)) (max (max a.length (mxs a)) (max b.length (mxs b))) := by rw [Stm.mx]
theorem mxs_app : ∀ a b : List Stm, mxs (a ++ b) = max (mxs a) (mxs b)
  | [], b => by rw [List.nil_append, mxs_nil]; omega
  | s :: r, b => by rw [List.cons_append, mxs_cons, mxs_app r b, mxs_cons]; omega
theorem encT_wid (t : Tst) : pwid (encT t) = tw t := by
  cases t with
  | same y z => simp [encT, pwid_tup, pwidL_cons, pwidL_nil, pwid_str, tw]
  | ask f ys => simp [encT, pwid_tup, pwidL_cons, pwidL_nil, pwid_str, strs_wid, tw]
mutual
theorem enc_wid (b : Bool) : ∀ s : Stm, pwid (enc b s) ≤ s.mx
  | .put x y => by simp [enc, pwid_tup, pwidL_cons, pwidL_nil, pwid_str, Stm.mx]
  | .call x f ys => by simp [enc, pwid_tup, pwidL_cons, pwidL_nil, pwid_str, strs_wid, Stm.mx]
  | .act x d ys => by simp [enc, pwid_tup, pwidL_cons, pwidL_nil, pwid_str, strs_wid, pwid_opt, Stm.mx]
  | .leave => by simp [enc, pwid_tup, pwidL_cons, pwidL_nil, pwid_str, Stm.mx]
  | .ite t p q => by
    have h1 := encL_wid b p
    have h2 := encL_wid b q
    have l1 : (encL b p).length = p.length := by rw [encL_map, List.length_map]
    have l2 : (encL b q).length = q.length := by rw [encL_map, List.length_map]
    rw [enc, pwid_tup, pwidL_cons, pwidL_cons, pwidL_cons, pwidL_cons, pwidL_nil, pwid_str, encT_wid, mx_ite, pwid_sq, pwid_sq, l1, l2]
    show max 4 _ ≤ _
    omega
theorem encL_wid (b : Bool) : ∀ ss : List Stm, pwidL (encL b ss) ≤ mxs ss
  | [] => by rw [encL, pwidL_nil]; omega
  | s :: r => by
    have h1 := enc_wid b s
    have h2 := encL_wid b r
    rw [encL_cons, pwidL_cons, mxs_cons]
    omega
end
theorem sq_wid (b c : Bool) (ss : List Stm) : pwid (sqD c (encL b ss)) ≤ max ss.length (mxs ss) := by
  have h := encL_wid b ss
  rw [pwid_sq, encL_map, List.length_map, ← encL_map]
  omega
/-! ### frozen statements -/
theorem frz_str (x : Str) : frz (.str x) = .str x := by simp [frz]
theorem frz_opt (x : Option Str) : frz (optD x) = optD x := by cases x <;> simp [optD, frz]
theorem frz_tup (ds : List PyData) : frz (.tuple ds) = .tuple (frzL ds) := by simp [frz]
theorem frzL_cons (d : PyData) (r : List PyData) : frzL (d :: r) = frz d :: frzL r := by simp [frzL]
theorem frzL_nil : frzL [] = [] := by simp [frzL]
theorem frzL_strs : ∀ ys : List Str, frzL (ys.map PyData.str) = ys.map PyData.str
  | [] => frzL_nil
  | y :: r => by rw [List.map_cons, frzL_cons, frzL_strs r, frz_str]
theorem frz_sq (c : Bool) (ds : List PyData) : frz (sqD c ds) = .tuple (frzL ds) := by cases c <;> simp [sqD, frz]
theorem frz_encT (t : Tst) : frz (encT t) = encT t := by
  cases t with
  | same y z => simp [encT, frz_tup, frzL_cons, frzL_nil, frz_str]
  | ask f ys => simp [encT, frz_tup, frzL_cons, frz_str, frzL_strs]
mutual
theorem frz_enc (b : Bool) : ∀ s : Stm, frz (enc b s) = enc false s
  | .put x y => by simp [enc, frz_tup, frzL_cons, frzL_nil, frz_str]
  | .call x f ys => by simp [enc, frz_tup, frzL_cons, frzL_nil, frz_str, frzL_strs]
  | .act x d ys => by simp [enc, frz_tup, frzL_cons, frzL_nil, frz_str, frzL_strs, frz_opt]
  | .leave => by simp [enc, frz_tup, frzL_cons, frzL_nil, frz_str]
  | .ite t p q => by
    rw [enc, frz_tup, frzL_cons, frzL_cons, frzL_cons, frzL_cons, frzL_nil, frz_str, frz_encT, frz_sq, frz_sq, frz_encL b p, frz_encL b q, enc]
    rfl
theorem frz_encL (b : Bool) : ∀ ss : List Stm, frzL (encL b ss) = encL false ss
  | [] => by rw [encL, frzL_nil, encL]
  | s :: r => by rw [encL_cons, frzL_cons, frz_enc b s, frz_encL b r, encL_cons]
end
/-! ### sizes of what is checked, of what is turned -/
theorem ari_len {f : Str} {n : Nat} (h : ariF f = some n ∨ ariD f = some n ∨ ariT f = some n) : n ≤ 2 := by
  rcases h with h | h | h
  · exact ariF_le h
  · exact ariD_le h
  · have := (ariT_inv h).2
    omega
mutual
theorem mx_chkS (turn : Bool) : ∀ (s : Stm) (p q : Put), chkS turn s p = some q → s.mx ≤ max 5 (s.wt)
  | .put x y, p, q, h => by simp [Stm.mx]; omega
  | .call x f ys, p, q, h => by
    rw [chkS] at h
    split at h
    · rename_i e
      have := ariF_le (of_decide_eq_true (Bool.and_eq_true_iff.mp (Bool.and_eq_true_iff.mp e).2).1)
      rw [Stm.mx]
      omega
    · cases h
  | .act (some x) d ys, p, q, h => by
    rw [chkS] at h
    split at h
    · rename_i e
      have := ariD_le (of_decide_eq_true (Bool.and_eq_true_iff.mp (Bool.and_eq_true_iff.mp e).2).1)
      rw [Stm.mx]
      omega
    · cases h
  | .act none d ys, p, q, h => by
    rw [chkS] at h
    split at h
    · rename_i e
      have := ariD_le (of_decide_eq_true (Bool.and_eq_true_iff.mp e).1)
      rw [Stm.mx]
      omega
    · cases h
  | .leave, p, q, h => by simp [Stm.mx]; omega
  | .ite t a b, p, q, h => by
    rw [chkS] at h
    split at h
    · rename_i e
      obtain ⟨q1, h1, h⟩ := Option.bind_eq_some_iff.mp h
      obtain ⟨q2, h2, h⟩ := Option.bind_eq_some_iff.mp h
      have m1 := mx_chkL turn a p q1 h1
      have m2 := mx_chkL turn b p q2 h2
      have ht : tw t ≤ 4 := by
        cases t with
        | same y z => simp [tw]
        | ask f ys =>
          rw [tstOk] at e
          have := (ariT_inv (of_decide_eq_true (Bool.and_eq_true_iff.mp e).1)).2
          simp [tw]
          omega
      have la := len_wts a
      have lb := len_wts b
      have ew : (Stm.ite t a b).wt = 1 + (wts a + wts b) := by rw [Stm.wt]
      rw [mx_ite, ew]
      omega
    · cases h
theorem mx_chkL (turn : Bool) : ∀ (ss : List Stm) (p q : Put), chkL turn ss p = some q → mxs ss ≤ max 5 (wts ss)
  | [], p, q, h => by rw [mxs_nil]; omega
  | s :: r, p, q, h => by
    rw [chkL_cons] at h
    obtain ⟨q1, h1, h2⟩ := Option.bind_eq_some_iff.mp h
    have m1 := mx_chkS turn s p q1 h1
    have m2 := mx_chkL turn r q1 q h2
    rw [mxs_cons, wts_cons]
    omega
theorem len_wts : ∀ ss : List Stm, ss.length ≤ wts ss
  | [] => by simp
  | s :: r => by
    have := len_wts r
    have := wt_pos s
    rw [wts_cons, List.length_cons]
    omega
end
theorem tw_tst (τ : Tn) (t : Tst) : tw (τ.tst t) = tw t := by cases t <;> simp [Tn.tst, tw]
theorem tn_size (τ : Tn) : ∀ (k : Nat) (ss : List Stm), (τ.all k ss).length ≤ wts ss ∧ mxs (τ.all k ss) ≤ max (mxs ss) (max 4 (wts ss)) ∧ deps (τ.all k ss) ≤ nIs ss
  | 0, ss => by
    rw [show τ.all 0 ss = [] from rfl, mxs_nil, deps]
    simp
  | k + 1, [] => by
    rw [all_nil, mxs_nil, deps]
    simp
  | k + 1, s :: r => by
    have hr := tn_size τ (k + 1) r
    have plain : ∀ s', τ.all (k + 1) (s :: r) = s' :: τ.all (k + 1) r → s'.mx ≤ max s.mx 4 → s'.dep = 0 → (τ.all (k + 1) (s :: r)).length ≤ wts (s :: r) ∧ mxs (τ.all (k + 1) (s :: r)) ≤ max (mxs (s :: r)) (max 4 (wts (s :: r))) ∧ deps (τ.all (k + 1) (s :: r)) ≤ nIs (s :: r) := fun s' e h1 h2 => by
      have := wt_pos s
      rw [e, mxs_cons, deps_cons, List.length_cons, wts_cons, mxs_cons, nIs_cons, h2]
      omega
    cases s with
    | put x y => exact plain (.put (τ.nm x) (τ.nm y)) (by rw [all_cons]; rfl) (by simp [Stm.mx]; try omega) (by simp [Stm.dep])
    | call x f ys => exact plain (.call (τ.nm x) f (ys.map τ.nm)) (by rw [all_cons]; rfl) (by simp [Stm.mx]; try omega) (by simp [Stm.dep])
    | act x d ys => exact plain (.act (x.map τ.nm) d (ys.map τ.nm)) (by rw [all_cons]; rfl) (by simp [Stm.mx]; try omega) (by simp [Stm.dep])
    | leave =>
      rw [show τ.all (k + 1) (.leave :: r) = [.put (τ.flag.getD "") "a"] by rw [all_cons], mxs_cons, mxs_nil, deps_cons, wts_cons]
      have e1 : (Stm.put (τ.flag.getD "") "a").mx = 3 := by simp [Stm.mx]
      have e2 : (Stm.put (τ.flag.getD "") "a").dep = 0 := by simp [Stm.dep]
      have e3 : Stm.leave.wt = 1 := by simp [Stm.wt]
      rw [e1, e2, e3, deps]
      simp
      omega
    | ite t a b =>
      have ew : (Stm.ite t a b).wt = 1 + (wts a + wts b) := by rw [Stm.wt]
      have mle : ∀ {x y z : Nat}, x ≤ z → y ≤ z → max x y ≤ z := fun h1 h2 => Nat.max_le.mpr ⟨h1, h2⟩
      have inv : ∀ {x y z : Nat}, max x y ≤ z → x ≤ z ∧ y ≤ z := fun h => Nat.max_le.mp h
      -- what the bounds hold
      generalize hW : wts (.ite t a b :: r) = W
      generalize hM : max (mxs (.ite t a b :: r)) (max 4 W) = M
      rw [wts_cons, ew] at hW
      have hM' : max (mxs (.ite t a b :: r)) (max 4 W) ≤ M := Nat.le_of_eq hM
      rw [mxs_cons, mx_ite] at hM'
      obtain ⟨m1, m2⟩ := inv hM'
      obtain ⟨m4, mW⟩ := inv m2
      obtain ⟨m5, mr⟩ := inv m1
      obtain ⟨m6, m7⟩ := inv m5
      obtain ⟨_, mt⟩ := inv m6
      obtain ⟨m8, m9⟩ := inv m7
      obtain ⟨_, ma⟩ := inv m8
      obtain ⟨_, mb⟩ := inv m9
      by_cases h0 : (Stm.ite t a b).nL = 0
      · have e : τ.all (k + 1) (.ite t a b :: r) = .ite (τ.tst t) (τ.all k a) (τ.all k b) :: τ.all (k + 1) r := by
          rw [all_cons]
          dsimp only
          rw [if_pos h0]
          rfl
        obtain ⟨a1, a2, a3⟩ := tn_size τ k a
        obtain ⟨b1, b2, b3⟩ := tn_size τ k b
        obtain ⟨r1, r2, r3⟩ := hr
        rw [e, mxs_cons, deps_cons, List.length_cons, nIs_cons, mx_ite, tw_tst, dep_ite, nI_ite]
        refine ⟨by omega, mle (mle (mle m4 mt) (mle (mle (by omega) (Nat.le_trans a2 (mle ma (mle m4 (by omega))))) (mle (by omega) (Nat.le_trans b2 (mle mb (mle m4 (by omega))))))) (Nat.le_trans r2 (mle mr (mle m4 (by omega)))), mle ?_ (by omega)⟩
        have : max (deps (τ.all k a)) (deps (τ.all k b)) ≤ nIs a + nIs b := mle (by omega) (by omega)
        omega
      · have e : τ.all (k + 1) (.ite t a b :: r) = [.ite (τ.tst t) (τ.all k (a ++ r)) (τ.all k (b ++ r))] := by
          rw [all_cons]
          dsimp only
          rw [if_neg h0]
          rfl
        obtain ⟨a1, a2, a3⟩ := tn_size τ k (a ++ r)
        obtain ⟨b1, b2, b3⟩ := tn_size τ k (b ++ r)
        rw [wts_app] at a1 a2 b1 b2
        rw [mxs_app] at a2 b2
        rw [nIs_app] at a3 b3
        rw [e, mxs_cons, mxs_nil, deps_cons, deps, List.length_cons, nIs_cons, mx_ite, tw_tst, dep_ite, nI_ite]
        have lr := len_wts r
        refine ⟨by simp only [List.length_nil]; omega, mle (mle (mle m4 mt) (mle (mle (by omega) (Nat.le_trans a2 (mle (mle ma mr) (mle m4 (by omega))))) (mle (by omega) (Nat.le_trans b2 (mle (mle mb mr) (mle m4 (by omega))))))) (by omega), mle ?_ (by omega)⟩
        have : max (deps (τ.all k (a ++ r))) (deps (τ.all k (b ++ r))) ≤ nIs a + nIs b + nIs r := mle (by omega) (by omega)
        omega
end K21
set_option Elab.async false
set_option linter.all false
set_option maxRecDepth 100000
set_option maxHeartbeats 1000000
namespace K21
open PySem PySem.Spec PyProof.Rows L2
/-! ### loops -/
def LoopAt (K : PySem.W.Frag) (H : Hp) (o n : Addr) (L : Lp) (Rg : List Str) : Prop := ∃ (dx d ar kp : Addr) (v1 v2 v3 : V), H o = some (.ins (He.ga K "Loop") dx [("names", .ref n), ("laid", .ref d), ("all_registers", .ref ar), ("kept", .ref kp)]) ∧ NamesAt K H n ∧
  H d = some (.dK [(.inr "start", v1), (.inr "turn", v2), (.inr "end", v3)]) ∧ Dp K H v1 (.tuple (encL false L.start)) ∧ Dp K H v2 (.tuple (encL false L.turn)) ∧ Dp K H v3 (.tuple (encL false L.fin)) ∧ H ar = some (.lst (Rg.map V.str)) ∧ regsOk Rg
theorem LoopAt.up {K : PySem.W.Frag} {H H' : Hp} {o n : Addr} {L : Lp} {Rg : List Str} (h : LoopAt K H o n L Rg) (e : Same H H') : LoopAt K H' o n L Rg := by
  obtain ⟨dx, d, ar, kp, v1, v2, v3, h1, h2, h3, h4, h5, h6, h7, h8⟩ := h
  exact ⟨dx, d, ar, kp, v1, v2, v3, e _ _ h1, h2.up e, e _ _ h3, h4.up e, h5.up e, h6.up e, e _ _ h7, h8⟩
def secOf (L : Lp) (w : Str) : Option (List Stm) := if w = "start" then some L.start else if w = "turn" then some L.turn else if w = "end" then some L.fin else none
def spRdInit (K : PySem.W.Frag) : Sp := fun vs H Q _ => ∃ r n dx, vs = [.ref r, .ref n] ∧ H r = some (.ins (He.ga K "Reader") dx []) ∧ NamesAt K (hid r H) n ∧
  ∀ u l H', Same (hid r H) (hid r H') → H' r = some (.ins (He.ga K "Reader") dx [("names", .ref n), ("used", .ref u), ("found", .ref l)]) → H u = none → H l = none → l ≠ u → H' u = some (.lst (used.map V.str)) → H' l = some (.lst []) → Q .non H'
def spSec (K : PySem.W.Frag) : Sp := fun vs H Q _ => ∃ o n L Rg wd ss, vs = [.ref o, .str wd] ∧ LoopAt K H o n L Rg ∧ secOf L wd = some ss ∧ ∀ p xs, H p = none → DpAll K H xs (encL false ss) → Q (.ref p) (upd H p (.lst xs))
def spRegs (K : PySem.W.Frag) : Sp := fun vs H Q _ => ∃ o n L Rg, vs = [.ref o] ∧ LoopAt K H o n L Rg ∧ ∀ p, H p = none → Q (.ref p) (upd H p (.lst (Rg.map V.str)))
section
variable {P : Program} {w : World} {K : PySem.W.Frag} {mg : Str → Option Value} {base : Heap} {b : Bool}
theorem sc_Reader_init : FnScope ["self", "names"] ["self", "names"] (defScope s_Reader_init) := ⟨rfl, rfl, rfl, by decide +kernel, rfl, by decide +kernel, by decide +kernel⟩
theorem ok_Reader_init (T : Txt K mg) : Mak P w K mg base (2) "Reader" (He.ga K "Reader") (spRdInit K) := by
  refine mak_of T.d_Reader_init T.k_Reader T.g_Reader sc_Reader_init (fun _ _ _ _ _ _ us hl => match us, hl with | [_, _], _ => rfl) (fun vs H Q E h => ?_) (fun cdv A outer s H vs Q E hr h => ?_)
  · obtain ⟨r, n, dx, rfl, hr0, hn, k⟩ := h
    rfl
  obtain ⟨r, n, dx, rfl, hr0, hn, k⟩ := h
  have c_Names_all_names := ok_Names_all_names (P := P) (w := w) (base := base) T
  have sc := sc_Reader_init
  have hu := hu_of hr
  refine ⟨_, (pss_cons (ps_fld (pv 0) (pv 1) rfl)
      (pss_cons (ps_fld (pv 0) (pmt0 c_Names_all_names hr (by decide) (pv 1)) rfl)
      (pss_one (ps_fld (pv 0) (pe_lst pa_nil) rfl)))), ?_⟩
  refine ⟨_, rfl, _, rfl, r, _, dx, _, rfl, hr0, T.c_Reader, T.n_Reader_names, (by show 0 < 1000; omega), ?_⟩
  have n1 : NamesAt K (upd H r (.ins (He.ga K "Reader") dx [("names", .ref n)])) n := hn.up (by
    have e : hid r (upd H r (.ins (He.ga K "Reader") dx [("names", .ref n)])) = hid r H := hid_upd
    exact fun b u q => by
      rw [← e] at q
      exact hid_in b u q)
  obtain ⟨dn, cc, ff, tt, ddd, ru, fa, pa, p0, j0, jr⟩ := id n1
  refine ⟨_, rfl, _, dn, _, rfl, j0, rfl, n, rfl, n1, fun u H1 s1 e1 e2 => ?_⟩
  have a1 := s1 _ _ upd_same
  refine ⟨_, rfl, r, _, dx, _, rfl, a1, T.c_Reader, T.n_Reader_used, (by show 1 < 1000; omega), ?_⟩
  refine ⟨(by show 0 ≤ sizeLine; decide), fun l e3 => ?_⟩
  have nu : u ≠ r := fun z => by
    rw [z, a1] at e2
    cases e2
  have nl : l ≠ r := fun z => by
    rw [z, upd_same] at e3
    cases e3
  have e1' : H u = none := by rwa [upd_ne nu] at e1
  have e3' : H1 l = none := by rwa [upd_ne nl] at e3
  have nlu : l ≠ u := fun z => by
    rw [z, e2] at e3'
    cases e3'
  have e3'' : H l = none := by
    have q := s1.free e3'
    rwa [upd_ne nl] at q
  refine ⟨_, rfl, r, _, dx, _, rfl, ((upd_ne (Ne.symm nl)).trans upd_same), T.c_Reader, T.n_Reader_found, (by show 2 < 1000; omega), ?_⟩
  refine k u l _ ?_ upd_same e1' e3'' nlu ?_ ?_
  · rw [hid_upd]
    refine Same.trans ?_ (Same.new (o := .lst []) ?_).hid
    · rw [hid_upd]
      have q := s1.hid (D := r)
      rwa [hid_upd] at q
    · exact e3
  · rw [upd_ne nu, upd_ne (Ne.symm nlu), upd_ne nu]
    exact e2
  · rw [upd_ne nl, upd_same]
theorem sc_Loop_section : FnScope ["self", "word"] ["self", "word"] (defScope s_Loop_section) := ⟨rfl, rfl, rfl, by decide +kernel, rfl, by decide +kernel, by decide +kernel⟩
theorem ok_Loop_section (T : Txt K mg) : Met P w K mg base (1) (He.ga K "Loop") "section" (spSec K) := by
  refine met_of T.d_Loop_section T.c_Loop T.m_Loop_section sc_Loop_section (fun _ _ _ _ _ _ us hl => match us, hl with | [_, _], _ => rfl) (fun vs H Q E h => ?_) (fun cdv A outer s H vs Q E hr h => ?_)
  · obtain ⟨o, n, L, Rg, wd, ss, rfl, ⟨dx, d, ar, kp, v1, v2, v3, h1, h2, h3, h4, h5, h6, h7, h8⟩, hw, k⟩ := h
    rfl
  obtain ⟨o, n, L, Rg, wd, ss, rfl, ⟨dx, d, ar, kp, v1, v2, v3, h1, h2, h3, h4, h5, h6, h7, h8⟩, hw, k⟩ := h
  have sc := sc_Loop_section
  have hu := hu_of hr
  refine ⟨_, (pss_cons (ps_if (PW.pt (pw_or (pt_not (pt_val (pb call_isi T.b_isinstance v_isinstance (pa_cons (pv 1) (pa_cons (p_ty T.b_str v_str) pa_nil))))) (pw_or1 (pt_cmpR op_notIn_seq (pv 1) (p_ref T.g_SECTIONS) (by rfl))))) (pss_one ps_never) pss_nil)
      (pss_one (ps_ret (pbt call_list_of T.b_list v_list (pa_cons (pe_dget hu (pe_fld (pv 0) rfl) (pv 1) (fun _ _ => rfl)) pa_nil))))), ?_⟩
  refine ⟨_, rfl, _, _, _, _, _, rfl, .ty _, .base (.str _), kt_str_str, _, rfl, iteF ?_⟩
  refine ⟨_, rfl, _, _, rfl, .inr (T.t_sects H), rfl, flat_strs ["start", "turn", "end"], _, rfl, ?_⟩
  have hc : (wd = "start" ∧ ss = L.start) ∨ (wd = "turn" ∧ ss = L.turn) ∨ (wd = "end" ∧ ss = L.fin) := by
    unfold secOf at hw
    split at hw
    · exact .inl ⟨by assumption, (Option.some.inj hw).symm⟩
    split at hw
    · exact .inr (.inl ⟨by assumption, (Option.some.inj hw).symm⟩)
    split at hw
    · exact .inr (.inr ⟨by assumption, (Option.some.inj hw).symm⟩)
    · cases hw
  rcases hc with ⟨rfl, rfl⟩ | ⟨rfl, rfl⟩ | ⟨rfl, rfl⟩
  · obtain ⟨a, xs, rfl, ha, hxs⟩ := dp_tup h4
    exact iteF ⟨_, rfl, _, _, dx, _, _, rfl, h1, T.c_Loop, T.n_Loop_laid, rfl, _, rfl, d, _, rfl, .inl ⟨_, .inr "start", .inl h3, rfl, rfl⟩, _, _, rfl, .inr ha, fun p hp => k p xs hp hxs⟩
  · obtain ⟨a, xs, rfl, ha, hxs⟩ := dp_tup h5
    exact iteF ⟨_, rfl, _, _, dx, _, _, rfl, h1, T.c_Loop, T.n_Loop_laid, rfl, _, rfl, d, _, rfl, .inl ⟨_, .inr "turn", .inl h3, rfl, rfl⟩, _, _, rfl, .inr ha, fun p hp => k p xs hp hxs⟩
  · obtain ⟨a, xs, rfl, ha, hxs⟩ := dp_tup h6
    exact iteF ⟨_, rfl, _, _, dx, _, _, rfl, h1, T.c_Loop, T.n_Loop_laid, rfl, _, rfl, d, _, rfl, .inl ⟨_, .inr "end", .inl h3, rfl, rfl⟩, _, _, rfl, .inr ha, fun p hp => k p xs hp hxs⟩
theorem sc_Loop_registers : FnScope ["self"] ["self"] (defScope s_Loop_registers) := ⟨rfl, rfl, rfl, by decide +kernel, rfl, by decide +kernel, by decide +kernel⟩
theorem ok_Loop_registers (T : Txt K mg) : Met P w K mg base (1) (He.ga K "Loop") "registers" (spRegs K) := by
  refine met_of T.d_Loop_registers T.c_Loop T.m_Loop_registers sc_Loop_registers (fun _ _ _ _ _ _ us hl => match us, hl with | [_], _ => rfl) (fun vs H Q E h => ?_) (fun cdv A outer s H vs Q E hr h => ?_)
  · obtain ⟨o, n, L, Rg, rfl, ⟨dx, d, ar, kp, v1, v2, v3, h1, h2, h3, h4, h5, h6, h7, h8⟩, k⟩ := h
    rfl
  obtain ⟨o, n, L, Rg, rfl, ⟨dx, d, ar, kp, v1, v2, v3, h1, h2, h3, h4, h5, h6, h7, h8⟩, k⟩ := h
  have sc := sc_Loop_registers
  have hu := hu_of hr
  refine ⟨_, (pss_one (ps_ret (pbt call_list_of T.b_list v_list (pa_cons (pe_fld (pv 0) rfl) pa_nil)))), ?_⟩
  exact ⟨_, rfl, _, _, dx, _, _, rfl, h1, T.c_Loop, T.n_Loop_all_registers, rfl, _, _, rfl, .inl (SqL.of h7), k⟩
/-- the list a loop's section is read from -/
def spLoopInit (K : PySem.W.Frag) (b : Bool) (n : Nat) : Sp := fun vs H Q _ => ∃ (o nm dx : Addr) (v1 v2 v3 : V) (L : Lp) (p0 : List Str) (q1 q2 : Put), vs = [.ref o, .ref nm, v1, v2, v3] ∧ H o = some (.ins (He.ga K "Loop") dx []) ∧ NamesAt K (hid o H) nm ∧
  Dp K (hid o H) v1 (sqD true (encL b L.start)) ∧ Dp K (hid o H) v2 (sqD true (encL b L.turn)) ∧ Dp K (hid o H) v3 (sqD true (encL b L.fin)) ∧
  (deps L.start ≤ n ∧ deps L.turn ≤ n ∧ deps L.fin ≤ n) ∧ (lstL L.start = true ∧ lstL L.turn = true ∧ lstL L.fin = true) ∧ (max L.start.length (mxs L.start) ≤ 1000 ∧ max L.turn.length (mxs L.turn) ≤ 1000 ∧ max L.fin.length (mxs L.fin) ≤ 1000) ∧
  (chkL false L.start (some []) = some (some p0) ∧ chkL true L.turn (some p0) = some q1 ∧ chkL false L.fin (some p0) = some q2) ∧ n ≤ 200 ∧
  ∀ H', Same (hid o H) (hid o H') → LoopAt K H' o nm L (regsL L.fin (regsL L.turn (regsL L.start []))) → Q .non H'
theorem tups_hid' {D : Addr} {H : Hp} {kvs : List (Key × V)} (h : H D = some (.dK kvs)) : Same (tups H) (tups (hid D H)) := fun b u q => by
  obtain ⟨xs, e, hb⟩ := tups_inv q
  rw [e]
  refine tups_some ?_
  rw [hid_ne (fun z => by rw [z, h] at hb; cases hb)]
  exact hb
theorem ok_frozen' (T : Txt K mg) (n : Nat) : Cal P w K mg base (2*n+4) "frozen" (spFrozen K (2*n+2)) := ok_frozen T (2*n+2)
def fAt (L : Lp) : Nat → List Str
  | 0 => []
  | 1 => regsL L.start []
  | 2 => regsL L.turn (regsL L.start [])
  | _ => regsL L.fin (regsL L.turn (regsL L.start []))
def pAt (p0 : List Str) : Nat → Put
  | 0 => some []
  | _ => some p0
theorem sc_Loop_init : FnScope ["self", "names", "start", "turn", "end", "reader", "put", "some", "section", "behind", "name"] ["self", "names", "start", "turn", "end"] (defScope s_Loop_init) := ⟨rfl, rfl, rfl, by decide +kernel, rfl, by decide +kernel, by decide +kernel⟩
theorem ok_Loop_init (T : Txt K mg) : ∀ n : Nat, Mak P w K mg base (2*n+7) "Loop" (He.ga K "Loop") (spLoopInit K b n) := by
  intro n
  refine mak_of T.d_Loop_init T.k_Loop T.g_Loop sc_Loop_init (fun _ _ _ _ _ _ us hl => match us, hl with | [_, _, _, _, _], _ => rfl) (fun vs H Q E h => ?_) (fun cdv A outer s H vs Q E hr h => ?_)
  · obtain ⟨o, nm, dx, v1, v2, v3, L, p0, q1, q2, rfl, ho, hn, w1, w2, w3, hdep, hlst, hwid, hchk, hn2, k⟩ := h
    rfl
  obtain ⟨o, nm, dx, v1, v2, v3, L, p0, q1, q2, rfl, ho, hn, w1, w2, w3, hdep, hlst, hwid, hchk, hn2, k⟩ := h
  have c_is_row_loops : Cal P w K mg base 1 "is_row_loops" (spRow K) := ok_is_row_loops T
  have c_Reader : Mak P w K mg base 2 "Reader" (He.ga K "Reader") (spRdInit K) := ok_Reader_init T
  have c_Reader_read := ok_read (P := P) (w := w) (base := base) (b := b) T n true
  have c_frozen := ok_frozen' (P := P) (w := w) (base := base) T n
  have sc := sc_Loop_init
  have hu := hu_of hr
  refine ⟨_, (pss_cons (ps_asg (pe_tup (pa_cons (pmk c_Reader hr (by omega) (pa_cons (pv 1) pa_nil)) (pa_cons (pe_lst pa_nil) pa_nil))) (pg_tup rfl (pgs_cons (pgn 5 sc.nd) (pgs_cons (pgn 6 sc.nd) pgs_nil))))
      (pss_cons (pset 7 sc.nd (pe_disp (pps_cons pe_str (pv 2) (pps_cons pe_str (pv 3) (pps_cons pe_str (pv 4) pps_nil))) (by rfl) (by rfl) (fun z => by cases z) (by decide)))
      (pss_cons (ps_for PassesOwn.never rfl (pi_tup (p_ref T.g_SECTIONS)) (pgn 8 sc.nd)
        (pss_cons (ps_if (pt_not (pt_val (pc c_is_row_loops hr (by omega) (pa_cons (pe_dget hu (pv 7) (pv 8) (fun _ _ => rfl)) pa_nil)))) (pss_one ps_never) pss_nil)
        (pss_cons (pset 9 sc.nd (pmt c_Reader_read hr (by omega) (pv 5) (pa_cons (pe_dget hu (pv 7) (pv 8) (fun _ _ => rfl)) (pa_cons (pe_tup (pa_cons (pv 8) pa_nil)) (pa_cons (pv 6) pa_nil)))))
        (pss_one (pset 6 sc.nd (pe_ifExp (pt_cmpR op_eq (pv 8) pe_str (nomark _)) (pv 9) (pv 6)))))))
      (pss_cons (ps_fld (pv 0) (pv 1) rfl)
      (pss_cons (ps_fld (pv 0) (pe_dc (own := [("section", 8)]) (g := gName 8) (tt := tYes) rfl sc.nd (pi_tup (p_ref T.g_SECTIONS)) (blkOk_by (N := ["self", "names", "start", "turn", "end", "reader", "put", "some", "section", "behind", "name"]) (sc := defScope s_Loop_init) (by decide +kernel)) (fun _ _ _ _ _ => (pgn 8 sc.nd)) (fun _ _ _ _ _ => pts_nil) (fun _ _ _ _ _ => (pv 8)) (fun _ _ _ _ _ => (pc c_frozen hr (by omega) (pa_cons (pe_dget hu (pv 7) (pv 8) (fun _ _ => rfl)) pa_nil)))) rfl)
      (pss_cons (ps_fld (pv 0) (pe_fld (pv 5) rfl) rfl)
      (pss_one (ps_fld (pv 0) (pe_lc (own := [("name", 10)]) (g := gName 10) rfl sc.nd (pi_list (pe_fld (pv 5) rfl)) (blkOk_by (N := ["self", "names", "start", "turn", "end", "reader", "put", "some", "section", "behind", "name"]) (sc := defScope s_Loop_init) (by decide +kernel)) (fun _ _ _ _ _ => (pgn 10 sc.nd)) (fun _ _ _ _ _ => pts_one (pt_cmpR (show OpR _ (compareOp .In) (rIn K false) from op_in_seq) (pv 10) (pv 6) (by rfl))) (fun _ _ _ _ _ => (pv 10))) rfl)))))))), ?_⟩
  refine ⟨_, rfl, fun r dr er edr hne => ?_⟩
  -- the reader
  generalize hX : upd (upd H dr (.own r)) r (.ins (He.ga K "Reader") dr []) = X
  have sX : Same H (hid r X) := by
    rw [← hX, hid_upd]
    exact hid_of er (Same.new edr)
  have hXr : X r = some (.ins (He.ga K "Reader") dr []) := by rw [← hX]; exact upd_same
  refine ⟨r, nm, dr, rfl, hXr, (hn.up hid_in).up sX, fun u l H1 s1 a2 a1 a3 a5 a6u a6 => ⟨rfl, ?_⟩⟩
  have t1 : Same H H1 := (sX.trans s1).trans hid_in
  have hl0 : H l = none := by
    cases z : H l with
    | none => rfl
    | some w0 =>
      have := hid_in _ _ (sX _ _ z)
      rw [a3] at this
      cases this
  have hlr : r ≠ l := fun z => by
    rw [z, a3] at hXr
    cases hXr
  refine ⟨by show 0 ≤ sizeLine; decide, fun pp e2 => ?_⟩
  have t2 : Same H1 (upd H1 pp (.lst [])) := Same.new e2
  have npl : pp ≠ l := nh a6 e2
  refine ⟨(by show 2 ≤ sizeLine; decide), fun tt ett => ⟨tt, _, rfl, SqT.of upd_same, rfl, _, _, rfl, _, _, rfl, rfl, ?_⟩⟩
  have t2' := t2.trans (Same.new (o := .tup [.ref r, .ref pp]) ett)
  refine fun d3 e3 => ⟨_, rfl, _, rfl, _, rfl, upd_same, [(.inr "start", v1), (.inr "turn", v2), (.inr "end", v3)], rfl, (by show 3 ≤ 15; omega), ?_⟩
  generalize hY : upd (upd _ d3 (.dK [])) d3 (.dK (mergeK [] [((.inr "start" : Key), v1), (.inr "turn", v2), (.inr "end", v3)])) = Y
  have t3 : Same (upd (upd H1 pp (.lst [])) tt (.tup [.ref r, .ref pp])) Y := by rw [← hY]; exact Same.mut (Same.new e3) e3
  have hd3 : Y d3 = some (.dK [(.inr "start", v1), (.inr "turn", v2), (.inr "end", v3)]) := by rw [← hY]; exact upd_same
  have t1Y := t2'.trans t3
  have tY := t1.trans t1Y
  have nd3 : d3 ≠ l := nh (t2' _ _ a6) e3
  have hpp : Y pp = some (.lst []) := t3 _ _ ((Same.new ett) _ _ upd_same)
  have hlY := t1Y _ _ a6
  have hYr : hid l Y r = some (.ins (He.ga K "Reader") dr [("names", .ref nm), ("used", .ref u), ("found", .ref l)]) := by
    rw [hid_ne hlr]
    exact t1Y _ _ a2
  have gY : Same H (hid l Y) := hid_of hl0 tY
  have rdY : RdAt K (hid l Y) r l := ⟨dr, nm, u, hYr, (hn.up hid_in).up gY, by rw [hid_ne (Ne.symm a5)]; exact t1Y _ _ a6u⟩
  have hd3' : hid l Y d3 = some (.dK [(.inr "start", v1), (.inr "turn", v2), (.inr "end", v3)]) := by rw [hid_ne nd3]; exact hd3
  have g1 := (w1.up hid_in).up gY
  have g2 := (w2.up hid_in).up gY
  have g3 := (w3.up hid_in).up gY
  -- the three sections
  refine ⟨_, rfl, ⟨_, T.t_sects Y⟩, ?_⟩
  refine for_it walk_tup (fun i σ H7 => ∃ vp x8 x9 x10, σ = [some (.ref o), some (.ref nm), some v1, some v2, some v3, some (.ref r), some vp, some (.ref d3), x8, x9, x10] ∧ Same (hid l Y) (hid l H7) ∧ H7 l = some (.lst ((fAt L i).map V.str)) ∧ regsOk (fAt L i) ∧ PutAt (hid l H7) vp (pAt p0 i)) ?_ (fun i σ H7 _ _ => T.t_sects H7) ?_ ?_
  · exact ⟨.ref pp, _, _, _, rfl, Same.refl _, hlY, regsOk.nil, pp, rfl, by rw [hid_ne (nh a6 e2)]; exact hpp, regsOk.nil⟩
  · rintro i x σ H7 H8 hi ⟨vp, x8, x9, x10, rfl, s7, l7, k7, p7⟩ ⟨rfl, hx⟩
    have key : ∃ sec ss v q, x = .str sec ∧ valV [((.inr "start" : Key), v1), (.inr "turn", v2), (.inr "end", v3)] (.inr sec) = some v ∧ Dp K (hid l Y) v (sqD true (encL b ss)) ∧ deps ss ≤ n ∧ lstL ss = true ∧ chkL (decide (sec = "turn")) ss (pAt p0 i) = some q ∧ regsL ss (fAt L i) = fAt L (i + 1) ∧ ((sec = "start" ∧ q = pAt p0 (i + 1)) ∨ (sec ≠ "start" ∧ pAt p0 i = pAt p0 (i + 1))) := by
      match i, hi, hx with
      | 0, _, hx =>
        cases hx
        exact ⟨"start", L.start, v1, _, rfl, rfl, g1, hdep.1, hlst.1, hchk.1, rfl, .inl ⟨rfl, rfl⟩⟩
      | 1, _, hx =>
        cases hx
        exact ⟨"turn", L.turn, v2, _, rfl, rfl, g2, hdep.2.1, hlst.2.1, hchk.2.1, rfl, .inr ⟨by decide, rfl⟩⟩
      | 2, _, hx =>
        cases hx
        exact ⟨"end", L.fin, v3, _, rfl, rfl, g3, hdep.2.2, hlst.2.2, hchk.2.2, rfl, .inr ⟨by decide, rfl⟩⟩
    obtain ⟨sec, ss, v, q, rfl, hv, hd, hdp, hls, hck, hrg, hwhich⟩ := key
    have hd7 : H8 d3 = some (.dK [(.inr "start", v1), (.inr "turn", v2), (.inr "end", v3)]) := hid_in _ _ (s7 _ _ hd3')
    refine ⟨_, rfl, _, rfl, d3, v, rfl, .inl ⟨_, .inr sec, .inl hd7, rfl, hv.symm⟩, _, _, rfl, (hd.up s7).up hid_in, fun H9 s9 => ⟨_, rfl, ?_⟩⟩
    rw [sqD_isRow]
    refine iteF ?_
    have h9 := s7.trans (s9.hid (D := l))
    refine ⟨_, rfl, _, dr, _, rfl, hid_in _ _ (h9 _ _ hYr), rfl, _, rfl, _, rfl, d3, v, rfl, .inl ⟨_, .inr sec, .inl (s9 _ _ hd7), rfl, hv.symm⟩, _, rfl, (by show 1 ≤ sizeLine; decide), fun tp etp => ?_⟩
    have s10 := s9.trans (Same.new (o := .tup [.str sec]) etp)
    have h10 := s7.trans (s10.hid (D := l))
    refine ⟨_, rfl, r, l, v, ss, tp, sec, [], vp, pAt p0 i, q, fAt L i, rfl, rdY.up h10, s10 _ _ l7, k7, SqT.of ?_, by show 0 + 2 * n ≤ 500; omega, p7.up (s10.hid (D := l)), hd.up h10, hdp, hls, hck, fun v' H11 s11 l11 k11 p11 => ?_⟩
    · rw [hid_ne (nh (s9 _ _ l7) etp), upd_same]
    rw [hrg] at l11 k11
    have h11 := h10.trans s11
    refine ⟨_, rfl, rfl, _, rfl, ?_⟩
    rcases hwhich with ⟨rfl, rfl⟩ | ⟨hne, hpe⟩
    · exact iteT ⟨_, rfl, v', _, _, _, rfl, h11, l11, k11, p11⟩
    · rw [decide_eq_false (fun z => hne (V.str.inj z))]
      refine iteF ⟨_, rfl, vp, _, _, _, rfl, h11, l11, k11, ?_⟩
      rw [← hpe]
      exact p7.up ((s10.hid (D := l)).trans s11)
  · rintro σ H3 ⟨vp, x8, x9, x10, rfl, s3, l3, k3, p3⟩
    obtain ⟨z1, rfl, z2, z3⟩ := p3
    replace k3 : regsOk (fAt L 3) := k3
    have tH3 : Same H H3 := (gY.trans s3).trans hid_in
    have o3 := tH3 _ _ ho
    have hro : r ≠ o := fun z => by rw [z, ho] at er; cases er
    have hlo : l ≠ o := fun z => by rw [z, ho] at hl0; cases hl0
    have hd0 : H d3 = none := (t1.trans t2').free e3
    have hdo : d3 ≠ o := fun z => by rw [z, ho] at hd0; cases hd0
    have hzo : z1 ≠ o := fun z => by
      have := hid_in _ _ z2
      rw [z, o3] at this
      cases this
    have G : Hp := hid o H3
    have fr : hid o H3 r = some (.ins (He.ga K "Reader") dr [("names", .ref nm), ("used", .ref u), ("found", .ref l)]) := by rw [hid_ne hro]; exact hid_in _ _ (s3 _ _ hYr)
    have fl : hid o H3 l = some (.lst ((fAt L 3).map V.str)) := by rw [hid_ne hlo]; exact l3
    have fd : hid o H3 d3 = some (.dK [(.inr "start", v1), (.inr "turn", v2), (.inr "end", v3)]) := by rw [hid_ne hdo]; exact hid_in _ _ (s3 _ _ hd3')
    have fz : hid o H3 z1 = some (.lst (p0.map V.str)) := by rw [hid_ne hzo]; exact hid_in _ _ z2
    have fw : Same (hid o H) (hid o H3) := tH3.hid
    clear G
    refine ⟨_, rfl, _, rfl, o, _, dx, _, rfl, o3, T.c_Loop, T.n_Loop_names, (by show 0 < 1000; omega), ?_⟩
    generalize hH4 : upd H3 o (.ins (He.ga K "Loop") dx (putF "names" (.ref nm) [])) = H4
    have e4 : hid o H4 = hid o H3 := by rw [← hH4]; exact hid_upd
    have o4 : H4 o = some (.ins (He.ga K "Loop") dx [("names", .ref nm)]) := by rw [← hH4]; exact upd_same
    rw [← e4] at fr fl fd fz fw
    refine ⟨_, rfl, ⟨_, T.t_sects H4⟩, fun D hD => ?_⟩
    refine dc_tup (fun i H7 => Same H4 (hid D H7) ∧ ∃ y1 y2 y3 : V, H7 D = some (.dK (List.take i [((.inr "start" : Key), y1), (.inr "turn", y2), (.inr "end", y3)])) ∧ (1 ≤ i → Dp K (tups H7) y1 (.tuple (encL false L.start))) ∧ (2 ≤ i → Dp K (tups H7) y2 (.tuple (encL false L.turn))) ∧ (3 ≤ i → Dp K (tups H7) y3 (.tuple (encL false L.fin)))) ?_ (fun i H7 _ _ => T.t_sects H7) ?_ ?_
    · refine ⟨?_, .non, .non, .non, upd_same, fun h => by omega, fun h => by omega, fun h => by omega⟩
      rw [hid_upd]
      exact hid_of hD (Same.refl _)
    · rintro i x H7 hx ⟨s7, y1, y2, y3, d7, u1, u2, u3⟩
      have hd7 : H7 d3 = some (.dK [(.inr "start", v1), (.inr "turn", v2), (.inr "end", v3)]) := hid_in _ _ (s7 _ _ (hid_in _ _ fd))
      have st7 : Same (hid o H) H7 := (fw.trans hid_in).trans (s7.trans hid_in)
      have key : ∃ (sec : Str) (v : V) (ss : List Stm), x = .str sec ∧ valV [((.inr "start" : Key), v1), (.inr "turn", v2), (.inr "end", v3)] (.inr sec) = some v ∧ Dp K (hid o H) v (sqD true (encL b ss)) ∧ deps ss ≤ n ∧ max ss.length (mxs ss) ≤ 1000 ∧
          (∀ v' H9, Same H7 H9 → Same H4 (hid D H9) → Dp K (tups H9) v' (.tuple (encL false ss)) → ∃ kvs k, V.str sec = kV k ∧ H9 D = some (.dK kvs) ∧ kvs.length < sizeLine ∧ Same H4 (hid D (upd H9 D (.dK (putK kvs k v')))) ∧ ∃ y1 y2 y3 : V, upd H9 D (.dK (putK kvs k v')) D = some (.dK (List.take (i+1) [((.inr "start" : Key), y1), (.inr "turn", y2), (.inr "end", y3)])) ∧ (1 ≤ i+1 → Dp K (tups (upd H9 D (.dK (putK kvs k v')))) y1 (.tuple (encL false L.start))) ∧ (2 ≤ i+1 → Dp K (tups (upd H9 D (.dK (putK kvs k v')))) y2 (.tuple (encL false L.turn))) ∧ (3 ≤ i+1 → Dp K (tups (upd H9 D (.dK (putK kvs k v')))) y3 (.tuple (encL false L.fin)))) := by
        have tsm : ∀ H9 ob, Same H7 H9 → TSame H9 (upd H9 D ob) := fun H9 ob s9 => (TSame.refl _).mut fun xs z => by
          rw [s9 _ _ d7] at z
          cases z
        match i, hx with
        | 0, hx =>
          refine ⟨"start", v1, L.start, (Option.some.inj hx).symm, rfl, w1, hdep.1, hwid.1, fun v' H9 s9 e9 dv => ⟨[], .inr "start", rfl, s9 _ _ d7, (by show 0 < sizeLine; decide), ?_, v', .non, .non, upd_same, fun _ => dv.up (tsm _ _ s9).tups, fun h => by omega, fun h => by omega⟩⟩
          rw [hid_upd]; exact e9
        | 1, hx =>
          refine ⟨"turn", v2, L.turn, (Option.some.inj hx).symm, rfl, w2, hdep.2.1, hwid.2.1, fun v' H9 s9 e9 dv => ⟨[(.inr "start", y1)], .inr "turn", rfl, s9 _ _ d7, (by show 1 < sizeLine; decide), ?_, y1, v', .non, upd_same, fun _ => (u1 (by omega)).up (s9.t.trans (tsm _ _ s9)).tups, fun _ => dv.up (tsm _ _ s9).tups, fun h => by omega⟩⟩
          rw [hid_upd]; exact e9
        | 2, hx =>
          refine ⟨"end", v3, L.fin, (Option.some.inj hx).symm, rfl, w3, hdep.2.2, hwid.2.2, fun v' H9 s9 e9 dv => ⟨[(.inr "start", y1), (.inr "turn", y2)], .inr "end", rfl, s9 _ _ d7, (by show 2 < sizeLine; decide), ?_, y1, y2, v', upd_same, fun _ => (u1 (by omega)).up (s9.t.trans (tsm _ _ s9)).tups, fun _ => (u2 (by omega)).up (s9.t.trans (tsm _ _ s9)).tups, fun _ => dv.up (tsm _ _ s9).tups⟩⟩
          rw [hid_upd]; exact e9
        | i + 3, hx => cases hx
      obtain ⟨sec, v, ss, rfl, hv, hd, hdp, hw', hk⟩ := key
      refine ⟨rfl, _, rfl, _, rfl, _, rfl, d3, v, rfl, .inl ⟨_, .inr sec, .inl hd7, rfl, hv.symm⟩, v, _, rfl, hd.up st7, ?_, ?_, fun v' H9 s9 hv' => ?_⟩
      · exact Nat.le_trans (encL_dep b true ss) (by omega)
      · exact Nat.le_trans (sq_wid b true ss) hw'
      · rw [frz_sq, frz_encL] at hv'
        exact hk v' H9 s9 (s7.trans s9.hid) hv'
    · rintro H5 ⟨s5, y1, y2, y3, d5, u1, u2, u3⟩
      have t5 : Same H4 H5 := s5.trans hid_in
      have hDo : D ≠ o := nh o4 hD
      have o5 := t5 _ _ o4
      refine ⟨_, rfl, o, _, dx, _, rfl, o5, T.c_Loop, T.n_Loop_laid, (by show 1 < 1000; omega), ?_⟩
      generalize hH6 : upd H5 o (.ins (He.ga K "Loop") dx (putF "laid" (.ref D) [("names", .ref nm)])) = H6
      have e6 : hid o H6 = hid o H5 := by rw [← hH6]; exact hid_upd
      have o6 : H6 o = some (.ins (He.ga K "Loop") dx [("names", .ref nm), ("laid", .ref D)]) := by rw [← hH6]; exact upd_same
      have t6 : Same (hid o H4) (hid o H6) := by rw [e6]; exact t5.hid
      refine ⟨_, rfl, _, _, dr, _, _, rfl, hid_in _ _ (t6 _ _ fr), T.c_Reader, T.n_Reader_found, rfl, _, rfl, o, _, dx, _, rfl, o6, T.c_Loop, T.n_Loop_all_registers, (by show 2 < 1000; omega), ?_⟩
      generalize hH7 : upd H6 o (.ins (He.ga K "Loop") dx (putF "all_registers" (.ref l) [("names", .ref nm), ("laid", .ref D)])) = H7
      have e7 : hid o H7 = hid o H6 := by rw [← hH7]; exact hid_upd
      have o7 : H7 o = some (.ins (He.ga K "Loop") dx [("names", .ref nm), ("laid", .ref D), ("all_registers", .ref l)]) := by rw [← hH7]; exact upd_same
      have t7 : Same (hid o H4) (hid o H7) := by rw [e7]; exact t6
      have l7 := hid_in _ _ (t7 _ _ fl)
      have z7 := hid_in _ _ (t7 _ _ fz)
      refine ⟨_, rfl, _, _, dr, _, _, rfl, hid_in _ _ (t7 _ _ fr), T.c_Reader, T.n_Reader_found, rfl, l, rfl, ⟨_, SqL.of l7⟩, fun E1 hE1 => ?_⟩
      refine lc_it (walk_list (xs := (fAt L 3).map V.str)) (fun i H8 => Same H7 (hid E1 H8) ∧ H8 E1 = some (.lst ((((fAt L 3).take i).filter p0.contains).map V.str))) ⟨?_, ?_⟩ (fun i H8 _ z => (z.1.trans hid_in).seq (SqL.of l7)) ?_ ?_
      · rw [hid_upd]
        exact hid_of hE1 (Same.refl _)
      · exact upd_same
      · rintro i x7 H8 H9 hi ⟨a1', a2'⟩ ⟨rfl, hx⟩
        rw [List.length_map] at hi
        have hx' : x7 = .str (fAt L 3)[i] := by
          rw [List.getElem?_map, List.getElem?_eq_getElem hi] at hx
          exact (Option.some.inj hx).symm
        subst hx'
        refine ⟨rfl, _, rfl, _, rfl, z1, _, rfl, .inl (SqL.of ((a1'.trans hid_in) _ _ z7)), rfl, flat_strs p0, _, rfl, ?_⟩
        rw [if_neg Bool.false_ne_true, inV_strs]
        have et : (fAt L 3).take (i + 1) = (fAt L 3).take i ++ [(fAt L 3)[i]] := by rw [List.take_succ, List.getElem?_eq_getElem hi]; rfl
        refine ite2 (fun e => ?_) (fun e => ?_)
        · refine ⟨_, rfl, _, a2', ?_, ?_, ?_⟩
          · rw [List.length_map]
            refine Nat.lt_of_le_of_lt (Nat.le_trans (List.length_filter_le _ _) (Nat.le_trans (List.length_take_le _ _) (show i ≤ 8 by have := k3.len; omega))) (by decide)
          · rw [hid_upd]
            exact a1'
          · rw [upd_same, et, List.filter_append, List.map_append, List.filter_cons_of_pos e]
            rfl
        · refine ⟨a1', ?_⟩
          rw [a2', et, List.filter_append, List.map_append, List.filter_cons_of_neg e]
          simp
      · rintro H8 ⟨a1', a2'⟩
        have t8 : Same H7 H8 := a1'.trans hid_in
        have o8 := t8 _ _ o7
        refine ⟨_, rfl, o, _, dx, _, rfl, o8, T.c_Loop, T.n_Loop_kept, (by show 3 < 1000; omega), ?_⟩
        generalize hH9 : upd H8 o (.ins (He.ga K "Loop") dx (putF "kept" (.ref E1) [("names", .ref nm), ("laid", .ref D), ("all_registers", .ref l)])) = H9
        have e9 : hid o H9 = hid o H8 := by rw [← hH9]; exact hid_upd
        have o9 : H9 o = some (.ins (He.ga K "Loop") dx [("names", .ref nm), ("laid", .ref D), ("all_registers", .ref l), ("kept", .ref E1)]) := by rw [← hH9]; exact upd_same
        have t9 : Same (hid o H4) (hid o H9) := by rw [e9]; exact t7.trans t8.hid
        have t59 : Same (hid o H5) (hid o H9) := by rw [e9, ← e6, ← e7]; exact t8.hid
        have t5D : ∀ (y : V) (d : PyData), Dp K (tups H5) y d → Dp K H9 y d := fun y d h => by
          have q1 : TSame H5 H6 := by rw [← hH6]; exact (TSame.refl _).mut fun xs z => by rw [o5] at z; cases z
          have q2 : TSame H6 H7 := by rw [← hH7]; exact (TSame.refl _).mut fun xs z => by rw [o6] at z; cases z
          have q3 : TSame H8 H9 := by rw [← hH9]; exact (TSame.refl _).mut fun xs z => by rw [o8] at z; cases z
          exact (h.up (((q1.trans q2).trans t8.t).trans q3).tups).up tups_in
        refine k H9 (fw.trans t9) ⟨dx, D, l, E1, y1, y2, y3, o9, (hn.up (fw.trans t9)).up hid_in, ?_, t5D _ _ (u1 (Nat.succ_le_of_lt (by show 0 < 3; omega))), t5D _ _ (u2 (by show 2 ≤ 3; omega)), t5D _ _ (u3 (by show 3 ≤ 3; omega)), hid_in _ _ (t9 _ _ fl), k3⟩
        have q := t59 D _ (by rw [hid_ne hDo]; exact d5)
        exact hid_in _ _ q
end
end K21
set_option Elab.async false
set_option linter.all false
set_option maxRecDepth 100000
set_option maxHeartbeats 1000000
namespace K21
open PySem PySem.Spec PyProof.Rows L2
section
variable {X : Cx}
theorem pg_never {e : Expr} : PG X e (fun _ _ _ _ => False) := ⟨fun _ _ _ _ _ _ _ _ _ h => h.elim⟩
theorem pss_never {ss : List Stmt} : PSs X ss (fun _ _ _ => False) := ⟨fun _ _ _ _ _ _ h => h.elim⟩
theorem pts_never {ifs : List Expr} : PTs X ifs (fun _ _ _ => False) := ⟨fun _ _ _ _ _ _ h => h.elim⟩
end
theorem upd_back {H : Hp} {d : Addr} {u o : HO} (h : H d = some u) : upd (upd H d o) d u = H := by
  funext b
  by_cases e : b = d
  · rw [e, upd_same, h]
  · rw [upd_ne e, upd_ne e]
theorem for_none {σ : L2.St} {H : Hp} (stp : Nat → Hp → Prop) (Pn : L2.St → Hp → Prop) (R : (Nat → Nat → L2.St → Hp → Prop) → Nat → Nat → L2.St → Hp → Prop) (hs : stp 0 H) (h : Pn σ H) :
    ∃ W : Nat → Nat → L2.St → Hp → Prop, (∃ m, W 0 m σ H) ∧ ∀ i m σ H, W i m σ H → (stp i H ∧ Pn σ H) ∨ R W i m σ H := by
  refine ⟨fun i m σ' H' => i = 0 ∧ σ' = σ ∧ H' = H, ⟨0, rfl, rfl, rfl⟩, ?_⟩
  rintro i m _ _ ⟨rfl, rfl, rfl⟩
  exact .inl ⟨hs, h⟩
theorem lc_none {H : Hp} (stp : Nat → Hp → Prop) (Qd : Hp → Prop) (R : (Nat → Nat → Hp → Prop) → Nat → Nat → Hp → Prop) (hs : stp 0 H) (h : Qd H) :
    ∃ W : Nat → Nat → Hp → Prop, (∃ m, W 0 m H) ∧ ∀ i m H, W i m H → (stp i H ∧ Qd H) ∨ R W i m H := by
  refine ⟨fun i m H' => i = 0 ∧ H' = H, ⟨0, rfl, rfl⟩, ?_⟩
  rintro i m _ ⟨rfl, rfl⟩
  exact .inl ⟨hs, h⟩
/-! ### a scene -/
abbrev scF (n u m c sa d ro sh sq : Addr) : List (Str × V) := [("names", .ref n), ("up", .ref u), ("made", .ref m), ("calls", .ref c), ("said", .ref sa), ("unlike", .ref d), ("order", .ref ro), ("shares", .ref sh), ("squeezed", .ref sq)]
structure ScP (K : PySem.W.Frag) (G H : Hp) (S dx n u m c sa d ro sh sq : Addr) (us ms : List Int) (un : List (List Key × V)) : Prop where
  e : Same G H
  o : H S = some (.ins (He.ga K "Scene") dx (scF n u m c sa d ro sh sq))
  gS : G S = none
  hu : H u = some (.lst (us.map V.int))
  gu : G u = none
  hm : H m = some (.lst (ms.map V.int))
  gm : G m = none
  um : u ≠ m
  hc : H c = some (.dK [])
  hsa : H sa = some (.dK [])
  hd : H d = some (.dT un)
  gd : G d = none
  hro : H ro = some (.dK [])
  hsh : H sh = some (.dK [])
  hsq : H sq = some (.dK [])
  gc : G c = none
  gsa : G sa = none
  gro : G ro = none
  gsh : G sh = none
  gsq : G sq = none
def ScIn (K : PySem.W.Frag) (G H : Hp) (S n : Addr) (us ms : List Int) (un : List (List Key × V)) : Prop := ∃ dx u m c sa d ro sh sq, ScP K G H S dx n u m c sa d ro sh sq us ms un
section
variable {K : PySem.W.Frag} {G H H' : Hp} {S dx n u m c sa d ro sh sq c' sa' d' ro' sh' sq' p : Addr} {us ms : List Int} {un un' : List (List Key × V)}
theorem ne_val {H : Hp} {a b : Addr} {x y : HO} (h1 : H a = some x) (h2 : H b = some y) (h : x ≠ y) : a ≠ b := fun z => by
  rw [z, h2] at h1
  exact h (Option.some.inj h1).symm
theorem ScP.up (s : ScP K G H S dx n u m c sa d ro sh sq us ms un) (e : Same H H') : ScP K G H' S dx n u m c sa d ro sh sq us ms un :=
  ⟨s.e.trans e, e _ _ s.o, s.gS, e _ _ s.hu, s.gu, e _ _ s.hm, s.gm, s.um, e _ _ s.hc, e _ _ s.hsa, e _ _ s.hd, s.gd, e _ _ s.hro, e _ _ s.hsh, e _ _ s.hsq, s.gc, s.gsa, s.gro, s.gsh, s.gsq⟩
theorem ScIn.up (s : ScIn K G H S n us ms un) (e : Same H H') : ScIn K G H' S n us ms un := by
  obtain ⟨dx, u, m, c, sa, d, ro, sh, sq, s⟩ := s
  exact ⟨dx, u, m, c, sa, d, ro, sh, sq, s.up e⟩
theorem ScP.put (s : ScP K G H S dx n u m c sa d ro sh sq us ms un) (hc : H c' = some (.dK [])) (hsa : H sa' = some (.dK [])) (hd : H d' = some (.dT un')) (hro : H ro' = some (.dK [])) (hsh : H sh' = some (.dK [])) (hsq : H sq' = some (.dK []))
    (gc : G c' = none) (gsa : G sa' = none) (gd : G d' = none) (gro : G ro' = none) (gsh : G sh' = none) (gsq : G sq' = none) :
    ScP K G (upd H S (.ins (He.ga K "Scene") dx (scF n u m c' sa' d' ro' sh' sq'))) S dx n u m c' sa' d' ro' sh' sq' us ms un' :=
  have ne : ∀ {a : Addr} {x : HO}, H a = some x → x ≠ .ins (He.ga K "Scene") dx (scF n u m c sa d ro sh sq) → a ≠ S := fun h1 h2 => ne_val h1 s.o h2
  ⟨Same.mut s.e s.gS, upd_same, s.gS, (upd_ne (ne s.hu (by simp))).trans s.hu, s.gu, (upd_ne (ne s.hm (by simp))).trans s.hm, s.gm, s.um, (upd_ne (ne hc (by simp))).trans hc, (upd_ne (ne hsa (by simp))).trans hsa, (upd_ne (ne hd (by simp))).trans hd, gd,
    (upd_ne (ne hro (by simp))).trans hro, (upd_ne (ne hsh (by simp))).trans hsh, (upd_ne (ne hsq (by simp))).trans hsq, gc, gsa, gro, gsh, gsq⟩
theorem ScP.setU (s : ScP K G H S dx n u m c sa d ro sh sq us ms un) (us' : List Int) : ScP K G (upd H u (.lst (us'.map V.int))) S dx n u m c sa d ro sh sq us' ms un :=
  have ne : ∀ {a : Addr} {x : HO}, H a = some x → x ≠ .lst (us.map V.int) → a ≠ u := fun h1 h2 => ne_val h1 s.hu h2
  ⟨Same.mut s.e s.gu, (upd_ne (ne s.o (by simp))).trans s.o, s.gS, upd_same, s.gu, (upd_ne (Ne.symm s.um)).trans s.hm, s.gm, s.um, (upd_ne (ne s.hc (by simp))).trans s.hc, (upd_ne (ne s.hsa (by simp))).trans s.hsa, (upd_ne (ne s.hd (by simp))).trans s.hd, s.gd,
    (upd_ne (ne s.hro (by simp))).trans s.hro, (upd_ne (ne s.hsh (by simp))).trans s.hsh, (upd_ne (ne s.hsq (by simp))).trans s.hsq, s.gc, s.gsa, s.gro, s.gsh, s.gsq⟩
theorem ScP.oth (s : ScP K G H S dx n u m c sa d ro sh sq us ms un) {x o : HO} (hp : H p = some x) (h1 : x ≠ .dK []) (h2 : x ≠ .lst (us.map V.int)) (h3 : x ≠ .lst (ms.map V.int)) (h4 : p ≠ d) (h5 : x ≠ .ins (He.ga K "Scene") dx (scF n u m c sa d ro sh sq)) (gp : G p = none) : ScP K G (upd H p o) S dx n u m c sa d ro sh sq us ms un :=
  have ne : ∀ {a : Addr} {y : HO}, H a = some y → x ≠ y → a ≠ p := fun h1 h2 => ne_val h1 hp (Ne.symm h2)
  ⟨Same.mut s.e gp, (upd_ne (ne s.o h5)).trans s.o, s.gS, (upd_ne (ne s.hu h2)).trans s.hu, s.gu, (upd_ne (ne s.hm h3)).trans s.hm, s.gm, s.um, (upd_ne (ne s.hc h1)).trans s.hc, (upd_ne (ne s.hsa h1)).trans s.hsa, (upd_ne (Ne.symm h4)).trans s.hd, s.gd,
    (upd_ne (ne s.hro h1)).trans s.hro, (upd_ne (ne s.hsh h1)).trans s.hsh, (upd_ne (ne s.hsq h1)).trans s.hsq, s.gc, s.gsa, s.gro, s.gsh, s.gsq⟩
theorem ScP.setM (s : ScP K G H S dx n u m c sa d ro sh sq us ms un) (ms' : List Int) : ScP K G (upd H m (.lst (ms'.map V.int))) S dx n u m c sa d ro sh sq us ms' un :=
  have ne : ∀ {a : Addr} {x : HO}, H a = some x → x ≠ .lst (ms.map V.int) → a ≠ m := fun h1 h2 => ne_val h1 s.hm h2
  ⟨Same.mut s.e s.gm, (upd_ne (ne s.o (by simp))).trans s.o, s.gS, (upd_ne s.um).trans s.hu, s.gu, upd_same, s.gm, s.um, (upd_ne (ne s.hc (by simp))).trans s.hc, (upd_ne (ne s.hsa (by simp))).trans s.hsa, (upd_ne (ne s.hd (by simp))).trans s.hd, s.gd,
    (upd_ne (ne s.hro (by simp))).trans s.hro, (upd_ne (ne s.hsh (by simp))).trans s.hsh, (upd_ne (ne s.hsq (by simp))).trans s.hsq, s.gc, s.gsa, s.gro, s.gsh, s.gsq⟩
theorem ScP.setD (s : ScP K G H S dx n u m c sa d ro sh sq us ms un) (un' : List (List Key × V)) : ScP K G (upd H d (.dT un')) S dx n u m c sa d ro sh sq us ms un' :=
  have ne : ∀ {a : Addr} {x : HO}, H a = some x → x ≠ .dT un → a ≠ d := fun h1 h2 => ne_val h1 s.hd h2
  ⟨Same.mut s.e s.gd, (upd_ne (ne s.o (by simp))).trans s.o, s.gS, (upd_ne (ne s.hu (by simp))).trans s.hu, s.gu, (upd_ne (ne s.hm (by simp))).trans s.hm, s.gm, s.um, (upd_ne (ne s.hc (by simp))).trans s.hc, (upd_ne (ne s.hsa (by simp))).trans s.hsa, upd_same, s.gd,
    (upd_ne (ne s.hro (by simp))).trans s.hro, (upd_ne (ne s.hsh (by simp))).trans s.hsh, (upd_ne (ne s.hsq (by simp))).trans s.hsq, s.gc, s.gsa, s.gro, s.gsh, s.gsq⟩
/-- a part that also holds what stands at j, not of the scene -/
theorem ScP.wide (s : ScP K G H S dx n u m c sa d ro sh sq us ms un) {G' : Hp} (e : Same G' H) (h : ∀ a, G' a ≠ none → G a ≠ none ∨ (a ≠ S ∧ a ≠ u ∧ a ≠ m ∧ a ≠ d ∧ a ≠ c ∧ a ≠ sa ∧ a ≠ ro ∧ a ≠ sh ∧ a ≠ sq)) : ScP K G' H S dx n u m c sa d ro sh sq us ms un := by
  have no : ∀ a, G a = none → (a = S ∨ a = u ∨ a = m ∨ a = d ∨ a = c ∨ a = sa ∨ a = ro ∨ a = sh ∨ a = sq) → G' a = none := fun a ha hb => by
    cases z : G' a with
    | none => rfl
    | some x =>
      rcases h a (by rw [z]; simp) with q | q
      · exact absurd ha q
      · obtain ⟨q1, q2, q3, q4, q5, q6, q7, q8, q9⟩ := q
        rcases hb with y | y | y | y | y | y | y | y | y <;> exact absurd y (by assumption)
  exact ⟨e, s.o, no _ s.gS (by simp), s.hu, no _ s.gu (by simp), s.hm, no _ s.gm (by simp), s.um, s.hc, s.hsa, s.hd, no _ s.gd (by simp), s.hro, s.hsh, s.hsq, no _ s.gc (by simp), no _ s.gsa (by simp), no _ s.gro (by simp), no _ s.gsh (by simp), no _ s.gsq (by simp)⟩
/-- .. a new object -/
theorem ScP.more (s : ScP K G H S dx n u m c sa d ro sh sq us ms un) {j : Addr} {x : HO} (hj : H j = none) : ScP K (upd G j x) (upd H j x) S dx n u m c sa d ro sh sq us ms un := by
  have e1 : Same H (upd H j x) := Same.new hj
  refine (s.up e1).wide (fun b v q => ?_) (fun a ha => ?_)
  · by_cases z : b = j
    · subst z
      rw [upd_same] at q ⊢
      exact q
    · rw [upd_ne z] at q ⊢
      exact s.e b v q
  · by_cases z : a = j
    · refine .inr ?_
      subst z
      have ne : ∀ {b : Addr} {y : HO}, H b = some y → a ≠ b := fun h q => by
        rw [q, h] at hj
        cases hj
      exact ⟨ne s.o, ne s.hu, ne s.hm, ne s.hd, ne s.hc, ne s.hsa, ne s.hro, ne s.hsh, ne s.hsq⟩
    · rw [upd_ne z] at ha
      exact .inl ha
end
/-- settle_x: the scene as it was, the answer b -/
def spSet0 (K : PySem.W.Frag) (b : Bool) : Sp := fun vs H Q _ => ∃ G S n ms un, vs = [.ref S] ∧ ScIn K G H S n [0, 1] ms un ∧ ∀ H', ScIn K G H' S n [0, 1] ms un → Q (.bl b) H'
def spSet1 (K : PySem.W.Frag) (b : Bool) : Sp := fun vs H Q _ => ∃ G S n ms un j, vs = [.ref S, j] ∧ ScIn K G H S n [0, 1] ms un ∧ ∀ H', ScIn K G H' S n [0, 1] ms un → Q (.bl b) H'
def spFind (K : PySem.W.Frag) : Sp := fun vs H Q _ => ∃ (S dx n u m c sa d ro sh sq : Addr) (v : Int), vs = [.ref S, .int v] ∧ H S = some (.ins (He.ga K "Scene") dx (scF n u m c sa d ro sh sq)) ∧ H u = some (.lst [.int 0, .int 1]) ∧ (v = 0 ∨ v = 1) ∧ Q (.int v) H
section
variable {P : Program} {w : World} {K : PySem.W.Frag} {mg : Str → Option Value} {base : Heap}
theorem g_none {G H : Hp} {p : Addr} (e : Same G H) (h : H p = none) : G p = none := e.free h
theorem sc_Scene_find : FnScope ["self", "value"] ["self", "value"] (defScope s_Scene_find) := ⟨rfl, rfl, rfl, by decide +kernel, rfl, by decide +kernel, by decide +kernel⟩
theorem ok_Scene_find (T : Txt K mg) : Met P w K mg base (1) (He.ga K "Scene") "find" (spFind K) := by
  refine met_of T.d_Scene_find T.c_Scene T.m_Scene_find sc_Scene_find (fun _ _ _ _ _ _ us hl => match us, hl with | [_, _], _ => rfl) (fun vs H Q E h => ?_) (fun cdv A outer s H vs Q E hr h => ?_)
  · obtain ⟨S, dx, n, u, m, c, sa, d, ro, sh, sq, v, rfl, ho, hu0, hv, k⟩ := h
    rfl
  obtain ⟨S, dx, n, u, m, c, sa, d, ro, sh, sq, v, rfl, ho, hu0, hv, k⟩ := h
  have sc := sc_Scene_find
  have hu := hu_of hr
  refine ⟨_, (pss_cons (ps_while PassesOwn.never (pt_cmpR op_ne (pe_ix ix_list (pe_fld (pv 0) rfl) (pv 1) (fun _ _ => rfl)) (pv 1) (nomark _)) (pss_one (pset 1 sc.nd (pe_ix ix_list (pe_fld (pv 0) rfl) (pv 1) (fun _ _ => rfl)))))
      (pss_one (ps_ret (pv 1)))), ?_⟩
  have at1 : atI (([0, 1] : List Int).map V.int) v = some (.int v) := by rcases hv with rfl | rfl <;> rfl
  refine ⟨fun _ σ H1 => σ = _ ∧ H1 = H, ⟨0, rfl, rfl⟩, ?_⟩
  rintro _ _ _ ⟨rfl, rfl⟩
  refine ⟨_, rfl, _, _, dx, _, _, rfl, ho, T.c_Scene, T.n_Scene_up, rfl, _, rfl, u, _, v, _, rfl, rfl, SqL.of hu0, at1, _, rfl, rfl, _, rfl, ?_⟩
  rw [decide_eq_true rfl]
  refine iteF ?_
  exact ⟨_, rfl, k⟩
theorem sc_Scene_settle_said : FnScope ["self", "found", "asked", "answer", "key"] ["self"] (defScope s_Scene_settle_said) := ⟨rfl, rfl, rfl, by decide +kernel, rfl, by decide +kernel, by decide +kernel⟩
theorem ok_Scene_settle_said (T : Txt K mg) : Met P w K mg base (1) (He.ga K "Scene") "settle_said" (spSet0 K true) := by
  refine met_of T.d_Scene_settle_said T.c_Scene T.m_Scene_settle_said sc_Scene_settle_said (fun _ _ _ _ _ _ us hl => match us, hl with | [_], _ => rfl) (fun vs H Q E h => ?_) (fun cdv A outer s H vs Q E hr h => ?_)
  · obtain ⟨G, S, n, ms, un, rfl, ⟨dx, u, m, c, sa, d, ro, sh, sq, s0⟩, k⟩ := h
    rfl
  obtain ⟨G, S, n, ms, un, rfl, ⟨dx, u, m, c, sa, d, ro, sh, sq, s0⟩, k⟩ := h
  have sc := sc_Scene_settle_said
  have hu := hu_of hr
  refine ⟨_, (pss_cons (pset 1 sc.nd pe_dnewK)
      (pss_cons (ps_lock (ps_for PassesOwn.never rfl (pi_items (pe_fld (pv 0) rfl)) pg_never pss_never))
      (pss_cons (ps_fld (pv 0) (pv 1) rfl)
      (pss_one (ps_ret pe_bl))))), ?_⟩
  refine fun p e1 => ?_
  have s1 := s0.up (Same.new (o := .dK []) e1)
  refine ⟨sa, .dK [], s1.hsa, trivial, fun od => ?_⟩
  have nS : S ≠ sa := ne_val s1.o s1.hsa (by simp)
  refine ⟨_, rfl, _, _, dx, _, _, rfl, (upd_ne nS).trans s1.o, T.c_Scene, T.n_Scene_said, rfl, sa, od, [], rfl, upd_same, ?_⟩
  apply for_none
  · exact (walk_items (kvs := [])).stops _ upd_same
  refine ⟨upd_same, ?_⟩
  rw [upd_back s1.hsa]
  refine ⟨_, rfl, _, rfl, S, _, dx, _, rfl, s1.o, T.c_Scene, T.n_Scene_said, (by show 9 < 1000; omega), ?_⟩
  exact k _ ⟨dx, u, m, c, p, d, ro, sh, sq, s1.put s1.hc upd_same s1.hd s1.hro s1.hsh s1.hsq s1.gc (g_none s0.e e1) s1.gd s1.gro s1.gsh s1.gsq⟩
theorem sc_Scene_settle_shares : FnScope ["self", "joins", "found", "is_lost", "share", "rows", "value", "given", "root", "told", "old"] ["self", "joins"] (defScope s_Scene_settle_shares) := ⟨rfl, rfl, rfl, by decide +kernel, rfl, by decide +kernel, by decide +kernel⟩
theorem ok_Scene_settle_shares (T : Txt K mg) : Met P w K mg base (1) (He.ga K "Scene") "settle_shares" (spSet1 K false) := by
  refine met_of T.d_Scene_settle_shares T.c_Scene T.m_Scene_settle_shares sc_Scene_settle_shares (fun _ _ _ _ _ _ us hl => match us, hl with | [_, _], _ => rfl) (fun vs H Q E h => ?_) (fun cdv A outer s H vs Q E hr h => ?_)
  · obtain ⟨G, S, n, ms, un, j, rfl, ⟨dx, u, m, c, sa, d, ro, sh, sq, s0⟩, k⟩ := h
    rfl
  obtain ⟨G, S, n, ms, un, j, rfl, ⟨dx, u, m, c, sa, d, ro, sh, sq, s0⟩, k⟩ := h
  have sc := sc_Scene_settle_shares
  have hu := hu_of hr
  refine ⟨_, (pss_cons (ps_par (i := 2) (j := 3) rfl sc.nd rfl rfl (by decide) rfl rfl (pa_cons pe_dnewK (pa_cons pe_bl pa_nil)) rfl)
      (pss_cons (ps_lock (ps_for PassesOwn.never rfl (pi_keys (pe_fld (pv 0) rfl)) pg_never pss_never))
      (pss_cons (ps_fld (pv 0) (pv 2) rfl)
      (pss_one (ps_ret (pv 3)))))), ?_⟩
  refine fun p e1 => ?_
  have s1 := s0.up (Same.new (o := .dK []) e1)
  refine ⟨_, _, rfl, sh, .dK [], s1.hsh, trivial, fun od => ?_⟩
  have nS : S ≠ sh := ne_val s1.o s1.hsh (by simp)
  refine ⟨_, rfl, _, _, dx, _, _, rfl, (upd_ne nS).trans s1.o, T.c_Scene, T.n_Scene_shares, rfl, sh, od, rfl, .inl ⟨[], upd_same, ?_⟩⟩
  apply for_none
  · exact (walk_keys (kvs := [])).stops _ upd_same
  refine ⟨upd_same, ?_⟩
  rw [upd_back s1.hsh]
  refine ⟨_, rfl, _, rfl, S, _, dx, _, rfl, s1.o, T.c_Scene, T.n_Scene_shares, (by show 9 < 1000; omega), ?_⟩
  exact ⟨_, rfl, k _ ⟨dx, u, m, c, sa, d, ro, p, sq, s1.put s1.hc s1.hsa s1.hd s1.hro upd_same s1.hsq s1.gc s1.gsa s1.gd s1.gro (g_none s0.e e1) s1.gsq⟩⟩
theorem sc_Scene_settle_squeezed : FnScope ["self", "found", "is_lost", "one", "other", "pair"] ["self"] (defScope s_Scene_settle_squeezed) := ⟨rfl, rfl, rfl, by decide +kernel, rfl, by decide +kernel, by decide +kernel⟩
theorem ok_Scene_settle_squeezed (T : Txt K mg) : Met P w K mg base (1) (He.ga K "Scene") "settle_squeezed" (spSet0 K false) := by
  refine met_of T.d_Scene_settle_squeezed T.c_Scene T.m_Scene_settle_squeezed sc_Scene_settle_squeezed (fun _ _ _ _ _ _ us hl => match us, hl with | [_], _ => rfl) (fun vs H Q E h => ?_) (fun cdv A outer s H vs Q E hr h => ?_)
  · obtain ⟨G, S, n, ms, un, rfl, ⟨dx, u, m, c, sa, d, ro, sh, sq, s0⟩, k⟩ := h
    rfl
  obtain ⟨G, S, n, ms, un, rfl, ⟨dx, u, m, c, sa, d, ro, sh, sq, s0⟩, k⟩ := h
  have sc := sc_Scene_settle_squeezed
  have hu := hu_of hr
  refine ⟨_, (pss_cons (ps_par (i := 1) (j := 2) rfl sc.nd rfl rfl (by decide) rfl rfl (pa_cons pe_dnewK (pa_cons pe_bl pa_nil)) rfl)
      (pss_cons (ps_lock (ps_for PassesOwn.never rfl (pi_keys (pe_fld (pv 0) rfl)) pg_never pss_never))
      (pss_cons (ps_fld (pv 0) (pe_lock (pe_dc (own := [("pair", 5)]) (g := fun _ _ _ _ => False) (tt := fun _ _ _ => False) rfl sc.nd (pi_keys (pv 1)) (blkOk_by (N := ["self", "found", "is_lost", "one", "other", "pair"]) (sc := defScope s_Scene_settle_squeezed) (by decide +kernel)) (fun _ _ _ _ _ => pg_never) (fun _ _ _ _ _ => pts_never) (fun _ _ _ _ _ => pe_never) (fun _ _ _ _ _ => pe_never))) rfl)
      (pss_one (ps_ret (pv 2)))))), ?_⟩
  refine fun p e1 => ?_
  have s1 := s0.up (Same.new (o := .dK []) e1)
  refine ⟨_, _, rfl, sq, .dK [], s1.hsq, trivial, fun od => ?_⟩
  have nS : S ≠ sq := ne_val s1.o s1.hsq (by simp)
  refine ⟨_, rfl, _, _, dx, _, _, rfl, (upd_ne nS).trans s1.o, T.c_Scene, T.n_Scene_squeezed, rfl, sq, od, rfl, .inl ⟨[], upd_same, ?_⟩⟩
  apply for_none
  · exact (walk_keys (kvs := [])).stops _ upd_same
  refine ⟨upd_same, ?_⟩
  rw [upd_back s1.hsq]
  have hp1 : upd H p (.dK []) p = some (.dK []) := upd_same
  refine ⟨p, .dK [], hp1, trivial, fun od2 => ?_⟩
  refine ⟨_, rfl, p, od2, rfl, .inl ⟨[], upd_same, fun D hD => ?_⟩⟩
  have nDp : p ≠ D := ne_of_none upd_same hD
  apply lc_none
  · exact (walk_keys (kvs := [])).stops _ ((upd_ne nDp).trans upd_same)
  have e2 : upd (upd (upd (upd H p (.dK [])) p (.frz od2 (.dK []))) D (.dK [])) p (.dK []) = upd (upd H p (.dK [])) D (.dK []) := by
    funext b
    by_cases z : b = p
    · rw [z, upd_same, upd_ne nDp, upd_same]
    · rw [upd_ne z]
      by_cases y : b = D
      · rw [y, upd_same, upd_same]
      · rw [upd_ne y, upd_ne y, upd_ne z]
  refine ⟨(upd_ne nDp).trans upd_same, ?_⟩
  rw [e2]
  have hD' : upd H p (.dK []) D = none := by
    rw [upd_ne (Ne.symm nDp)] at hD
    exact hD
  have s2 := s1.up (Same.new (o := .dK []) hD')
  refine ⟨_, rfl, S, _, dx, _, rfl, s2.o, T.c_Scene, T.n_Scene_squeezed, (by show 9 < 1000; omega), ?_⟩
  exact ⟨_, rfl, k _ ⟨dx, u, m, c, sa, d, ro, sh, D, s2.put s2.hc s2.hsa s2.hd s2.hro s2.hsh upd_same s2.gc s2.gsa s2.gd s2.gro s2.gsh (g_none s1.e hD')⟩⟩
abbrev un01 : List (List Key × V) := [([.inl 0, .inl 1], .bl true)]
def spUnlike (K : PySem.W.Frag) (b : Bool) : Sp := fun vs H Q _ => ∃ G S n ms, vs = [.ref S] ∧ ScIn K G H S n [0, 1] ms un01 ∧ ∀ H', ScIn K G H' S n [0, 1] ms un01 → Q (.bl b) H'
theorem perm01 {ns : List Int} (h : ns.Perm [0, 1]) (s : ns.Pairwise (· ≤ ·)) : ns = [0, 1] := by
  have := h.eq_of_pairwise (le := (· ≤ ·)) (fun a b _ _ h1 h2 => Int.le_antisymm h1 h2) s (by decide)
  exact this
theorem sc_Scene_settle_unlike : FnScope ["self", "found", "one", "other", "first", "second"] ["self"] (defScope s_Scene_settle_unlike) := ⟨rfl, rfl, rfl, by decide +kernel, rfl, by decide +kernel, by decide +kernel⟩
theorem ok_Scene_settle_unlike (T : Txt K mg) : Met P w K mg base (2) (He.ga K "Scene") "settle_unlike" (spUnlike K true) := by
  refine met_of T.d_Scene_settle_unlike T.c_Scene T.m_Scene_settle_unlike sc_Scene_settle_unlike (fun _ _ _ _ _ _ us hl => match us, hl with | [_], _ => rfl) (fun vs H Q E h => ?_) (fun cdv A outer s H vs Q E hr h => ?_)
  · obtain ⟨G, S, n, ms, rfl, ⟨dx, u, m, c, sa, d, ro, sh, sq, s0⟩, k⟩ := h
    rfl
  obtain ⟨G, S, n, ms, rfl, ⟨dx, u, m, c, sa, d, ro, sh, sq, s0⟩, k⟩ := h
  have c_Scene_find := ok_Scene_find (P := P) (w := w) (base := base) T
  have sc := sc_Scene_settle_unlike
  have hu := hu_of hr
  refine ⟨_, (pss_cons (pset 1 sc.nd (pe_dnewT))
      (pss_cons (ps_lock (ps_for PassesOwn.never rfl (pi_keys (pe_fld (pv 0) rfl)) (pg_tup rfl (pgs_cons (pgn 2 sc.nd) (pgs_cons (pgn 3 sc.nd) pgs_nil)))
        (pss_cons (ps_asg (pb cr_sorted T.b_sorted v_sorted (pa_cons (pe_lst (pa_cons (pmt c_Scene_find hr (by decide) (pv 0) (pa_cons (pv 2) pa_nil)) (pa_cons (pmt c_Scene_find hr (by decide) (pv 0) (pa_cons (pv 3) pa_nil)) pa_nil))) pa_nil)) (pg_unl rfl (pgs_cons (pgn 4 sc.nd) (pgs_cons (pgn 5 sc.nd) pgs_nil))))
        (pss_cons (ps_if (pt_cmpR op_eq (pv 4) (pv 5) (nomark _)) (pss_one (ps_ret pe_bl)) pss_nil)
        (pss_one (ps_dput hu (pv 1) (pe_tup (pa_cons (pv 4) (pa_cons (pv 5) pa_nil))) pe_bl rfl))))))
      (pss_cons (ps_fld (pv 0) (pv 1) rfl)
      (pss_one (ps_ret pe_bl))))), ?_⟩
  refine fun p e1 => ?_
  have s1 := s0.up (Same.new (o := .dT []) e1)
  have hp1 : upd H p (.dT []) p = some (.dT []) := upd_same
  generalize hH1 : upd H p (.dT []) = H1 at *
  have npd : p ≠ d := ne_val hp1 s1.hd (by simp)
  have npS : p ≠ S := ne_val hp1 s1.o (by simp)
  have nSd : S ≠ d := ne_val s1.o s1.hd (by simp)
  refine ⟨d, .dT un01, s1.hd, trivial, fun od => ?_⟩
  refine ⟨_, rfl, _, _, dx, _, _, rfl, (upd_ne nSd).trans s1.o, T.c_Scene, T.n_Scene_unlike, rfl, d, od, rfl, .inr ⟨un01, upd_same, ?_⟩⟩
  have nul : ∀ {a : Addr} {x : HO}, H1 a = some x → x ≠ .dT un01 → upd H1 d (.frz od (.dT un01)) a = some x := fun h1 h2 => (upd_ne (ne_val h1 s1.hd h2)).trans h1
  refine for_it walk_keysT (fun i σ H7 => (i = 0 ∧ σ = [some (.ref S), some (.ref p), none, none, none, none] ∧ H7 = upd H1 d (.frz od (.dT un01))) ∨ (i = 1 ∧ (∃ x2 x3 x4 x5, σ = [some (.ref S), some (.ref p), x2, x3, x4, x5]) ∧ H7 d = some (.frz od (.dT un01)) ∧ ScP K G (upd H7 d (.dT un01)) S dx n u m c sa d ro sh sq [0, 1] ms un01 ∧ upd H7 d (.dT un01) p = some (.dT un01))) (.inl ⟨rfl, rfl, rfl⟩) ?_ ?_ ?_
  · rintro i σ H7 hi (⟨_, _, rfl⟩ | ⟨_, _, h, _⟩)
    · exact upd_same
    · exact h
  · rintro i x σ H7 H8 hi (⟨rfl, rfl, rfl⟩ | ⟨rfl, _⟩) ⟨rfl, kk, vv, q, hk, rfl, hq⟩
    · cases hk
      refine ⟨q, _, rfl, SqT.of hq, rfl, _, _, rfl, _, _, rfl, rfl, ?_⟩
      have oS := nul s1.o (by simp)
      have ou := nul s1.hu (by simp)
      refine ⟨_, rfl, _, dx, _, rfl, oS, rfl, _, rfl, S, dx, n, u, m, c, sa, d, ro, sh, sq, 0, rfl, oS, ou, .inl rfl, ?_⟩
      refine ⟨_, rfl, _, dx, _, rfl, oS, rfl, _, rfl, S, dx, n, u, m, c, sa, d, ro, sh, sq, 1, rfl, oS, ou, .inr rfl, ?_⟩
      refine ⟨(by show 2 ≤ sizeLine; decide), fun l1 el1 => ⟨l1, [0, 1], rfl, SqL.of upd_same, (by decide), fun ns' p2 hperm hsort hp2 => ?_⟩⟩
      cases perm01 hperm hsort
      refine ⟨p2, _, rfl, SqL.of upd_same, rfl, _, _, rfl, _, _, rfl, rfl, ?_⟩
      refine ⟨_, rfl, _, rfl, rfl, _, rfl, iteF ?_⟩
      refine ⟨_, rfl, _, rfl, _, rfl, (by show 2 ≤ sizeLine; decide), fun t ht => ?_⟩
      have l1d : l1 ≠ d := (ne_of_none upd_same el1).symm
      have p2d : p2 ≠ d := (ne_of_none ((upd_ne (Ne.symm l1d)).trans upd_same) hp2).symm
      have td : t ≠ d := (ne_of_none ((upd_ne (Ne.symm p2d)).trans ((upd_ne (Ne.symm l1d)).trans upd_same)) ht).symm
      have e1' : H1 l1 = none := by rwa [upd_ne l1d] at el1
      have e2' : upd H1 l1 (.lst (([0, 1] : List Int).map V.int)) p2 = none := by
        by_cases z : p2 = l1
        · rw [z, upd_same] at hp2
          cases hp2
        · rw [upd_ne z, upd_ne p2d] at hp2
          rw [upd_ne z]
          exact hp2
      have e3' : upd (upd H1 l1 (.lst (([0, 1] : List Int).map V.int))) p2 (.lst (([0, 1] : List Int).map V.int)) t = none := by
        by_cases z : t = p2
        · rw [z, upd_same] at ht
          cases ht
        · by_cases y : t = l1
          · rw [upd_ne z, y, upd_same] at ht
            cases ht
          · rw [upd_ne z, upd_ne y, upd_ne td] at ht
            rw [upd_ne z, upd_ne y]
            exact ht
      have s2 := s1.up ((Same.new (o := .lst (([0, 1] : List Int).map V.int)) e1').trans ((Same.new (o := .lst (([0, 1] : List Int).map V.int)) e2').trans (Same.new (o := .tup [.int 0, .int 1]) e3')))
      have hp3 := ((Same.new (o := .lst (([0, 1] : List Int).map V.int)) e1').trans ((Same.new (o := .lst (([0, 1] : List Int).map V.int)) e2').trans (Same.new (o := .tup [.int 0, .int 1]) e3'))) _ _ hp1
      have hpl : ∀ X : Hp, X d = some (.frz od (.dT un01)) → True := fun _ _ => trivial
      have hp4 : upd (upd (upd (upd H1 d (.frz od (.dT un01))) l1 (.lst (([0, 1] : List Int).map V.int))) p2 (.lst (([0, 1] : List Int).map V.int))) t (.tup [.int 0, .int 1]) p = some (.dT []) := by
        have z1 : p ≠ l1 := ne_of_none hp1 e1'
        have z2 : p ≠ p2 := ne_of_none ((Same.new e1') _ _ hp1) e2'
        have z3 : p ≠ t := ne_of_none ((Same.new e2') _ _ ((Same.new e1') _ _ hp1)) e3'
        rw [upd_ne z3, upd_ne z2, upd_ne z1, upd_ne npd]
        exact hp1
      refine ⟨p, _, rfl, .inr ⟨[], [.inl 0, .inl 1], t, hp4, rfl, upd_same, (by show 0 < sizeLine; decide), rfl⟩, .inr ⟨rfl, ⟨_, _, _, _, rfl⟩, ?_, ?_⟩⟩
      · rw [upd_ne (Ne.symm npd), upd_ne (Ne.symm td), upd_ne (Ne.symm p2d), upd_ne (Ne.symm l1d), upd_same]
      · have comm : upd (upd (upd (upd (upd (upd H1 d (.frz od (.dT un01))) l1 (.lst (([0, 1] : List Int).map V.int))) p2 (.lst (([0, 1] : List Int).map V.int))) t (.tup [.int 0, .int 1])) p (.dT un01)) d (.dT un01) =
            upd (upd (upd (upd H1 l1 (.lst (([0, 1] : List Int).map V.int))) p2 (.lst (([0, 1] : List Int).map V.int))) t (.tup [.int 0, .int 1])) p (.dT un01) := by
          funext b
          by_cases z : b = d
          · rw [z, upd_same, upd_ne (Ne.symm npd), upd_ne (Ne.symm td), upd_ne (Ne.symm p2d), upd_ne (Ne.symm l1d), s1.hd]
          · rw [upd_ne z]
            simp only [upd, z, if_false]
        refine Eq.mpr (congrArg (fun X => ScP K G X S dx n u m c sa d ro sh sq [0, 1] ms un01 ∧ X p = some (.dT un01)) comm) ?_
        exact ⟨s2.oth hp3 (by simp) (by simp) (by simp) npd (by simp) (g_none s0.e e1), upd_same⟩
    · exact absurd hi (by decide)
  · rintro σ H7 (⟨h, _⟩ | ⟨_, ⟨x2, x3, x4, x5, rfl⟩, h7, s7, p7⟩)
    · cases h
    refine ⟨h7, ?_⟩
    refine ⟨_, rfl, _, rfl, S, _, dx, _, rfl, s7.o, T.c_Scene, T.n_Scene_unlike, (by show 9 < 1000; omega), ?_⟩
    exact k _ ⟨dx, u, m, c, sa, p, ro, sh, sq, s7.put s7.hc s7.hsa p7 s7.hro s7.hsh s7.hsq s7.gc s7.gsa (g_none s0.e e1) s7.gro s7.gsh s7.gsq⟩
theorem unlock_new {H : Hp} {p D : Addr} {o x : HO} {u : HO} (h : H p = some u) (n : p ≠ D) : upd (upd (upd H p o) D x) p u = upd H D x := by
  funext b
  by_cases z : b = p
  · rw [z, upd_same, upd_ne n, h]
  · rw [upd_ne z]
    by_cases y : b = D
    · rw [y, upd_same, upd_same]
    · rw [upd_ne y, upd_ne y, upd_ne z]
theorem sc_Scene_settle_order : FnScope ["self", "joins", "found", "roots", "one", "other", "pair", "is_new"] ["self", "joins"] (defScope s_Scene_settle_order) := ⟨rfl, rfl, rfl, by decide +kernel, rfl, by decide +kernel, by decide +kernel⟩
theorem ok_Scene_settle_order (T : Txt K mg) : Met P w K mg base (1) (He.ga K "Scene") "settle_order" (spSet1 K true) := by
  refine met_of T.d_Scene_settle_order T.c_Scene T.m_Scene_settle_order sc_Scene_settle_order (fun _ _ _ _ _ _ us hl => match us, hl with | [_, _], _ => rfl) (fun vs H Q E h => ?_) (fun cdv A outer s H vs Q E hr h => ?_)
  · obtain ⟨G, S, n, ms, un, j, rfl, ⟨dx, u, m, c, sa, d, ro, sh, sq, s0⟩, k⟩ := h
    rfl
  obtain ⟨G, S, n, ms, un, j, rfl, ⟨dx, u, m, c, sa, d, ro, sh, sq, s0⟩, k⟩ := h
  have sc := sc_Scene_settle_order
  have hu := hu_of hr
  refine ⟨_, (pss_cons (ps_asg (pe_tup (pa_cons pe_dnewK (pa_cons pe_dnewK pa_nil))) (pg_tup rfl (pgs_cons (pgn 2 sc.nd) (pgs_cons (pgn 3 sc.nd) pgs_nil))))
      (pss_cons (ps_lock (ps_for PassesOwn.never rfl (pi_keys (pe_fld (pv 0) rfl)) pg_never pss_never))
      (pss_cons (pset 7 sc.nd (pe_cmpR op_gt (pb call_lenD T.b_len v_len (pa_cons (pv 2) pa_nil)) pe_int (nomark _)))
      (pss_cons (ps_while PassesOwn.never (pt_val (pv 7)) pss_never)
      (pss_cons (ps_lock (ps_for PassesOwn.never rfl (pi_keys (pv 2)) pg_never pss_never))
      (pss_cons (ps_fld (pv 0) (pe_lock (pe_dc (own := [("pair", 6)]) (g := fun _ _ _ _ => False) (tt := fun _ _ _ => False) rfl sc.nd (pi_keys (pv 2)) (blkOk_by (N := ["self", "joins", "found", "roots", "one", "other", "pair", "is_new"]) (sc := defScope s_Scene_settle_order) (by decide +kernel)) (fun _ _ _ _ _ => pg_never) (fun _ _ _ _ _ => pts_never) (fun _ _ _ _ _ => pe_never) (fun _ _ _ _ _ => pe_never))) rfl)
      (pss_one (ps_ret (pe_not (pb (cr_any rfl) T.b_any v_any (pa_cons (pe_lock (pe_lc (own := [("pair", 6)]) (g := fun _ _ _ _ => False) (tt := fun _ _ _ => False) rfl sc.nd (pi_keys (pv 2)) (blkOk_by (N := ["self", "joins", "found", "roots", "one", "other", "pair", "is_new"]) (sc := defScope s_Scene_settle_order) (by decide +kernel)) (fun _ _ _ _ _ => pg_never) (fun _ _ _ _ _ => pts_never) (fun _ _ _ _ _ => pe_never))) pa_nil))))))))))), ?_⟩
  refine fun p e1 => ?_
  have s1 := s0.up (Same.new (o := .dK []) e1)
  have hp1 : upd H p (.dK []) p = some (.dK []) := upd_same
  generalize hH1 : upd H p (.dK []) = H1 at *
  refine fun r e2 => ?_
  have s2 := s1.up (Same.new (o := .dK []) e2)
  have hp2 := (Same.new (o := .dK []) e2) _ _ hp1
  refine ⟨(by show 2 ≤ sizeLine; decide), fun tt ett => ⟨tt, _, rfl, SqT.of upd_same, rfl, _, _, rfl, _, _, rfl, rfl, ?_⟩⟩
  replace s2 := s2.up (Same.new (o := .tup [.ref p, .ref r]) ett)
  replace hp2 := (Same.new (o := .tup [.ref p, .ref r]) ett) _ _ hp2
  generalize hH2 : upd (upd H1 r (.dK [])) tt (.tup [.ref p, .ref r]) = H2 at *
  refine ⟨ro, .dK [], s2.hro, trivial, fun od => ?_⟩
  have nS : S ≠ ro := ne_val s2.o s2.hro (by simp)
  refine ⟨_, rfl, _, _, dx, _, _, rfl, (upd_ne nS).trans s2.o, T.c_Scene, T.n_Scene_order, rfl, ro, od, rfl, .inl ⟨[], upd_same, ?_⟩⟩
  apply for_none
  · exact (walk_keys (kvs := [])).stops _ upd_same
  refine ⟨upd_same, ?_⟩
  rw [upd_back s2.hro]
  refine ⟨_, rfl, p, [], rfl, hp2, _, _, rfl, rfl, ?_⟩
  refine ⟨fun _ σ H3 => σ = _ ∧ H3 = H2, ⟨0, rfl, rfl⟩, ?_⟩
  rintro _ _ _ ⟨rfl, rfl⟩
  refine ⟨_, rfl, _, rfl, iteF ?_⟩
  refine ⟨p, .dK [], hp2, trivial, fun od2 => ?_⟩
  refine ⟨_, rfl, p, od2, rfl, .inl ⟨[], upd_same, ?_⟩⟩
  apply for_none
  · exact (walk_keys (kvs := [])).stops _ upd_same
  refine ⟨upd_same, ?_⟩
  rw [upd_back hp2]
  refine ⟨p, .dK [], hp2, trivial, fun od3 => ?_⟩
  refine ⟨_, rfl, p, od3, rfl, .inl ⟨[], upd_same, fun D hD => ?_⟩⟩
  have nDp : p ≠ D := ne_of_none upd_same hD
  apply lc_none
  · exact (walk_keys (kvs := [])).stops _ ((upd_ne nDp).trans upd_same)
  refine ⟨(upd_ne nDp).trans upd_same, ?_⟩
  rw [unlock_new hp2 nDp]
  rw [upd_ne (Ne.symm nDp)] at hD
  have s3 := s2.up (Same.new (o := .dK []) hD)
  refine ⟨_, rfl, S, _, dx, _, rfl, s3.o, T.c_Scene, T.n_Scene_order, (by show 9 < 1000; omega), ?_⟩
  have s4 := s3.put s3.hc s3.hsa s3.hd (ro' := D) upd_same s3.hsh s3.hsq s3.gc s3.gsa s3.gd (g_none s2.e hD) s3.gsh s3.gsq
  have npS : p ≠ S := ne_val hp2 s2.o (by simp)
  have hp4 := fun (ob : HO) => (upd_ne (o := ob) npS).trans ((Same.new (o := .dK []) hD) _ _ hp2)
  refine ⟨p, .dK [], hp4 _, trivial, fun od4 => ?_⟩
  refine ⟨_, rfl, p, od4, rfl, .inl ⟨[], upd_same, fun E1 hE => ?_⟩⟩
  have nEp : p ≠ E1 := ne_of_none upd_same hE
  apply lc_none
  · exact (walk_keys (kvs := [])).stops _ ((upd_ne nEp).trans upd_same)
  refine ⟨(upd_ne nEp).trans upd_same, ?_⟩
  rw [unlock_new (hp4 _) nEp]
  rw [upd_ne (Ne.symm nEp)] at hE
  exact ⟨E1, [], rfl, SqL.of upd_same, _, rfl, k _ ⟨dx, u, m, c, sa, d, D, sh, sq, s4.up (Same.new hE)⟩⟩
theorem sc_Scene_settle_calls : FnScope ["self", "joins", "found", "is_lost", "call", "value", "key", "told", "old"] ["self", "joins"] (defScope s_Scene_settle_calls) := ⟨rfl, rfl, rfl, by decide +kernel, rfl, by decide +kernel, by decide +kernel⟩
theorem ok_Scene_settle_calls (T : Txt K mg) : Met P w K mg base (1) (He.ga K "Scene") "settle_calls" (spSet1 K false) := by
  refine met_of T.d_Scene_settle_calls T.c_Scene T.m_Scene_settle_calls sc_Scene_settle_calls (fun _ _ _ _ _ _ us hl => match us, hl with | [_, _], _ => rfl) (fun vs H Q E h => ?_) (fun cdv A outer s H vs Q E hr h => ?_)
  · obtain ⟨G, S, n, ms, un, j, rfl, ⟨dx, u, m, c, sa, d, ro, sh, sq, s0⟩, k⟩ := h
    rfl
  obtain ⟨G, S, n, ms, un, j, rfl, ⟨dx, u, m, c, sa, d, ro, sh, sq, s0⟩, k⟩ := h
  have sc := sc_Scene_settle_calls
  have hu := hu_of hr
  refine ⟨_, (pss_cons (ps_par (i := 2) (j := 3) rfl sc.nd rfl rfl (by decide) rfl rfl (pa_cons pe_dnewK (pa_cons pe_bl pa_nil)) rfl)
      (pss_cons (ps_lock (ps_for PassesOwn.never rfl (pi_items (pe_fld (pv 0) rfl)) pg_never pss_never))
      (pss_cons (ps_for PassesOwn.never rfl (pi_list (LiI.pe_listItems rfl (pv 2) rfl T.b_list v_list)) pg_never pss_never)
      (pss_cons (ps_fld (pv 0) (pv 2) rfl)
      (pss_one (ps_ret (pv 3))))))), ?_⟩
  refine fun p e1 => ?_
  have s1 := s0.up (Same.new (o := .dK []) e1)
  have hp1 : upd H p (.dK []) p = some (.dK []) := upd_same
  generalize hH1 : upd H p (.dK []) = H1 at *
  refine ⟨_, _, rfl, c, .dK [], s1.hc, trivial, fun od => ?_⟩
  have nS : S ≠ c := ne_val s1.o s1.hc (by simp)
  refine ⟨_, rfl, _, _, dx, _, _, rfl, (upd_ne nS).trans s1.o, T.c_Scene, T.n_Scene_calls, rfl, c, od, [], rfl, upd_same, ?_⟩
  apply for_none
  · exact (walk_items (kvs := [])).stops _ upd_same
  refine ⟨upd_same, ?_⟩
  rw [upd_back s1.hc]
  refine ⟨_, rfl, p, [], rfl, hp1, fun H2 l ts es el ets hlts hl2 hpr => ?_⟩
  cases ts with
  | cons t ts => cases hpr
  | nil =>
  have s2 := s1.up es
  refine ⟨l, rfl, ⟨_, SqL.of hl2⟩, ?_⟩
  apply for_none
  · exact (walk_list (xs := [])).stops _ (SqL.of hl2)
  refine ⟨_, rfl, _, rfl, S, _, dx, _, rfl, s2.o, T.c_Scene, T.n_Scene_calls, (by show 9 < 1000; omega), ?_⟩
  exact ⟨_, rfl, k _ ⟨dx, u, m, p, sa, d, ro, sh, sq, s2.put (es _ _ hp1) s2.hsa s2.hd s2.hro s2.hsh s2.hsq (g_none s0.e e1) s2.gsa s2.gd s2.gro s2.gsh s2.gsq⟩⟩
def spScInit (K : PySem.W.Frag) : Sp := fun vs H Q _ => ∃ (S n dx : Addr) (G : Hp), vs = [.ref S, .ref n] ∧ H S = some (.ins (He.ga K "Scene") dx []) ∧ Same G H ∧ G S = none ∧ ∀ H', ScIn K G H' S n [] [] [] → Q .non H'
theorem fld_step {H : Hp} {S p : Addr} {o x o' : HO} (h : H S = some o) (hp : H p = none) : Same (hid S H) (hid S (upd (upd H p x) S o')) ∧ hid S (upd (upd H p x) S o') p = some x := by
  have n : p ≠ S := nh h hp
  refine ⟨?_, ?_⟩
  · rw [hid_upd]
    exact (Same.new hp).hid
  · rw [hid_upd, hid_ne n, upd_same]
theorem sc_Scene_init : FnScope ["self", "names"] ["self", "names"] (defScope s_Scene_init) := ⟨rfl, rfl, rfl, by decide +kernel, rfl, by decide +kernel, by decide +kernel⟩
theorem ok_Scene_init (T : Txt K mg) : Mak P w K mg base (1) "Scene" (He.ga K "Scene") (spScInit K) := by
  refine mak_of T.d_Scene_init T.k_Scene T.g_Scene sc_Scene_init (fun _ _ _ _ _ _ us hl => match us, hl with | [_, _], _ => rfl) (fun vs H Q E h => ?_) (fun cdv A outer s H vs Q E hr h => ?_)
  · obtain ⟨S, n, dx, G, rfl, ho, g0, gS, k⟩ := h
    rfl
  obtain ⟨S, n, dx, G, rfl, ho, g0, gS, k⟩ := h
  have sc := sc_Scene_init
  have hu := hu_of hr
  refine ⟨_, (pss_cons (ps_fld (pv 0) (pv 1) rfl)
      (pss_cons (ps_fld (pv 0) (pe_lst pa_nil) rfl)
      (pss_cons (ps_fld (pv 0) (pe_lst pa_nil) rfl)
      (pss_cons (ps_fld (pv 0) pe_dnewK rfl)
      (pss_cons (ps_fld (pv 0) pe_dnewK rfl)
      (pss_cons (ps_fld (pv 0) pe_dnewT rfl)
      (pss_cons (ps_fld (pv 0) pe_dnewK rfl)
      (pss_cons (ps_fld (pv 0) pe_dnewK rfl)
      (pss_one (ps_fld (pv 0) pe_dnewK rfl)))))))))), ?_⟩
  refine ⟨_, rfl, _, rfl, S, _, dx, _, rfl, ho, T.c_Scene, T.n_Scene_names, (by show 0 < 1000; omega), ?_⟩
  generalize hH0 : upd H S (.ins (He.ga K "Scene") dx (putF "names" (.ref n) [])) = H0
  have o0 : H0 S = some (.ins (He.ga K "Scene") dx [("names", .ref n)]) := by rw [← hH0]; exact upd_same
  have q0 : Same G H0 := by rw [← hH0]; exact g0.mut gS
  refine ⟨(by show 0 ≤ sizeLine; decide), fun u e0 => ?_⟩
  refine ⟨_, rfl, S, _, dx, _, rfl, (upd_ne (Ne.symm (nh o0 e0))).trans o0, T.c_Scene, T.n_Scene_up, (by show 1 < 1000; omega), ?_⟩
  generalize hH1 : upd (upd H0 u (.lst [])) S _ = H1
  obtain ⟨t0, f0⟩ : Same (hid S H0) (hid S H1) ∧ hid S H1 u = some (.lst []) := by rw [← hH1]; exact fld_step o0 e0
  have r0 : G u = none := q0.free e0
  have o1 : H1 S = some (.ins (He.ga K "Scene") dx [("names", .ref n), ("up", .ref u)]) := by rw [← hH1]; exact upd_same
  have q1 : Same G H1 := by rw [← hH1]; exact ((q0.snew e0).mut gS)
  refine ⟨(by show 0 ≤ sizeLine; decide), fun m e1 => ?_⟩
  refine ⟨_, rfl, S, _, dx, _, rfl, (upd_ne (Ne.symm (nh o1 e1))).trans o1, T.c_Scene, T.n_Scene_made, (by show 2 < 1000; omega), ?_⟩
  generalize hH2 : upd (upd H1 m (.lst [])) S _ = H2
  obtain ⟨t1, f1⟩ : Same (hid S H1) (hid S H2) ∧ hid S H2 m = some (.lst []) := by rw [← hH2]; exact fld_step o1 e1
  have r1 : G m = none := q1.free e1
  have o2 : H2 S = some (.ins (He.ga K "Scene") dx [("names", .ref n), ("up", .ref u), ("made", .ref m)]) := by rw [← hH2]; exact upd_same
  have q2 : Same G H2 := by rw [← hH2]; exact ((q1.snew e1).mut gS)
  refine fun c e2 => ?_
  refine ⟨_, rfl, S, _, dx, _, rfl, (upd_ne (Ne.symm (nh o2 e2))).trans o2, T.c_Scene, T.n_Scene_calls, (by show 3 < 1000; omega), ?_⟩
  generalize hH3 : upd (upd H2 c (.dK [])) S _ = H3
  obtain ⟨t2, f2⟩ : Same (hid S H2) (hid S H3) ∧ hid S H3 c = some (.dK []) := by rw [← hH3]; exact fld_step o2 e2
  have r2 : G c = none := q2.free e2
  have o3 : H3 S = some (.ins (He.ga K "Scene") dx [("names", .ref n), ("up", .ref u), ("made", .ref m), ("calls", .ref c)]) := by rw [← hH3]; exact upd_same
  have q3 : Same G H3 := by rw [← hH3]; exact ((q2.snew e2).mut gS)
  refine fun sa e3 => ?_
  refine ⟨_, rfl, S, _, dx, _, rfl, (upd_ne (Ne.symm (nh o3 e3))).trans o3, T.c_Scene, T.n_Scene_said, (by show 4 < 1000; omega), ?_⟩
  generalize hH4 : upd (upd H3 sa (.dK [])) S _ = H4
  obtain ⟨t3, f3⟩ : Same (hid S H3) (hid S H4) ∧ hid S H4 sa = some (.dK []) := by rw [← hH4]; exact fld_step o3 e3
  have r3 : G sa = none := q3.free e3
  have o4 : H4 S = some (.ins (He.ga K "Scene") dx [("names", .ref n), ("up", .ref u), ("made", .ref m), ("calls", .ref c), ("said", .ref sa)]) := by rw [← hH4]; exact upd_same
  have q4 : Same G H4 := by rw [← hH4]; exact ((q3.snew e3).mut gS)
  refine fun d e4 => ?_
  refine ⟨_, rfl, S, _, dx, _, rfl, (upd_ne (Ne.symm (nh o4 e4))).trans o4, T.c_Scene, T.n_Scene_unlike, (by show 5 < 1000; omega), ?_⟩
  generalize hH5 : upd (upd H4 d (.dT [])) S _ = H5
  obtain ⟨t4, f4⟩ : Same (hid S H4) (hid S H5) ∧ hid S H5 d = some (.dT []) := by rw [← hH5]; exact fld_step o4 e4
  have r4 : G d = none := q4.free e4
  have o5 : H5 S = some (.ins (He.ga K "Scene") dx [("names", .ref n), ("up", .ref u), ("made", .ref m), ("calls", .ref c), ("said", .ref sa), ("unlike", .ref d)]) := by rw [← hH5]; exact upd_same
  have q5 : Same G H5 := by rw [← hH5]; exact ((q4.snew e4).mut gS)
  refine fun ro e5 => ?_
  refine ⟨_, rfl, S, _, dx, _, rfl, (upd_ne (Ne.symm (nh o5 e5))).trans o5, T.c_Scene, T.n_Scene_order, (by show 6 < 1000; omega), ?_⟩
  generalize hH6 : upd (upd H5 ro (.dK [])) S _ = H6
  obtain ⟨t5, f5⟩ : Same (hid S H5) (hid S H6) ∧ hid S H6 ro = some (.dK []) := by rw [← hH6]; exact fld_step o5 e5
  have r5 : G ro = none := q5.free e5
  have o6 : H6 S = some (.ins (He.ga K "Scene") dx [("names", .ref n), ("up", .ref u), ("made", .ref m), ("calls", .ref c), ("said", .ref sa), ("unlike", .ref d), ("order", .ref ro)]) := by rw [← hH6]; exact upd_same
  have q6 : Same G H6 := by rw [← hH6]; exact ((q5.snew e5).mut gS)
  refine fun sh e6 => ?_
  refine ⟨_, rfl, S, _, dx, _, rfl, (upd_ne (Ne.symm (nh o6 e6))).trans o6, T.c_Scene, T.n_Scene_shares, (by show 7 < 1000; omega), ?_⟩
  generalize hH7 : upd (upd H6 sh (.dK [])) S _ = H7
  obtain ⟨t6, f6⟩ : Same (hid S H6) (hid S H7) ∧ hid S H7 sh = some (.dK []) := by rw [← hH7]; exact fld_step o6 e6
  have r6 : G sh = none := q6.free e6
  have o7 : H7 S = some (.ins (He.ga K "Scene") dx [("names", .ref n), ("up", .ref u), ("made", .ref m), ("calls", .ref c), ("said", .ref sa), ("unlike", .ref d), ("order", .ref ro), ("shares", .ref sh)]) := by rw [← hH7]; exact upd_same
  have q7 : Same G H7 := by rw [← hH7]; exact ((q6.snew e6).mut gS)
  refine fun sq e7 => ?_
  refine ⟨_, rfl, S, _, dx, _, rfl, (upd_ne (Ne.symm (nh o7 e7))).trans o7, T.c_Scene, T.n_Scene_squeezed, (by show 8 < 1000; omega), ?_⟩
  generalize hH8 : upd (upd H7 sq (.dK [])) S _ = H8
  obtain ⟨t7, f7⟩ : Same (hid S H7) (hid S H8) ∧ hid S H8 sq = some (.dK []) := by rw [← hH8]; exact fld_step o7 e7
  have r7 : G sq = none := q7.free e7
  have o8 : H8 S = some (.ins (He.ga K "Scene") dx [("names", .ref n), ("up", .ref u), ("made", .ref m), ("calls", .ref c), ("said", .ref sa), ("unlike", .ref d), ("order", .ref ro), ("shares", .ref sh), ("squeezed", .ref sq)]) := by rw [← hH8]; exact upd_same
  have q8 : Same G H8 := by rw [← hH8]; exact ((q7.snew e7).mut gS)
  have um : u ≠ m := fun z => by
    have z2 := hid_in _ _ f0
    rw [z, e1] at z2
    cases z2
  exact k _ ⟨dx, u, m, c, sa, d, ro, sh, sq, q8, o8, gS, (hid_in _ _ (t7 _ _ (t6 _ _ (t5 _ _ (t4 _ _ (t3 _ _ (t2 _ _ (t1 _ _ f0)))))))), r0, (hid_in _ _ (t7 _ _ (t6 _ _ (t5 _ _ (t4 _ _ (t3 _ _ (t2 _ _ f1))))))), r1, um, (hid_in _ _ (t7 _ _ (t6 _ _ (t5 _ _ (t4 _ _ (t3 _ _ f2)))))), (hid_in _ _ (t7 _ _ (t6 _ _ (t5 _ _ (t4 _ _ f3))))), (hid_in _ _ (t7 _ _ (t6 _ _ (t5 _ _ f4)))), r4, (hid_in _ _ (t7 _ _ (t6 _ _ f5))), (hid_in _ _ (t7 _ _ f6)), (hid_in _ _ f7), r2, r3, r5, r6, r7⟩
theorem _root_.K21.ScP.sub {G G' H : Hp} {S dx n u m c sa d ro sh sq : Addr} {us ms : List Int} {un : List (List Key × V)} (s : ScP K G' H S dx n u m c sa d ro sh sq us ms un) (e : Same G G') : ScP K G H S dx n u m c sa d ro sh sq us ms un :=
  ⟨e.trans s.e, s.o, e.free s.gS, s.hu, e.free s.gu, s.hm, e.free s.gm, s.um, s.hc, s.hsa, s.hd, e.free s.gd, s.hro, s.hsh, s.hsq, e.free s.gc, e.free s.gsa, e.free s.gro, e.free s.gsh, e.free s.gsq⟩
def spNew (K : PySem.W.Frag) : Sp := fun vs H Q _ => ∃ G S n us ms un, vs = [.ref S] ∧ ScIn K G H S n us ms un ∧ us.length ≤ 10 ∧ ms.length ≤ 10 ∧ ∀ H', ScIn K G H' S n (us ++ [((us.length : Nat) : Int)]) (ms ++ [0]) un → Q (.int (us.length : Nat)) H'
def spMakeOf (K : PySem.W.Frag) : Sp := fun vs H Q _ => ∃ G S n vl a b un, vs = [.ref S, .ref vl, .int 2] ∧ ScIn K G H S n [0, 1] [a, b] un ∧ G vl = some (.lst [.int 1, .int 0]) ∧ ∀ H' a' b', ScIn K G H' S n [0, 1] [a', b'] un → Q .non H'
def spClose (K : PySem.W.Frag) : Sp := fun vs H Q _ => ∃ G S n ms, vs = [.ref S] ∧ ScIn K G H S n [0, 1] ms un01 ∧ ∀ H', ScIn K G H' S n [0, 1] ms un01 → Q (.str "fine") H'
def spPart (K : PySem.W.Frag) : Sp := fun vs H Q _ => ∃ G S n a b, vs = [.ref S, .int 1, .int 0] ∧ ScIn K G H S n [0, 1] [a, b] [] ∧ ∀ H' a' b', ScIn K G H' S n [0, 1] [a', b'] un01 → Q (.str "fine") H'
theorem sc_Scene_new : FnScope ["self"] ["self"] (defScope s_Scene_new) := ⟨rfl, rfl, rfl, by decide +kernel, rfl, by decide +kernel, by decide +kernel⟩
theorem ok_Scene_new (T : Txt K mg) : Met P w K mg base (1) (He.ga K "Scene") "new" (spNew K) := by
  refine met_of T.d_Scene_new T.c_Scene T.m_Scene_new sc_Scene_new (fun _ _ _ _ _ _ us hl => match us, hl with | [_], _ => rfl) (fun vs H Q E h => ?_) (fun cdv A outer s H vs Q E hr h => ?_)
  · obtain ⟨G, S, n, us, ms, un, rfl, ⟨dx, u, m, c, sa, d, ro, sh, sq, s0⟩, hl1, hl2, k⟩ := h
    rfl
  obtain ⟨G, S, n, us, ms, un, rfl, ⟨dx, u, m, c, sa, d, ro, sh, sq, s0⟩, hl1, hl2, k⟩ := h
  have sc := sc_Scene_new
  have hu := hu_of hr
  refine ⟨_, (pss_cons (ps_expr (pe_bm PySem.F.plainAttrs_list PySem.F.slot_list_append PySem.F.type_list_append mt_append (pe_fld (pv 0) rfl) (pa_cons (pb call_len T.b_len v_len (pa_cons (pe_fld (pv 0) rfl) pa_nil)) pa_nil)))
      (pss_cons (ps_expr (pe_bm PySem.F.plainAttrs_list PySem.F.slot_list_append PySem.F.type_list_append mt_append (pe_fld (pv 0) rfl) (pa_cons (p_int T.i_BARE) pa_nil)))
      (pss_one (ps_ret (pe_op op_sub (pb call_len T.b_len v_len (pa_cons (pe_fld (pv 0) rfl) pa_nil)) pe_int))))), ?_⟩
  refine ⟨_, rfl, _, _, dx, _, _, rfl, s0.o, T.c_Scene, T.n_Scene_up, rfl, .inl ⟨rfl, _, SqL.of s0.hu⟩, _, rfl, _, _, dx, _, _, rfl, s0.o, T.c_Scene, T.n_Scene_up, rfl, _, _, rfl, .inl ⟨_, SqL.of s0.hu, rfl⟩, u, _, _, rfl, rfl, s0.hu, ?_, ?_⟩
  · rw [List.length_map]
    exact Nat.lt_of_le_of_lt hl1 (by decide)
  have s1 := s0.setU (us ++ [((us.length : Nat) : Int)])
  have e1 : us.map V.int ++ [.int ((us.map V.int).length : Nat)] = (us ++ [((us.length : Nat) : Int)]).map V.int := by rw [List.map_append, List.length_map]; rfl
  rw [e1]
  refine ⟨_, rfl, _, _, dx, _, _, rfl, s1.o, T.c_Scene, T.n_Scene_made, rfl, .inl ⟨rfl, _, SqL.of s1.hm⟩, m, _, _, rfl, rfl, s1.hm, ?_, ?_⟩
  · rw [List.length_map]
    exact Nat.lt_of_le_of_lt hl2 (by decide)
  have s2 := s1.setM (ms ++ [0])
  have e2 : ms.map V.int ++ [.int 0] = (ms ++ [0]).map V.int := by rw [List.map_append]; rfl
  rw [e2]
  refine ⟨_, rfl, _, _, dx, _, _, rfl, s2.o, T.c_Scene, T.n_Scene_up, rfl, _, _, rfl, .inl ⟨_, SqL.of s2.hu, rfl⟩, _, _, rfl, rfl, ?_⟩
  have e3 : ((((us ++ [((us.length : Nat) : Int)]).map V.int).length : Nat) : Int) - 1 = (us.length : Nat) := by
    rw [List.length_map, List.length_append]
    simp
  show Q (.int (((((us ++ [((us.length : Nat) : Int)]).map V.int).length : Nat) : Int) - 1)) _
  rw [e3]
  exact k _ ⟨dx, u, m, c, sa, d, ro, sh, sq, s2⟩
theorem sc_Scene_make_of : FnScope ["self", "values", "level", "value", "root"] ["self", "values", "level"] (defScope s_Scene_make_of) := ⟨rfl, rfl, rfl, by decide +kernel, rfl, by decide +kernel, by decide +kernel⟩
theorem ok_Scene_make_of (T : Txt K mg) : Met P w K mg base (2) (He.ga K "Scene") "make_of" (spMakeOf K) := by
  refine met_of T.d_Scene_make_of T.c_Scene T.m_Scene_make_of sc_Scene_make_of (fun _ _ _ _ _ _ us hl => match us, hl with | [_, _, _], _ => rfl) (fun vs H Q E h => ?_) (fun cdv A outer s H vs Q E hr h => ?_)
  · obtain ⟨G, S, n, vl, a, b, un, rfl, ⟨dx, u, m, c, sa, d, ro, sh, sq, s0⟩, hvl, k⟩ := h
    rfl
  obtain ⟨G, S, n, vl, a, b, un, rfl, ⟨dx, u, m, c, sa, d, ro, sh, sq, s0⟩, hvl, k⟩ := h
  have c_Scene_find := ok_Scene_find (P := P) (w := w) (base := base) T
  have sc := sc_Scene_make_of
  have hu := hu_of hr
  refine ⟨_, (pss_one (ps_for PassesOwn.never rfl (pi_list (pv 1)) (pgn 3 sc.nd)
        (pss_cons (pset 4 sc.nd (pmt c_Scene_find hr (by decide) (pv 0) (pa_cons (pv 3) pa_nil)))
        (pss_one (ps_asg (pb (call_max2 rfl) T.b_max v_max (pa_cons (pe_ix ix_list (pe_fld (pv 0) rfl) (pv 4) (fun _ _ => rfl)) (pa_cons (pv 2) pa_nil))) (pg_sub (pe_fld (pv 0) rfl) (pv 4) set_list)))))), ?_⟩
  refine ⟨_, rfl, vl, rfl, ⟨_, SqL.of (s0.e _ _ hvl)⟩, ?_⟩
  refine for_it (walk_list (xs := [.int 1, .int 0])) (fun i σ H7 => ∃ a b x3 x4, σ = [some (.ref S), some (.ref vl), some (.int 2), x3, x4] ∧ ScP K G H7 S dx n u m c sa d ro sh sq [0, 1] [a, b] un) ⟨a, b, _, _, rfl, s0⟩ (fun i σ H7 _ ⟨_, _, _, _, _, s7⟩ => SqL.of (s7.e _ _ hvl)) ?_ ?_
  · rintro i x σ H7 H8 hi ⟨a1, b1, x3, x4, rfl, s7⟩ ⟨rfl, hx⟩
    match i, hx with
    | 0, hx =>
      cases hx
      refine ⟨_, rfl, _, dx, _, rfl, s7.o, rfl, _, rfl, S, dx, n, u, m, c, sa, d, ro, sh, sq, 1, rfl, s7.o, s7.hu, .inr rfl, ?_⟩
      refine ⟨_, rfl, _, _, dx, _, _, rfl, s7.o, T.c_Scene, T.n_Scene_made, rfl, _, rfl, m, _, _, _, rfl, rfl, SqL.of s7.hm, rfl, _, rfl, _, _, rfl, ?_⟩
      refine ⟨_, rfl, _, _, dx, _, _, rfl, s7.o, T.c_Scene, T.n_Scene_made, rfl, _, rfl, m, _, _, 1, rfl, rfl, s7.hm, rfl, ?_⟩
      exact ⟨_, _, _, _, rfl, s7.setM [a1, _]⟩
    | 1, hx =>
      cases hx
      refine ⟨_, rfl, _, dx, _, rfl, s7.o, rfl, _, rfl, S, dx, n, u, m, c, sa, d, ro, sh, sq, 0, rfl, s7.o, s7.hu, .inl rfl, ?_⟩
      refine ⟨_, rfl, _, _, dx, _, _, rfl, s7.o, T.c_Scene, T.n_Scene_made, rfl, _, rfl, m, _, _, _, rfl, rfl, SqL.of s7.hm, rfl, _, rfl, _, _, rfl, ?_⟩
      refine ⟨_, rfl, _, _, dx, _, _, rfl, s7.o, T.c_Scene, T.n_Scene_made, rfl, _, rfl, m, _, _, 0, rfl, rfl, s7.hm, rfl, ?_⟩
      exact ⟨_, _, _, _, rfl, s7.setM [_, b1]⟩
    | i + 2, hx => cases hx
  · rintro σ H7 ⟨a1, b1, x3, x4, rfl, s7⟩
    exact k _ _ _ ⟨dx, u, m, c, sa, d, ro, sh, sq, s7⟩
theorem sc_Scene_close : FnScope ["self", "is_lost", "joins", "is_barred", "one", "other", "pair"] ["self"] (defScope s_Scene_close) := ⟨rfl, rfl, rfl, by decide +kernel, rfl, by decide +kernel, by decide +kernel⟩
theorem ok_Scene_close (T : Txt K mg) : Met P w K mg base (3) (He.ga K "Scene") "close" (spClose K) := by
  refine met_of T.d_Scene_close T.c_Scene T.m_Scene_close sc_Scene_close (fun _ _ _ _ _ _ us hl => match us, hl with | [_], _ => rfl) (fun vs H Q E h => ?_) (fun cdv A outer s H vs Q E hr h => ?_)
  · obtain ⟨G, S, n, ms, rfl, s0, k⟩ := h
    rfl
  obtain ⟨G, S, n, ms, rfl, s0, k⟩ := h
  have c_Scene_find := ok_Scene_find (P := P) (w := w) (base := base) T
  have c_Scene_settle_said := ok_Scene_settle_said (P := P) (w := w) (base := base) T
  have c_Scene_settle_unlike := ok_Scene_settle_unlike (P := P) (w := w) (base := base) T
  have c_Scene_settle_order := ok_Scene_settle_order (P := P) (w := w) (base := base) T
  have c_Scene_settle_calls := ok_Scene_settle_calls (P := P) (w := w) (base := base) T
  have c_Scene_settle_shares := ok_Scene_settle_shares (P := P) (w := w) (base := base) T
  have c_Scene_settle_squeezed := ok_Scene_settle_squeezed (P := P) (w := w) (base := base) T
  have sc := sc_Scene_close
  have hu := hu_of hr
  refine ⟨_, (pss_cons (pset 1 sc.nd pe_bl)
      (pss_one (ps_while PassesOwn.never (pt_val pe_bl) (pss_cons (pset 2 sc.nd (pe_lst pa_nil))
        (pss_cons (pset 3 sc.nd (pe_or (pe_not (pmt0 c_Scene_settle_said hr (by decide) (pv 0))) (pe_or (pe_not (pmt0 c_Scene_settle_unlike hr (by decide) (pv 0))) (pe_one (pe_not (pmt c_Scene_settle_order hr (by decide) (pv 0) (pa_cons (pv 2) pa_nil)))))))
        (pss_cons (pset 1 sc.nd (pe_or (pmt c_Scene_settle_calls hr (by decide) (pv 0) (pa_cons (pv 2) pa_nil)) (pe_one (pv 1))))
        (pss_cons (pset 1 sc.nd (pe_or (pmt c_Scene_settle_shares hr (by decide) (pv 0) (pa_cons (pv 2) pa_nil)) (pe_one (pv 1))))
        (pss_cons (pset 1 sc.nd (pe_or (pmt0 c_Scene_settle_squeezed hr (by decide) (pv 0)) (pe_one (pv 1))))
        (pss_cons (ps_if (pt_val (pv 3)) (pss_one (ps_ret pe_str)) pss_nil)
        (pss_cons (ps_setLc (i := 2) (own := [("pair", 6)]) (g := fun _ _ _ _ => False) (tt := fun _ _ _ => False) rfl sc.nd rfl rfl (sw_true rfl rfl rfl (by decide +kernel)) (pi_list (pv 2)) (blkOk_by (N := ["self", "is_lost", "joins", "is_barred", "one", "other", "pair"]) (sc := defScope s_Scene_close) (by decide +kernel)) (fun _ _ _ _ _ => pg_never) (fun _ _ _ _ _ => pts_never) (fun _ _ _ _ _ => pe_never))
        (pss_cons (ps_if (pt_cmpR op_eq (pb call_len T.b_len v_len (pa_cons (pv 2) pa_nil)) pe_int (nomark _)) (pss_one (ps_ret (pe_ifExp (pt_val (pv 1)) pe_str pe_str))) pss_nil)
        (pss_one (ps_for PassesOwn.never rfl (pi_list (pv 2)) pg_never pss_never))))))))))))), ?_⟩
  refine ⟨fun _ σ H1 => σ = _ ∧ H1 = H, ⟨0, rfl, rfl⟩, ?_⟩
  rintro _ _ _ ⟨rfl, rfl⟩
  refine ⟨_, rfl, iteT ⟨fun _ _ => False, fun _ _ h => h.elim, ?_⟩⟩
  refine ⟨(by show 0 ≤ sizeLine; decide), fun j ej => ?_⟩
  obtain ⟨dx, u, m, c, sa, d, ro, sh, sq, s0⟩ := s0
  have hG : Same G (upd G j (.lst [])) := Same.new (s0.e.free ej)
  have sub : ∀ {X : Hp}, ScIn K (upd G j (.lst [])) X S n [0, 1] ms un01 → ScIn K G X S n [0, 1] ms un01 := fun ⟨dx, u, m, c, sa, d, ro, sh, sq, q⟩ => ⟨dx, u, m, c, sa, d, ro, sh, sq, q.sub hG⟩
  have s1 := s0.more (x := .lst []) ej
  refine ⟨_, rfl, _, dx, _, rfl, s1.o, rfl, upd G j (.lst []), S, n, ms, un01, rfl, ⟨dx, u, m, c, sa, d, ro, sh, sq, s1⟩, fun H2 ⟨dx, u, m, c, sa, d, ro, sh, sq, s2⟩ => ⟨_, rfl, _, rfl, iteF ?_⟩⟩
  refine ⟨_, rfl, _, dx, _, rfl, s2.o, rfl, upd G j (.lst []), S, n, ms, rfl, ⟨dx, u, m, c, sa, d, ro, sh, sq, s2⟩, fun H3 ⟨dx, u, m, c, sa, d, ro, sh, sq, s3⟩ => ⟨_, rfl, _, rfl, iteF ?_⟩⟩
  refine ⟨_, rfl, _, dx, _, rfl, s3.o, rfl, _, rfl, upd G j (.lst []), S, n, ms, un01, _, rfl, ⟨dx, u, m, c, sa, d, ro, sh, sq, s3⟩, fun H4 ⟨dx, u, m, c, sa, d, ro, sh, sq, s4⟩ => ⟨_, rfl, ?_⟩⟩
  refine ⟨_, rfl, _, dx, _, rfl, s4.o, rfl, _, rfl, upd G j (.lst []), S, n, ms, un01, _, rfl, ⟨dx, u, m, c, sa, d, ro, sh, sq, s4⟩, fun H5 ⟨dx, u, m, c, sa, d, ro, sh, sq, s5⟩ => ⟨_, rfl, iteF ⟨_, rfl, ?_⟩⟩⟩
  refine ⟨_, rfl, _, dx, _, rfl, s5.o, rfl, _, rfl, upd G j (.lst []), S, n, ms, un01, _, rfl, ⟨dx, u, m, c, sa, d, ro, sh, sq, s5⟩, fun H6 ⟨dx, u, m, c, sa, d, ro, sh, sq, s6⟩ => ⟨_, rfl, iteF ⟨_, rfl, ?_⟩⟩⟩
  refine ⟨_, rfl, _, dx, _, rfl, s6.o, rfl, upd G j (.lst []), S, n, ms, un01, rfl, ⟨dx, u, m, c, sa, d, ro, sh, sq, s6⟩, fun H7 ⟨dx, u, m, c, sa, d, ro, sh, sq, s7⟩ => ⟨_, rfl, iteF ⟨_, rfl, ?_⟩⟩⟩
  refine ⟨_, rfl, _, rfl, iteF ?_⟩
  have hj : H7 j = some (.lst []) := s7.e _ _ upd_same
  refine ⟨_, rfl, j, rfl, ⟨_, SqL.of hj⟩, fun D hD => ?_⟩
  have nDj : j ≠ D := ne_of_none hj hD
  apply lc_none
  · exact (walk_list (xs := [])).stops _ (SqL.of ((upd_ne nDj).trans hj))
  refine ⟨_, rfl, _, _, rfl, .inl ⟨_, SqL.of upd_same, rfl⟩, rfl, _, rfl, iteT ⟨_, rfl, _, rfl, iteF ?_⟩⟩
  exact k _ (sub ⟨dx, u, m, c, sa, d, ro, sh, sq, s7.up (Same.new hD)⟩)
theorem sc_Scene_part : FnScope ["self", "one", "other", "first", "second"] ["self", "one", "other"] (defScope s_Scene_part) := ⟨rfl, rfl, rfl, by decide +kernel, rfl, by decide +kernel, by decide +kernel⟩
theorem ok_Scene_part (T : Txt K mg) : Met P w K mg base (4) (He.ga K "Scene") "part" (spPart K) := by
  refine met_of T.d_Scene_part T.c_Scene T.m_Scene_part sc_Scene_part (fun _ _ _ _ _ _ us hl => match us, hl with | [_, _, _], _ => rfl) (fun vs H Q E h => ?_) (fun cdv A outer s H vs Q E hr h => ?_)
  · obtain ⟨G, S, n, a, b, rfl, ⟨dx, u, m, c, sa, d, ro, sh, sq, s0⟩, k⟩ := h
    rfl
  obtain ⟨G, S, n, a, b, rfl, ⟨dx, u, m, c, sa, d, ro, sh, sq, s0⟩, k⟩ := h
  have c_Scene_find := ok_Scene_find (P := P) (w := w) (base := base) T
  have c_Scene_make_of := ok_Scene_make_of (P := P) (w := w) (base := base) T
  have c_Scene_close := ok_Scene_close (P := P) (w := w) (base := base) T
  have sc := sc_Scene_part
  have hu := hu_of hr
  refine ⟨_, (pss_cons (ps_if (pt_cmpR op_eq (pmt c_Scene_find hr (by decide) (pv 0) (pa_cons (pv 1) pa_nil)) (pmt c_Scene_find hr (by decide) (pv 0) (pa_cons (pv 2) pa_nil)) (nomark _)) (pss_one (ps_ret pe_str)) pss_nil)
      (pss_cons (ps_expr (pmt c_Scene_make_of hr (by decide) (pv 0) (pa_cons (pe_lst (pa_cons (pv 1) (pa_cons (pv 2) pa_nil))) (pa_cons (p_int T.i_MADE_OF) pa_nil))))
      (pss_cons (ps_par (i := 3) (j := 4) rfl sc.nd rfl rfl (by decide) rfl rfl (pa_cons (pmt c_Scene_find hr (by decide) (pv 0) (pa_cons (pv 1) pa_nil)) (pa_cons (pmt c_Scene_find hr (by decide) (pv 0) (pa_cons (pv 2) pa_nil)) pa_nil)) rfl)
      (pss_cons (ps_dput hu (pe_fld (pv 0) rfl) (pe_tup (pa_cons (pb (call_min2 rfl) T.b_min v_min (pa_cons (pv 3) (pa_cons (pv 4) pa_nil))) (pa_cons (pb (call_max2 rfl) T.b_max v_max (pa_cons (pv 3) (pa_cons (pv 4) pa_nil))) pa_nil))) pe_bl rfl)
      (pss_one (ps_ret (pmt0 c_Scene_close hr (by decide) (pv 0)))))))), ?_⟩
  refine ⟨_, rfl, _, dx, _, rfl, s0.o, rfl, _, rfl, S, dx, n, u, m, c, sa, d, ro, sh, sq, 1, rfl, s0.o, s0.hu, .inr rfl, ?_⟩
  refine ⟨_, rfl, _, dx, _, rfl, s0.o, rfl, _, rfl, S, dx, n, u, m, c, sa, d, ro, sh, sq, 0, rfl, s0.o, s0.hu, .inl rfl, ?_⟩
  refine ⟨rfl, _, rfl, iteF ?_⟩
  refine ⟨_, rfl, _, dx, _, rfl, s0.o, rfl, _, rfl, _, rfl, (by show 2 ≤ sizeLine; decide), fun vl evl => ?_⟩
  have hG : Same G (upd G vl (.lst [.int 1, .int 0])) := Same.new (s0.e.free evl)
  have s1 := s0.more (x := .lst [.int 1, .int 0]) evl
  refine ⟨upd G vl (.lst [.int 1, .int 0]), S, n, vl, a, b, [], rfl, ⟨dx, u, m, c, sa, d, ro, sh, sq, s1⟩, upd_same, fun H2 a2 b2 ⟨dx, u, m, c, sa, d, ro, sh, sq, s2⟩ => ?_⟩
  refine ⟨_, rfl, _, dx, _, rfl, s2.o, rfl, _, rfl, S, dx, n, u, m, c, sa, d, ro, sh, sq, 1, rfl, s2.o, s2.hu, .inr rfl, ?_⟩
  refine ⟨_, rfl, _, dx, _, rfl, s2.o, rfl, _, rfl, S, dx, n, u, m, c, sa, d, ro, sh, sq, 0, rfl, s2.o, s2.hu, .inl rfl, ?_⟩
  refine ⟨_, _, rfl, ?_⟩
  refine ⟨_, rfl, _, _, dx, _, _, rfl, s2.o, T.c_Scene, T.n_Scene_unlike, rfl, _, rfl, _, rfl, _, _, rfl, _, rfl, _, rfl, _, _, rfl, (by show 2 ≤ sizeLine; decide), fun t et => ?_⟩
  have s3 := s2.up (Same.new (o := .tup [.int 0, .int 1]) et)
  refine ⟨d, _, rfl, .inr ⟨[], [.inl 0, .inl 1], t, s3.hd, rfl, upd_same, (by show 0 < sizeLine; decide), rfl⟩, ?_⟩
  have s4 := s3.setD un01
  refine ⟨_, rfl, _, dx, _, rfl, s4.o, rfl, upd G vl (.lst [.int 1, .int 0]), S, n, [a2, b2], rfl, ⟨dx, u, m, c, sa, d, ro, sh, sq, s4⟩, fun H5 ⟨dx, u, m, c, sa, d, ro, sh, sq, s5⟩ => ?_⟩
  exact k _ a2 b2 ⟨dx, u, m, c, sa, d, ro, sh, sq, s5.sub hG⟩
end
end K21
set_option Elab.async false
set_option linter.all false
set_option maxRecDepth 100000
set_option maxHeartbeats 1000000
namespace K21
open PySem PySem.Spec PyProof.Rows L2
theorem ScP.gput {K : PySem.W.Frag} {G H : Hp} {S dx n u m c sa d ro sh sq j : Addr} {us ms : List Int} {un : List (List Key × V)} {x y : HO} (s : ScP K G H S dx n u m c sa d ro sh sq us ms un) (hj : G j = some x) : ScP K (upd G j y) (upd H j y) S dx n u m c sa d ro sh sq us ms un :=
  have ne : ∀ {a : Addr}, G a = none → a ≠ j := fun h z => by
    rw [z, hj] at h
    cases h
  have g : ∀ {a : Addr}, G a = none → upd G j y a = none := fun h => (upd_ne (ne h)).trans h
  have t : ∀ {a : Addr} {o : HO}, G a = none → H a = some o → upd H j y a = some o := fun h q => (upd_ne (ne h)).trans q
  ⟨fun b v q => by
    by_cases z : b = j
    · subst z
      rw [upd_same] at q ⊢
      exact q
    · rw [upd_ne z] at q ⊢
      exact s.e b v q, t s.gS s.o, g s.gS, t s.gu s.hu, g s.gu, t s.gm s.hm, g s.gm, s.um, t s.gc s.hc, t s.gsa s.hsa, t s.gd s.hd, g s.gd, t s.gro s.hro, t s.gsh s.hsh, t s.gsq s.hsq, g s.gc, g s.gsa, g s.gro, g s.gsh, g s.gsq⟩
section
variable {P : Program} {w : World} {K : PySem.W.Frag} {mg : Str → Option Value} {base : Heap}
/-- a class whose __init__ has defaults; all values are given -/
theorem mak_ofD {x qual y : Str} {st : Stmt} {dvs : List V} {f C : Addr} {N ps : List Str} {k : Nat} {sp : Sp} (hF : ∃ fd, FnP K x qual st dvs f fd) (hm : Mk K C f) (hg : mg y = some (.ref C)) (S : FnScope N ps (defScope st)) (hd : dvs ≠ [])
    (h : ∀ (T : Addr) (kV doc pm : Value) (an : Option Addr) (cdv ct : Value) (us its : List Value), us.length = ps.length → its.length = dvs.length →
      ∃ k, bindArgs (PySem.W.fnOf x qual (defArgs st) (defBody st) (defScope st) (.ref T) kV doc pm an cdv ct) ⟨us, []⟩ = seqItems? (.ref T) >>= k ∧ k (some its.toArray) = pure (ps.zip (us ++ its.drop dvs.length)))
    (len : ∀ vs H Q E, sp vs H Q E → vs.length = ps.length) (hb : Bod P w K mg base N qual st k sp f) : Mak P w K mg base (k + 1) y C sp := by
  obtain ⟨fd, F⟩ := hF
  obtain ⟨ds, h1, h2⟩ := F.binds1 (ps := ps) ps.length dvs.length hd (by simp) h
  rw [List.drop_length] at h1
  cases h1
  exact ⟨f, fd, ps, hm, F.ok S len fun cdv A outer s H vs Q E hr h => by
    obtain ⟨t, h1, h2⟩ := hb cdv A outer s H vs Q E hr h
    exact ⟨t, h1.nox, h2⟩, hg, h2⟩
end
def spFacts (K : PySem.W.Frag) : Sp := fun vs H Q _ => ∃ n, vs = [.ref n] ∧ NamesAt K H n ∧ ∀ p, H p = none → Q (.ref p) (upd H p (.lst []))
def spBegun (K : PySem.W.Frag) : Sp := fun vs H Q _ => ∃ n, vs = [.ref n] ∧ NamesAt K H n ∧ ∀ H' t S vd, Same H H' → H' t = some (.tup [.ref S, .ref vd]) → Q (.ref t) H'
def kvA : Nat → List (List Key × V)
  | 0 => []
  | 1 => [([.inl 0, .inr "a"], .int 0)]
  | _ => [([.inl 0, .inr "a"], .int 0), ([.inl 0, .inr "b"], .int 1)]
def usA : Nat → List Int
  | 0 => []
  | 1 => [0]
  | _ => [0, 1]
def msA : Nat → List Int
  | 0 => []
  | 1 => [0]
  | _ => [0, 0]
theorem upd_comm {H : Hp} {a b : Addr} {x y z : HO} (h : a ≠ b) : upd (upd (upd H a x) b y) a z = upd (upd H a z) b y := by
  funext q
  by_cases e : q = a
  · rw [e, upd_same, upd_ne h, upd_same]
  · rw [upd_ne e]
    by_cases f : q = b
    · rw [f, upd_same, upd_same]
    · rw [upd_ne f, upd_ne f, upd_ne e, upd_ne e]
section
variable {P : Program} {w : World} {K : PySem.W.Frag} {mg : Str → Option Value} {base : Heap}
theorem sc_Names_facts : FnScope ["self"] ["self"] (defScope s_Names_facts) := ⟨rfl, rfl, rfl, by decide +kernel, rfl, by decide +kernel, by decide +kernel⟩
theorem ok_Names_facts (T : Txt K mg) : Met P w K mg base (1) (He.ga K "Names") "facts" (spFacts K) := by
  refine met_of T.d_Names_facts T.c_Names T.m_Names_facts sc_Names_facts (fun _ _ _ _ _ _ us hl => match us, hl with | [_], _ => rfl) (fun vs H Q E h => ?_) (fun cdv A outer s H vs Q E hr h => ?_)
  · obtain ⟨n, rfl, ⟨dx, c, f, t, d, r, fa, pa, p0, h0, h1, h2, h3, h4, h5, h6, h7, h8⟩, k⟩ := h
    rfl
  obtain ⟨n, rfl, ⟨dx, c, f, t, d, r, fa, pa, p0, h0, h1, h2, h3, h4, h5, h6, h7, h8⟩, k⟩ := h
  have sc := sc_Names_facts
  have hu := hu_of hr
  refine ⟨_, (pss_one (ps_ret (pbt call_list_of T.b_list v_list (pa_cons (pe_fld (pv 0) rfl) pa_nil)))), ?_⟩
  exact ⟨_, rfl, _, _, dx, _, _, rfl, h0, T.c_Names, T.n_Names_some_facts, rfl, _, _, rfl, .inl (SqL.of h6), k⟩
theorem sc_begun : FnScope ["names", "scene", "values", "words", "name", "things", "value", "some", "key", "one", "other", "thing"] ["names"] (defScope s_begun) := ⟨rfl, rfl, rfl, by decide +kernel, rfl, by decide +kernel, by decide +kernel⟩
theorem ok_begun (T : Txt K mg) : Cal P w K mg base (5) "begun" (spBegun K) := by
  refine cal_of T.d_begun T.g_begun sc_begun (fun _ _ _ _ _ _ us hl => match us, hl with | [_], _ => rfl) (fun vs H Q E h => ?_) (fun cdv A outer s H vs Q E hr h => ?_)
  · obtain ⟨n, rfl, hn, k⟩ := h
    rfl
  obtain ⟨n, rfl, hn, k⟩ := h
  have c_Scene : Mak P w K mg base 1 "Scene" (He.ga K "Scene") (spScInit K) := ok_Scene_init T
  have c_Scene_new := ok_Scene_new (P := P) (w := w) (base := base) T
  have c_Scene_part := ok_Scene_part (P := P) (w := w) (base := base) T
  have c_Names_facts := ok_Names_facts (P := P) (w := w) (base := base) T
  have c_Names_apart := ok_Names_apart (P := P) (w := w) (base := base) T
  have sc := sc_begun
  have hu := hu_of hr
  refine ⟨_, (pss_cons (ps_asg (pe_tup (pa_cons (pmk c_Scene hr (by decide) (pa_cons (pv 0) pa_nil)) (pa_cons (pe_dnewT) (pa_cons (pe_lst pa_nil) pa_nil)))) (pg_tup rfl (pgs_cons (pgn 1 sc.nd) (pgs_cons (pgn 2 sc.nd) (pgs_cons (pgn 3 sc.nd) pgs_nil)))))
      (pss_cons (ps_for PassesOwn.never rfl (pi_tup (pe_fld (pv 0) rfl)) (pgn 4 sc.nd)
        (pss_one (ps_dput hu (pv 2) (pe_tup (pa_cons pe_int (pa_cons (pv 4) pa_nil))) (pmt0 c_Scene_new hr (by decide) (pv 1)) rfl)))
      (pss_cons (ps_for PassesOwn.never rfl (pi_list (pmt0 c_Names_facts hr (by decide) (pv 0))) pg_never pss_never)
      (pss_cons (ps_for PassesOwn.never rfl (pi_list (pmt0 c_Names_apart hr (by decide) (pv 0))) (pg_tup rfl (pgs_cons (pgn 9 sc.nd) (pgs_cons (pgn 10 sc.nd) pgs_nil)))
        (pss_one (ps_expr (pe_bm PySem.F.plainAttrs_list PySem.F.slot_list_append PySem.F.type_list_append mt_append (pv 3) (pa_cons (pmt c_Scene_part hr (by decide) (pv 1) (pa_cons (pe_dget hu (pv 2) (pe_tup (pa_cons pe_int (pa_cons (pv 9) pa_nil))) (fun _ _ => rfl)) (pa_cons (pe_dget hu (pv 2) (pe_tup (pa_cons pe_int (pa_cons (pv 10) pa_nil))) (fun _ _ => rfl)) pa_nil))) pa_nil)))))
      (pss_one (ps_ret (pe_tup (pa_cons (pe_ifExp (pt_cmpR op_in_seq pe_str (pv 3) (by rfl)) pe_non (pv 1)) (pa_cons (pv 2) pa_nil))))))))), ?_⟩
  refine ⟨_, rfl, fun S dS eS edS hne => ?_⟩
  have e1 : upd H dS (.own S) S = none := (upd_ne (Ne.symm hne)).trans eS
  refine ⟨S, n, dS, H, rfl, upd_same, (Same.new edS).trans (Same.new e1), eS, fun H1 sc1 => ⟨rfl, ?_⟩⟩
  obtain ⟨dx, u, m, c, sa, d, ro, sh, sq, s1⟩ := sc1
  refine fun vd evd => ⟨(by show 0 ≤ sizeLine; decide), fun wl ewl => ⟨(by show 3 ≤ sizeLine; decide), fun tt ett => ⟨tt, _, rfl, SqT.of upd_same, rfl, _, _, rfl, _, _, rfl, _, _, rfl, rfl, ?_⟩⟩⟩
  have hvd : H vd = none := s1.e.free evd
  have nvw : vd ≠ wl := ne_of_none upd_same ewl
  have hwl : H wl = none := by
    rw [upd_ne (Ne.symm nvw)] at ewl
    exact s1.e.free ewl
  have s2 := ((s1.more (x := .dT []) evd).more (x := .lst []) ewl).up (Same.new (o := .tup [.ref S, .ref vd, .ref wl]) ett)
  have hG : ∀ kv, Same H (upd (upd H vd (.dT kv)) wl (.lst [])) := fun kv => (Same.new hvd).trans (Same.new ((upd_ne (Ne.symm nvw)).trans hwl))
  have gvd : ∀ kv, upd (upd H vd (.dT kv)) wl (.lst []) vd = some (.dT kv) := fun kv => (upd_ne nvw).trans upd_same
  generalize hH2 : upd (upd (upd H1 vd (.dT [])) wl (.lst [])) tt (.tup [.ref S, .ref vd, .ref wl]) = H2 at *
  obtain ⟨dn, cc, ff, td, dd, ru, fa, pa, p0, j0, j1, jr⟩ := hn
  refine ⟨_, rfl, _, _, dn, _, _, rfl, s2.e _ _ (hG _ _ _ j0), T.c_Names, T.n_Names_constants, rfl, cc, rfl, ⟨_, SqT.of (s2.e _ _ (hG _ _ _ j1))⟩, ?_⟩
  refine for_it (walk_tup (xs := [.str "a", .str "b"])) (fun i σ H7 => ∃ x4, σ = [some (.ref n), some (.ref S), some (.ref vd), some (.ref wl), x4, none, none, none, none, none, none, none] ∧ ScIn K (upd (upd H vd (.dT (kvA i))) wl (.lst [])) H7 S n (usA i) (msA i) []) ⟨_, rfl, ⟨dx, u, m, c, sa, d, ro, sh, sq, s2⟩⟩ (fun i σ H7 _ ⟨_, _, ⟨_, _, _, _, _, _, _, _, _, s7⟩⟩ => SqT.of (s7.e _ _ (hG _ _ _ j1))) ?_ ?_
  · rintro i x σ H7 H8 hi ⟨x4, rfl, ⟨dx, u, m, c, sa, d, ro, sh, sq, s7⟩⟩ ⟨rfl, hx⟩
    have fin : ∀ (name : Str) (v : Int) (H9 : Hp), x = .str name → putK (kvA i) [.inl 0, .inr name] (.int v) = kvA (i + 1) → (kvA i).length < sizeLine → ScIn K (upd (upd H vd (.dT (kvA i))) wl (.lst [])) H9 S n (usA (i + 1)) (msA (i + 1)) [] → ∀ t, H9 t = none → ∃ a H4, V.ref vd = .ref a ∧ DPut (upd H9 t (.tup [.int 0, .str name])) a (.ref t) (.int v) H4 ∧ ScIn K (upd (upd H vd (.dT (kvA (i + 1)))) wl (.lst [])) H4 S n (usA (i + 1)) (msA (i + 1)) [] := fun name v H9 hx1 h3 h6 ⟨dx, u, m, c, sa, d, ro, sh, sq, s9⟩ t et => by
      have s10 := s9.up (Same.new (o := .tup [.int 0, .str name]) et)
      have s11 := s10.gput (y := .dT (kvA (i + 1))) (gvd _)
      rw [upd_comm nvw] at s11
      refine ⟨vd, _, rfl, .inr ⟨kvA i, [.inl 0, .inr name], t, s10.e _ _ (gvd _), rfl, upd_same, h6, rfl⟩, ?_⟩
      rw [h3]
      exact ⟨dx, u, m, c, sa, d, ro, sh, sq, s11⟩
    match i, hx with
    | 0, hx =>
      cases hx
      refine ⟨_, rfl, _, dx, _, rfl, s7.o, rfl, _, S, n, [], [], [], rfl, ⟨dx, u, m, c, sa, d, ro, sh, sq, s7⟩, (by decide), (by decide), fun H9 s9 => ⟨_, rfl, _, rfl, (by show 2 ≤ sizeLine; decide), fun t et => ?_⟩⟩
      obtain ⟨a, H4, q1, q2, q3⟩ := fin "a" 0 H9 rfl rfl (by show 0 < sizeLine; decide) s9 t et
      exact ⟨a, H4, q1, q2, _, rfl, q3⟩
    | 1, hx =>
      cases hx
      refine ⟨_, rfl, _, dx, _, rfl, s7.o, rfl, _, S, n, [0], [0], [], rfl, ⟨dx, u, m, c, sa, d, ro, sh, sq, s7⟩, (by decide), (by decide), fun H9 s9 => ⟨_, rfl, _, rfl, (by show 2 ≤ sizeLine; decide), fun t et => ?_⟩⟩
      obtain ⟨a, H4, q1, q2, q3⟩ := fin "b" 1 H9 rfl rfl (by show 1 < sizeLine; decide) s9 t et
      exact ⟨a, H4, q1, q2, _, rfl, q3⟩
    | i + 2, hx => cases hx
  · rintro σ H7 ⟨x4, rfl, ⟨dx, u, m, c, sa, d, ro, sh, sq, s7⟩⟩
    have hHG : Same H H7 := (hG _).trans s7.e
    have hn7 : NamesAt K H7 n := NamesAt.up ⟨dn, cc, ff, td, dd, ru, fa, pa, p0, j0, j1, jr⟩ hHG
    refine ⟨_, rfl, _, dn, _, rfl, hHG _ _ j0, rfl, n, rfl, hn7, fun f1 ef1 => ⟨f1, rfl, ⟨_, SqL.of upd_same⟩, ?_⟩⟩
    apply for_none
    · exact (walk_list (xs := [])).stops _ (SqL.of upd_same)
    have s8 := s7.up (Same.new (o := .lst []) ef1)
    have hn8 := hn7.up (Same.new (o := .lst []) ef1)
    refine ⟨_, rfl, _, dn, _, rfl, (Same.new ef1) _ _ (hHG _ _ j0), rfl, n, rfl, hn8, fun a1 q0 ea1 hq0 => ⟨a1, rfl, ⟨_, SqL.of upd_same⟩, ?_⟩⟩
    have s9 := s8.more (x := .lst [.ref q0]) ea1
    refine for_it (walk_list (xs := [.ref q0])) (fun i σ H10 => (i = 0 ∧ (∃ x4, σ = [some (.ref n), some (.ref S), some (.ref vd), some (.ref wl), x4, none, none, none, none, none, none, none]) ∧ H10 = upd (upd H7 f1 (.lst [])) a1 (.lst [.ref q0])) ∨ (i = 1 ∧ (∃ x4 x9 x10, σ = [some (.ref n), some (.ref S), some (.ref vd), some (.ref wl), x4, none, none, none, none, x9, x10, none]) ∧ Same H H10 ∧ H10 a1 = some (.lst [.ref q0]) ∧ H10 wl = some (.lst [.str "fine"]))) (.inl ⟨rfl, ⟨_, rfl⟩, rfl⟩) ?_ ?_ ?_
    · rintro i σ H10 _ (⟨_, _, rfl⟩ | ⟨_, _, _, h, _⟩)
      · exact SqL.of upd_same
      · exact SqL.of h
    · rintro i x σ H10 H11 hi (⟨rfl, ⟨x4, rfl⟩, rfl⟩ | ⟨rfl, _⟩) ⟨rfl, hx⟩
      · cases hx
        have G9 := s9.e
        have nva : vd ≠ a1 := ne_of_none (s8.e _ _ (gvd _)) ea1
        have gwl : upd (upd H vd (.dT (kvA 2))) wl (.lst []) wl = some (.lst []) := upd_same
        have nwa : wl ≠ a1 := ne_of_none (s8.e _ _ gwl) ea1
        have hv9 := G9 vd (.dT (kvA 2)) ((upd_ne nva).trans (gvd _))
        have hw9 := G9 wl (.lst []) ((upd_ne nwa).trans gwl)
        refine ⟨q0, _, rfl, (Same.new ea1).tup hq0, rfl, _, _, rfl, _, _, rfl, rfl, ?_⟩
        refine ⟨_, rfl, .inl ⟨rfl, _, SqL.of hw9⟩, _, rfl, _, dx, _, rfl, s9.o, rfl, _, rfl, _, rfl, (by show 2 ≤ sizeLine; decide), fun t1 et1 => ?_⟩
        have h10 := (Same.new (o := .tup [.int 0, .str "b"]) et1)
        refine ⟨vd, .int 1, rfl, .inr ⟨kvA 2, [.inl 0, .inr "b"], t1, .inl (h10 _ _ hv9), rfl, upd_same, rfl⟩, _, rfl, _, rfl, (by show 2 ≤ sizeLine; decide), fun t2 et2 => ?_⟩
        have h11 := (Same.new (o := .tup [.int 0, .str "a"]) et2)
        refine ⟨vd, .int 0, rfl, .inr ⟨kvA 2, [.inl 0, .inr "a"], t2, .inl (h11 _ _ (h10 _ _ hv9)), rfl, upd_same, rfl⟩, ?_⟩
        refine ⟨_, S, n, 0, 0, rfl, ⟨dx, u, m, c, sa, d, ro, sh, sq, s9.up (h10.trans h11)⟩, fun H12 a' b' ⟨dx, u, m, c, sa, d, ro, sh, sq, s12⟩ => ?_⟩
        have hw12 := s12.e wl (.lst []) ((upd_ne nwa).trans gwl)
        refine ⟨wl, _, _, rfl, rfl, hw12, (by show 0 < sizeLine; decide), .inr ⟨rfl, ⟨_, _, _, rfl⟩, ?_, ?_, upd_same⟩⟩
        · have hH12 : Same H H12 := ((hG (kvA 2)).trans (Same.new (by
            cases z : upd (upd H vd (.dT (kvA 2))) wl (.lst []) a1 with
            | none => rfl
            | some y =>
              have := s8.e _ _ z
              rw [ea1] at this
              cases this))).trans s12.e
          exact hH12.mut hwl
        · rw [upd_ne (Ne.symm nwa)]
          exact s12.e a1 _ upd_same
      · exact absurd hi (by show ¬ 1 < 1; omega)
    · rintro σ H10 (⟨h, _⟩ | ⟨_, ⟨x4, x9, x10, rfl⟩, h10, _, hw⟩)
      · cases h
      refine ⟨_, rfl, wl, _, rfl, .inl (SqL.of hw), rfl, rfl, _, rfl, iteF ⟨_, rfl, _, rfl, (by show 2 ≤ sizeLine; decide), fun t et => ?_⟩⟩
      exact k _ t S vd (h10.trans (Same.new et)) upd_same
end
/-- names in the making -/
def NamesP (K : PySem.W.Frag) (H : Hp) (n : Addr) : Prop := ∃ dx c f t d r : Addr, H n = some (.ins (He.ga K "Names") dx [("constants", .ref c), ("some_functions", .ref f), ("some_tests", .ref t), ("some_deeds", .ref d), ("some_rules", .ref r)]) ∧
  H c = some (.tup [.str "a", .str "b"]) ∧ H f = some (.dK dF) ∧ H t = some (.dK dT) ∧ H d = some (.dK dD) ∧ H r = some (.dK [])
def spAll0 (K : PySem.W.Frag) : Sp := fun vs H Q _ => ∃ n, vs = [.ref n] ∧ NamesP K H n ∧ ∀ l H', Same H H' → H l = none → H' l = some (.lst (used.map V.str)) → Q (.ref l) H'
def spChk (K : PySem.W.Frag) : Sp := fun vs H Q _ => ∃ n, vs = [.ref n] ∧ NamesP K H n ∧ ∀ H', Same H H' → Q .non H'
def spNum : Sp := fun vs H Q _ => ∃ i j : Int, vs = [.int i, .int j] ∧ j ≤ i ∧ i ≤ 2 ∧ Q (.bl true) H
def spCons (K : PySem.W.Frag) : Sp := fun vs H Q _ => ∃ (n dx c v : Addr) (ex : List (Str × V)), vs = [.ref n, .ref v, .int 2] ∧ H n = some (.ins (He.ga K "Names") dx (("constants", .ref c) :: ex)) ∧ H c = some (.tup [.str "a", .str "b"]) ∧ SqT K H v [.str "b", .str "a"] ∧ ∀ H', Same H H' → Q (.bl true) H'
def spPair (K : PySem.W.Frag) : Sp := fun vs H Q _ => ∃ (n dx c f t d r fa v : Addr) (at' : V), vs = [.ref n, .ref v, at'] ∧ H n = some (.ins (He.ga K "Names") dx [("constants", .ref c), ("some_functions", .ref f), ("some_tests", .ref t), ("some_deeds", .ref d), ("some_rules", .ref r), ("some_facts", .ref fa)]) ∧ H c = some (.tup [.str "a", .str "b"]) ∧ SqT K H v [.str "b", .str "a"] ∧ ∀ H', Same H H' → Q (.ref v) H'
section
variable {P : Program} {w : World} {K : PySem.W.Frag} {mg : Str → Option Value} {base : Heap}
namespace P0
theorem sc_Names_all_names : FnScope ["self"] ["self"] (defScope s_Names_all_names) := ⟨rfl, rfl, rfl, by decide +kernel, rfl, by decide +kernel, by decide +kernel⟩
theorem ok_Names_all_names (T : Txt K mg) : Met P w K mg base (1) (He.ga K "Names") "all_names" (spAll0 K) := by
  refine met_of T.d_Names_all_names T.c_Names T.m_Names_all_names sc_Names_all_names (fun _ _ _ _ _ _ us hl => match us, hl with | [_], _ => rfl) (fun vs H Q E h => ?_) (fun cdv A outer s H vs Q E hr h => ?_)
  · obtain ⟨n, rfl, ⟨dx, c, f, t, d, r, h0, h1, h2, h3, h4, h5⟩, k⟩ := h
    rfl
  obtain ⟨n, rfl, ⟨dx, c, f, t, d, r, h0, h1, h2, h3, h4, h5⟩, k⟩ := h
  have sc := sc_Names_all_names
  have hu := hu_of hr
  refine ⟨_, (pss_one (ps_ret (pe_op op_cat (pe_op op_cat (pe_op op_cat (pbt call_list_of T.b_list v_list (pa_cons (pe_fld (pv 0) rfl) pa_nil)) (pbt (call_list_dK rfl) T.b_list v_list (pa_cons (pe_fld (pv 0) rfl) pa_nil))) (pbt (call_list_dK rfl) T.b_list v_list (pa_cons (pe_fld (pv 0) rfl) pa_nil))) (pbt (call_list_dK rfl) T.b_list v_list (pa_cons (pe_fld (pv 0) rfl) pa_nil))))), ?_⟩
  refine ⟨_, rfl, _, _, dx, _, _, rfl, h0, T.c_Names, T.n_Names_constants, rfl, _, _, rfl, .inr (SqT.of h1), fun l1 e1 => ?_⟩
  have s1 : Same H (upd H l1 (.lst [.str "a", .str "b"])) := Same.new e1
  refine ⟨_, rfl, _, _, dx, _, _, rfl, s1 _ _ h0, T.c_Names, T.n_Names_some_functions, rfl, _, _, rfl, s1 _ _ h2, fun l2 e2 => ?_⟩
  have s2 : Same _ (upd (upd H l1 (.lst [.str "a", .str "b"])) l2 (.lst [.str "f", .str "g"])) := Same.new e2
  refine ⟨l1, l2, _, _, rfl, rfl, s2 _ _ upd_same, upd_same, by show _ ≤ sizeLine; decide, fun l3 e3 => ?_⟩
  have s3 := s1.trans (s2.trans (Same.new (o := .lst [.str "a", .str "b", .str "f", .str "g"]) e3))
  refine ⟨_, rfl, _, _, dx, _, _, rfl, s3 _ _ h0, T.c_Names, T.n_Names_some_tests, rfl, _, _, rfl, s3 _ _ h3, fun l4 e4 => ?_⟩
  have s4 := Same.new (o := .lst [.str "p"]) e4
  refine ⟨l3, l4, _, _, rfl, rfl, s4 _ _ upd_same, upd_same, by show _ ≤ sizeLine; decide, fun l5 e5 => ?_⟩
  have s5 := s3.trans (s4.trans (Same.new (o := .lst [.str "a", .str "b", .str "f", .str "g", .str "p"]) e5))
  refine ⟨_, rfl, _, _, dx, _, _, rfl, s5 _ _ h0, T.c_Names, T.n_Names_some_deeds, rfl, _, _, rfl, s5 _ _ h4, fun l6 e6 => ?_⟩
  have s6 := Same.new (o := .lst [.str "tell", .str "show"]) e6
  refine ⟨l5, l6, _, _, rfl, rfl, s6 _ _ upd_same, upd_same, by show _ ≤ sizeLine; decide, fun l7 e7 => ?_⟩
  exact k l7 _ (s5.trans (s6.trans (Same.new e7))) ((s5.trans s6).free e7) upd_same
end P0
theorem used_ok : ∀ (i : Nat) (h : i < used.length), nameOk used[i] = true ∧ (used.take i).contains used[i] = false ∧ used[i].length ≤ 1000 := by decide +kernel
theorem sc_is_number : FnScope ["thing", "least"] ["thing", "least"] (defScope s_is_number) := ⟨rfl, rfl, rfl, by decide +kernel, rfl, by decide +kernel, by decide +kernel⟩
theorem ok_is_number (T : Txt K mg) : Cal P w K mg base (1) "is_number" (spNum) := by
  refine cal_of T.d_is_number T.g_is_number sc_is_number (fun _ _ _ _ _ _ us hl => match us, hl with | [_, _], _ => rfl) (fun vs H Q E h => ?_) (fun cdv A outer s H vs Q E hr h => ?_)
  · obtain ⟨i, j, rfl, h1, h2, k⟩ := h
    rfl
  obtain ⟨i, j, rfl, h1, h2, k⟩ := h
  have sc := sc_is_number
  have hu := hu_of hr
  refine ⟨_, (pss_one (ps_ret (pe_and (pb call_isi T.b_isinstance v_isinstance (pa_cons (pv 0) (pa_cons (p_ty T.b_int v_int) pa_nil))) (pe_and (pe_not (pb call_isi T.b_isinstance v_isinstance (pa_cons (pv 0) (pa_cons (p_ty T.b_bool v_bool) pa_nil)))) (pe_one (pe_chain op_le op_le (pv 1) (pv 0) pe_int)))))), ?_⟩
  refine ⟨_, rfl, _, _, _, _, _, rfl, .ty _, .base (.int _), kt_int_int, _, rfl, iteT ?_⟩
  refine ⟨_, rfl, _, _, _, _, _, rfl, .ty _, .base (.int _), kt_int_bool, _, rfl, _, rfl, iteT ?_⟩
  refine ⟨_, rfl, _, rfl, _, _, rfl, rfl, _, rfl, ?_⟩
  rw [decide_eq_true h1]
  refine iteT ⟨_, _, rfl, rfl, ?_⟩
  show Q (.bl (decide (i ≤ 2))) H
  rw [decide_eq_true h2]
  exact k
theorem sc_Names_check_names : FnScope ["self", "found", "name"] ["self"] (defScope s_Names_check_names) := ⟨rfl, rfl, rfl, by decide +kernel, rfl, by decide +kernel, by decide +kernel⟩
theorem ok_Names_check_names (T : Txt K mg) : Met P w K mg base (2) (He.ga K "Names") "check_names" (spChk K) := by
  refine met_of T.d_Names_check_names T.c_Names T.m_Names_check_names sc_Names_check_names (fun _ _ _ _ _ _ us hl => match us, hl with | [_], _ => rfl) (fun vs H Q E h => ?_) (fun cdv A outer s H vs Q E hr h => ?_)
  · obtain ⟨n, rfl, ⟨dx, c, f, t, d, r, h0, h1, h2, h3, h4, h5⟩, k⟩ := h
    rfl
  obtain ⟨n, rfl, ⟨dx, c, f, t, d, r, h0, h1, h2, h3, h4, h5⟩, k⟩ := h
  have c_Names_all_names := P0.ok_Names_all_names (P := P) (w := w) (base := base) T
  have c_is_name := ok_is_name (P := P) (w := w) (base := base) T
  have sc := sc_Names_check_names
  have hu := hu_of hr
  refine ⟨_, (pss_cons (pset 1 sc.nd (pe_lst pa_nil))
      (pss_one (ps_for PassesOwn.never rfl (pi_list (pmt0 c_Names_all_names hr (by decide) (pv 0))) (pgn 2 sc.nd)
        (pss_cons (ps_if (PW.pt (pw_or (pt_not (pt_val (pc c_is_name hr (by decide) (pa_cons (pv 2) pa_nil)))) (pw_or1 (pt_cmpR op_in_seq (pv 2) (pv 1) (by rfl))))) (pss_one ps_never) pss_nil)
        (pss_one (ps_expr (pe_bm PySem.F.plainAttrs_list PySem.F.slot_list_append PySem.F.type_list_append mt_append (pv 1) (pa_cons (pv 2) pa_nil)))))))), ?_⟩
  refine ⟨(by show 0 ≤ sizeLine; decide), fun l e1 => ?_⟩
  have s1 := Same.new (o := .lst []) e1
  refine ⟨_, rfl, _, dx, _, rfl, s1 _ _ h0, rfl, n, rfl, ⟨dx, c, f, t, d, r, s1 _ _ h0, s1 _ _ h1, s1 _ _ h2, s1 _ _ h3, s1 _ _ h4, s1 _ _ h5⟩, fun l2 H2 s2 e2 a2 => ?_⟩
  have nl : l2 ≠ l := Ne.symm (ne_of_none upd_same e2)
  refine ⟨l2, rfl, ⟨_, SqL.of a2⟩, ?_⟩
  have hs : Same H H2 := s1.trans s2
  refine for_it (walk_list (xs := used.map V.str)) (fun i σ H7 => ∃ x2, σ = [some (.ref n), some (.ref l), x2] ∧ Same H2 (upd H7 l (.lst [])) ∧ H7 l = some (.lst ((used.take i).map V.str))) ⟨_, rfl, ?_, s2 _ _ upd_same⟩ (fun i σ H7 _ ⟨_, _, q, _⟩ => SqL.of (by have := q _ _ a2; rwa [upd_ne nl] at this)) ?_ ?_
  · intro b v q
    by_cases z : b = l
    · rw [z, s2 _ _ upd_same] at q
      rw [z, upd_same]
      exact q
    · rw [upd_ne z]
      exact q
  · rintro i x σ H7 H8 hi ⟨x2, rfl, q7, l7⟩ ⟨rfl, hx⟩
    have hi' : i < used.length := by rwa [List.length_map] at hi
    have hx' : x = .str used[i] := by
      rw [List.getElem?_map, List.getElem?_eq_getElem hi'] at hx
      exact (Option.some.inj hx).symm
    subst hx'
    have hok := used_ok i hi'
    refine ⟨_, rfl, .inr ⟨_, rfl, hok.2.2, fun H9 s9 => ⟨_, rfl, ?_⟩⟩⟩
    rw [hok.1]
    refine iteF ?_
    refine ⟨_, rfl, _, rfl, l, _, rfl, .inl (SqL.of (s9 _ _ l7)), rfl, flat_strs _, _, rfl, ?_⟩
    rw [if_neg Bool.false_ne_true, inV_strs, hok.2.1]
    refine iteF ?_
    refine ⟨_, rfl, .inl ⟨rfl, _, SqL.of (s9 _ _ l7)⟩, _, rfl, l, _, _, rfl, rfl, s9 _ _ l7, ?_, _, rfl, ?_, ?_⟩
    · rw [List.length_map]
      exact Nat.lt_of_le_of_lt (List.length_take_le _ _) (Nat.lt_trans hi' (by decide))
    · intro b v q
      have q2 := q7 b v q
      by_cases z : b = l
      · rw [z, upd_same] at q2 ⊢
        exact q2
      · rw [upd_ne z] at q2
        rw [upd_ne z, upd_ne z]
        exact s9 _ _ q2
    · rw [upd_same, List.take_succ, List.getElem?_eq_getElem hi', List.map_append]
      rfl
  · rintro σ H7 ⟨x2, rfl, q7, l7⟩
    refine k _ fun b v q => ?_
    have q2 := q7 b v (hs _ _ q)
    by_cases z : b = l
    · rw [z, e1] at q
      cases q
    · rwa [upd_ne z] at q2
theorem sc_Names_check_rules : FnScope ["self", "orders", "name", "word"] ["self"] (defScope s_Names_check_rules) := ⟨rfl, rfl, rfl, by decide +kernel, rfl, by decide +kernel, by decide +kernel⟩
theorem ok_Names_check_rules (T : Txt K mg) : Met P w K mg base (1) (He.ga K "Names") "check_rules" (spChk K) := by
  refine met_of T.d_Names_check_rules T.c_Names T.m_Names_check_rules sc_Names_check_rules (fun _ _ _ _ _ _ us hl => match us, hl with | [_], _ => rfl) (fun vs H Q E h => ?_) (fun cdv A outer s H vs Q E hr h => ?_)
  · obtain ⟨n, rfl, ⟨dx, c, f, t, d, r, h0, h1, h2, h3, h4, h5⟩, k⟩ := h
    rfl
  obtain ⟨n, rfl, ⟨dx, c, f, t, d, r, h0, h1, h2, h3, h4, h5⟩, k⟩ := h
  have sc := sc_Names_check_rules
  have hu := hu_of hr
  refine ⟨_, (pss_cons (pset 1 sc.nd pe_int)
      (pss_one (ps_lock (ps_for PassesOwn.never rfl (pi_items (pe_fld (pv 0) rfl)) pg_never pss_never)))), ?_⟩
  have nS : n ≠ r := ne_val h0 h5 (by simp)
  refine ⟨r, .dK [], h5, trivial, fun od => ?_⟩
  refine ⟨_, rfl, _, _, dx, _, _, rfl, (upd_ne nS).trans h0, T.c_Names, T.n_Names_some_rules, rfl, r, od, [], rfl, upd_same, ?_⟩
  apply for_none
  · exact (walk_items (kvs := [])).stops _ upd_same
  refine ⟨upd_same, ?_⟩
  rw [upd_back h5]
  exact k _ (Same.refl _)
theorem sc_Names_check_numbers : FnScope ["self", "some", "least", "name"] ["self"] (defScope s_Names_check_numbers) := ⟨rfl, rfl, rfl, by decide +kernel, rfl, by decide +kernel, by decide +kernel⟩
theorem ok_Names_check_numbers (T : Txt K mg) : Met P w K mg base (2) (He.ga K "Names") "check_numbers" (spChk K) := by
  refine met_of T.d_Names_check_numbers T.c_Names T.m_Names_check_numbers sc_Names_check_numbers (fun _ _ _ _ _ _ us hl => match us, hl with | [_], _ => rfl) (fun vs H Q E h => ?_) (fun cdv A outer s H vs Q E hr h => ?_)
  · obtain ⟨n, rfl, ⟨dx, c, f, t, d, r, h0, h1, h2, h3, h4, h5⟩, k⟩ := h
    rfl
  obtain ⟨n, rfl, ⟨dx, c, f, t, d, r, h0, h1, h2, h3, h4, h5⟩, k⟩ := h
  have c_is_number := ok_is_number (P := P) (w := w) (base := base) T
  have sc := sc_Names_check_numbers
  have hu := hu_of hr
  refine ⟨_, (pss_one (ps_for PassesOwn.never rfl (pi_list (pe_lst (pa_cons (pe_tup (pa_cons (pe_fld (pv 0) rfl) (pa_cons pe_int pa_nil))) (pa_cons (pe_tup (pa_cons (pe_fld (pv 0) rfl) (pa_cons pe_int pa_nil))) (pa_cons (pe_tup (pa_cons (pe_fld (pv 0) rfl) (pa_cons pe_int pa_nil))) pa_nil))))) (pg_tup rfl (pgs_cons (pgn 1 sc.nd) (pgs_cons (pgn 2 sc.nd) pgs_nil)))
        (pss_one (ps_lock (ps_for PassesOwn.never rfl (pi_keys (pv 1)) (pgn 3 sc.nd)
          (pss_one (ps_if (pt_not (pt_val (pc c_is_number hr (by decide) (pa_cons (pe_dget hu (pv 1) (pv 3) (fun _ _ => rfl)) (pa_cons (pv 2) pa_nil))))) (pss_one ps_never) pss_nil))))))), ?_⟩
  refine ⟨_, rfl, _, _, dx, _, _, rfl, h0, T.c_Names, T.n_Names_some_functions, rfl, (by show 2 ≤ sizeLine; decide), fun t1 e1 => ?_⟩
  have s1 := Same.new (o := .tup [.ref f, .int 1]) e1
  refine ⟨_, rfl, _, _, dx, _, _, rfl, s1 _ _ h0, T.c_Names, T.n_Names_some_tests, rfl, (by show 2 ≤ sizeLine; decide), fun t2 e2 => ?_⟩
  have s2 := s1.trans (Same.new (o := .tup [.ref t, .int 1]) e2)
  refine ⟨_, rfl, _, _, dx, _, _, rfl, s2 _ _ h0, T.c_Names, T.n_Names_some_deeds, rfl, (by show 2 ≤ sizeLine; decide), fun t3 e3 => ⟨(by show 3 ≤ sizeLine; decide), fun l e4 => ?_⟩⟩
  have u1 := ((Same.new (o := .tup [.ref t, .int 1]) e2).trans ((Same.new (o := .tup [.ref d, .int 0]) e3).trans (Same.new (o := .lst [.ref t1, .ref t2, .ref t3]) e4))) t1 _ upd_same
  have u2 := ((Same.new (o := .tup [.ref d, .int 0]) e3).trans (Same.new (o := .lst [.ref t1, .ref t2, .ref t3]) e4)) t2 _ upd_same
  have u3 := (Same.new (o := .lst [.ref t1, .ref t2, .ref t3]) e4) t3 _ upd_same
  have s4 := s2.trans ((Same.new (o := .tup [.ref d, .int 0]) e3).trans (Same.new (o := .lst [.ref t1, .ref t2, .ref t3]) e4))
  have hl : upd (upd (upd (upd H t1 (.tup [.ref f, .int 1])) t2 (.tup [.ref t, .int 1])) t3 (.tup [.ref d, .int 0])) l (.lst [.ref t1, .ref t2, .ref t3]) l = some (.lst [.ref t1, .ref t2, .ref t3]) := upd_same
  generalize hHc : upd (upd (upd (upd H t1 (.tup [.ref f, .int 1])) t2 (.tup [.ref t, .int 1])) t3 (.tup [.ref d, .int 0])) l (.lst [.ref t1, .ref t2, .ref t3]) = Hc at *
  refine ⟨l, rfl, ⟨_, SqL.of hl⟩, ?_⟩
  refine for_it (walk_list (xs := [.ref t1, .ref t2, .ref t3])) (fun i σ H7 => (∃ x1 x2 x3, σ = [some (.ref n), x1, x2, x3]) ∧ H7 = Hc) ⟨⟨_, _, _, rfl⟩, rfl⟩ (fun i σ H7 _ ⟨_, q⟩ => by rw [q]; exact SqL.of hl) ?_ ?_
  · rintro i x σ H7 H8 hi ⟨⟨x1, x2, x3, rfl⟩, rfl⟩ ⟨rfl, hx⟩
    have key : ∃ (tp q : Addr) (kvs : List (Key × V)) (ls : Int), x = .ref tp ∧ H8 tp = some (.tup [.ref q, .int ls]) ∧ H8 q = some (.dK kvs) ∧ ∀ (j : Nat) (kk : Key) (vv : V), kvs[j]? = some (kk, vv) → ∃ iv, vv = .int iv ∧ ls ≤ iv ∧ iv ≤ 2 ∧ valV kvs kk = some vv := by
      match i, hx with
      | 0, hx =>
        cases hx
        refine ⟨t1, f, dF, 1, rfl, u1, s4 _ _ h2, fun j kk vv hj => ?_⟩
        match j, hj with
        | 0, hj => cases hj; exact ⟨1, rfl, by decide, by decide, rfl⟩
        | 1, hj => cases hj; exact ⟨2, rfl, by decide, by decide, rfl⟩
        | j + 2, hj => cases hj
      | 1, hx =>
        cases hx
        refine ⟨t2, t, dT, 1, rfl, u2, s4 _ _ h3, fun j kk vv hj => ?_⟩
        match j, hj with
        | 0, hj => cases hj; exact ⟨2, rfl, by decide, by decide, rfl⟩
        | j + 1, hj => cases hj
      | 2, hx =>
        cases hx
        refine ⟨t3, d, dD, 0, rfl, u3, s4 _ _ h4, fun j kk vv hj => ?_⟩
        match j, hj with
        | 0, hj => cases hj; exact ⟨1, rfl, by decide, by decide, rfl⟩
        | 1, hj => cases hj; exact ⟨2, rfl, by decide, by decide, rfl⟩
        | j + 2, hj => cases hj
      | i + 3, hx => cases hx
    obtain ⟨tp, q, kvs, ls, rfl, htp, hq, hk⟩ := key
    refine ⟨tp, _, rfl, SqT.of htp, rfl, _, _, rfl, _, _, rfl, rfl, ?_⟩
    refine ⟨q, .dK kvs, hq, trivial, fun od => ⟨_, rfl, q, od, rfl, .inl ⟨kvs, upd_same, ?_⟩⟩⟩
    refine for_it walk_keys (fun j σ H9 => (∃ x3, σ = [some (.ref n), some (.ref q), some (.int ls), x3]) ∧ H9 = upd H8 q (.frz od (.dK kvs))) ⟨⟨_, rfl⟩, rfl⟩ (fun j σ H9 _ ⟨_, z⟩ => by rw [z]; exact upd_same) ?_ ?_
    · rintro j y σ H9 H10 hj ⟨⟨x3, rfl⟩, rfl⟩ ⟨rfl, kk, vv, hkv, rfl⟩
      obtain ⟨iv, rfl, hv1, hv2, hv3⟩ := hk j kk vv hkv
      refine ⟨_, rfl, _, rfl, q, _, rfl, .inl ⟨kvs, kk, .inr ⟨od, upd_same⟩, rfl, hv3.symm⟩, _, rfl, iv, ls, rfl, hv1, hv2, _, rfl, iteF ?_⟩
      exact ⟨⟨_, rfl⟩, rfl⟩
    · rintro σ H9 ⟨⟨x3, rfl⟩, rfl⟩
      refine ⟨upd_same, ⟨_, _, _, rfl⟩, ?_⟩
      exact upd_back hq
  · rintro σ H7 ⟨⟨x1, x2, x3, rfl⟩, rfl⟩
    exact k _ s4
theorem sc_Names_are_constants : FnScope ["self", "things", "number", "thing"] ["self", "things", "number"] (defScope s_Names_are_constants) := ⟨rfl, rfl, rfl, by decide +kernel, rfl, by decide +kernel, by decide +kernel⟩
theorem ok_Names_are_constants (T : Txt K mg) : Met P w K mg base (2) (He.ga K "Names") "are_constants" (spCons K) := by
  refine met_of T.d_Names_are_constants T.c_Names T.m_Names_are_constants sc_Names_are_constants (fun _ _ _ _ _ _ us hl => match us, hl with | [_, _, _], _ => rfl) (fun vs H Q E h => ?_) (fun cdv A outer s H vs Q E hr h => ?_)
  · obtain ⟨n, dx, c, v, ex, rfl, h0, h1, hv, k⟩ := h
    rfl
  obtain ⟨n, dx, c, v, ex, rfl, h0, h1, hv, k⟩ := h
  have c_is_row_names : Cal P w K mg base 1 "is_row_names" (spRow K) := ok_is_row_names T
  have sc := sc_Names_are_constants
  have hu := hu_of hr
  refine ⟨_, (pss_cons (ps_if (PW.pt (pw_or (pt_not (pt_val (pc c_is_row_names hr (by decide) (pa_cons (pv 1) pa_nil)))) (pw_or1 (pt_cmpR op_ne (pb call_len T.b_len v_len (pa_cons (pv 1) pa_nil)) (pv 2) (nomark _))))) (pss_one (ps_ret pe_bl)) pss_nil)
      (pss_one (ps_ret (pb (cr_all rfl) T.b_all v_all (pa_cons (pe_lc (te := tAndV (tCB (rIsi K) (tCons (tVar 3) (tCons (tC (.ty "str")) tNil))) (tOp (rIn K false) (tVar 3) (tFld K (tVar 0) "constants"))) (own := [("thing", 3)]) (g := gName 3) (tt := tYes) rfl sc.nd (pi_tup (pv 1)) (blkOk_by (N := ["self", "things", "number", "thing"]) (sc := defScope s_Names_are_constants) (by decide +kernel)) (fun _ _ _ _ _ => (pgn 3 sc.nd)) (fun _ _ _ _ _ => pts_nil) (fun _ _ _ _ _ => (pe_and (pb call_isi T.b_isinstance v_isinstance (pa_cons (pv 3) (pa_cons (p_ty T.b_str v_str) pa_nil))) (pe_one (pe_cmpR op_in_seq (pv 3) (pe_fld (pv 0) rfl) (by rfl)))))) pa_nil))))), ?_⟩
  refine ⟨_, rfl, _, .tuple [.str "b", .str "a"], rfl, .tup hv (dpAll_strs ["b", "a"]), fun H1 s1 => ⟨_, rfl, iteF ?_⟩⟩
  refine ⟨_, rfl, _, _, rfl, .inr ⟨_, s1.tup hv, rfl⟩, _, rfl, rfl, _, rfl, iteF ?_⟩
  refine ⟨_, rfl, v, rfl, ⟨_, s1.tup hv⟩, fun D hD => ?_⟩
  refine lc_map (walk_tup (xs := ([("b" : Str), "a"]).map V.str)) hD (by show 2 ≤ 100000; omega) (fun _ => .bl true) (fun H2 s2 => s2.tup (s1.tup hv)) ?_ ?_
  · rintro i x H2 H3 hi s2 ⟨rfl, hx⟩ R kR
    have s3 := s1.trans s2
    have key : ∃ y : Str, x = .str y ∧ inV (.str y) [.str "a", .str "b"] = true := by
      match i, hx with
      | 0, hx => cases hx; exact ⟨"b", rfl, rfl⟩
      | 1, hx => cases hx; exact ⟨"a", rfl, rfl⟩
      | i + 2, hx => cases hx
    obtain ⟨y, rfl, hy⟩ := key
    refine ⟨rfl, _, rfl, _, _, _, _, _, rfl, .ty _, .base (.str _), kt_str_str, _, rfl, iteT ?_⟩
    refine ⟨_, rfl, _, rfl, _, _, dx, _, _, rfl, s3 _ _ h0, T.c_Names, T.n_Names_constants, rfl, c, _, rfl, .inr (SqT.of (s3 _ _ h1)), rfl, rfl, ?_⟩
    rw [if_neg Bool.false_ne_true, hy]
    exact kR _ (Same.refl _)
  · intro H2 s2 hl
    refine ⟨D, [true, true], rfl, SqL.of hl, ?_⟩
    exact k _ (s1.trans (s2.trans hid_in))
theorem sc_Names_checked_pair : FnScope ["self", "thing", "index"] ["self", "thing", "index"] (defScope s_Names_checked_pair) := ⟨rfl, rfl, rfl, by decide +kernel, rfl, by decide +kernel, by decide +kernel⟩
theorem ok_Names_checked_pair (T : Txt K mg) : Met P w K mg base (3) (He.ga K "Names") "checked_pair" (spPair K) := by
  refine met_of T.d_Names_checked_pair T.c_Names T.m_Names_checked_pair sc_Names_checked_pair (fun _ _ _ _ _ _ us hl => match us, hl with | [_, _, _], _ => rfl) (fun vs H Q E h => ?_) (fun cdv A outer s H vs Q E hr h => ?_)
  · obtain ⟨n, dx, c, f, t, d, r, fa, v, at', rfl, h0, h1, hv, k⟩ := h
    rfl
  obtain ⟨n, dx, c, f, t, d, r, fa, v, at', rfl, h0, h1, hv, k⟩ := h
  have c_Names_are_constants := ok_Names_are_constants (P := P) (w := w) (base := base) T
  have sc := sc_Names_checked_pair
  have hu := hu_of hr
  refine ⟨_, (pss_cons (ps_if (PW.pt (pw_or (pt_not (pt_val (pmt c_Names_are_constants hr (by decide) (pv 0) (pa_cons (pv 1) (pa_cons pe_int pa_nil))))) (pw_or1 (pt_cmpR op_eq (pe_ix ix_tup (pv 1) pe_int (fun _ _ => rfl)) (pe_ix ix_tup (pv 1) pe_int (fun _ _ => rfl)) (nomark _))))) (pss_one ps_never) pss_nil)
      (pss_one (ps_ret (pbt call_tuple_of T.b_tuple v_tuple (pa_cons (pv 1) pa_nil))))), ?_⟩
  refine ⟨_, rfl, _, dx, _, rfl, h0, rfl, _, rfl, n, dx, c, v, _, rfl, h0, h1, hv, fun H1 s1 => ⟨_, rfl, iteF ?_⟩⟩
  refine ⟨_, rfl, _, _, _, _, rfl, rfl, s1.tup hv, rfl, _, rfl, _, _, _, _, rfl, rfl, s1.tup hv, rfl, rfl, _, rfl, iteF ?_⟩
  exact ⟨_, rfl, v, _, rfl, .inr ⟨s1.tup hv, k _ s1⟩⟩
def spNmInit (K : PySem.W.Frag) : Sp := fun vs H Q _ => ∃ (n dx cl f0 t0 d0 r0 fl pl p0 : Addr), vs = [.ref n, .ref cl, .ref f0, .ref t0, .ref d0, .ref r0, .ref fl, .ref pl] ∧ H n = some (.ins (He.ga K "Names") dx []) ∧
  hid n H cl = some (.lst [.str "a", .str "b"]) ∧ hid n H f0 = some (.dK dF) ∧ hid n H t0 = some (.dK dT) ∧ hid n H d0 = some (.dK dD) ∧ hid n H r0 = some (.dK []) ∧ hid n H fl = some (.lst []) ∧ hid n H pl = some (.lst [.ref p0]) ∧ SqT K (hid n H) p0 [.str "b", .str "a"] ∧
  ∀ H', Same (hid n H) (hid n H') → NamesAt K H' n → Q .non H'
theorem sc_Names_init : FnScope ["self", "constants", "functions", "tests", "deeds", "rules", "facts", "apart", "at", "thing"] ["self", "constants", "functions", "tests", "deeds", "rules", "facts", "apart"] (defScope s_Names_init) := ⟨rfl, rfl, rfl, by decide +kernel, rfl, by decide +kernel, by decide +kernel⟩
theorem ok_Names_init (T : Txt K mg) : Mak P w K mg base (6) "Names" (He.ga K "Names") (spNmInit K) := by
  refine mak_ofD T.d_Names_init T.k_Names T.g_Names sc_Names_init (List.cons_ne_nil _ _) (fun _ _ _ _ _ _ _ us its hl hi => match us, hl, its, hi with | [_, _, _, _, _, _, _, _], _, [_, _, _, _, _, _, _], _ => ⟨_, rfl, rfl⟩) (fun vs H Q E h => ?_) (fun cdv A outer s H vs Q E hr h => ?_)
  · obtain ⟨n, dx, cl, f0, t0, d0, r0, fl, pl, p0, rfl, o0, h1, h2, h3, h4, h5, h6, h7, h8, k⟩ := h
    rfl
  obtain ⟨n, dx, cl, f0, t0, d0, r0, fl, pl, p0, rfl, o0, h1, h2, h3, h4, h5, h6, h7, h8, k⟩ := h
  have c_Names_check_names := ok_Names_check_names (P := P) (w := w) (base := base) T
  have c_Names_check_numbers := ok_Names_check_numbers (P := P) (w := w) (base := base) T
  have c_Names_check_rules := ok_Names_check_rules (P := P) (w := w) (base := base) T
  have c_Names_checked_pair := ok_Names_checked_pair (P := P) (w := w) (base := base) T
  have c_begun := ok_begun (P := P) (w := w) (base := base) T
  have sc := sc_Names_init
  have hu := hu_of hr
  refine ⟨_, (pss_cons (ps_fld (pv 0) (pbt call_tuple_of T.b_tuple v_tuple (pa_cons (pv 1) pa_nil)) rfl)
      (pss_cons (ps_fld (pv 0) (pbt call_dictD T.b_dict v_dict (pa_cons (pe_orT (pv 2) (pe_one pe_dnewK)) pa_nil)) rfl)
      (pss_cons (ps_fld (pv 0) (pbt call_dictD T.b_dict v_dict (pa_cons (pe_orT (pv 3) (pe_one pe_dnewK)) pa_nil)) rfl)
      (pss_cons (ps_fld (pv 0) (pbt call_dictD T.b_dict v_dict (pa_cons (pe_orT (pv 4) (pe_one pe_dnewK)) pa_nil)) rfl)
      (pss_cons (ps_fld (pv 0) (pbt call_dictD T.b_dict v_dict (pa_cons (pe_orT (pv 5) (pe_one pe_dnewK)) pa_nil)) rfl)
      (pss_cons (ps_expr (pmt0 c_Names_check_names hr (by decide) (pv 0)))
      (pss_cons (ps_expr (pmt0 c_Names_check_numbers hr (by decide) (pv 0)))
      (pss_cons (ps_expr (pmt0 c_Names_check_rules hr (by decide) (pv 0)))
      (pss_cons (ps_fld (pv 0) (pe_lc (own := [("at", 8), ("thing", 9)]) (g := fun _ _ _ _ => False) (tt := fun _ _ _ => False) rfl sc.nd (pi_enum rfl T.b_enumerate (pa_cons (pv 6) pa_nil)) (blkOk_by (N := ["self", "constants", "functions", "tests", "deeds", "rules", "facts", "apart", "at", "thing"]) (sc := defScope s_Names_init) (by decide +kernel)) (fun _ _ _ _ _ => pg_never) (fun _ _ _ _ _ => pts_never) (fun _ _ _ _ _ => pe_never)) rfl)
      (pss_cons (ps_fld (pv 0) (pe_lc (own := [("at", 8), ("thing", 9)]) (g := gTup K 2 (gCons (gName 8) (gCons (gName 9) gNil))) (tt := tYes) rfl sc.nd (pi_enum rfl T.b_enumerate (pa_cons (pv 7) pa_nil)) (blkOk_by (N := ["self", "constants", "functions", "tests", "deeds", "rules", "facts", "apart", "at", "thing"]) (sc := defScope s_Names_init) (by decide +kernel)) (fun _ _ _ _ _ => (pg_tup rfl (pgs_cons (pgn 8 sc.nd) (pgs_cons (pgn 9 sc.nd) pgs_nil)))) (fun _ _ _ _ _ => pts_nil) (fun _ _ _ _ _ => (pmt c_Names_checked_pair hr (by decide) (pv 0) (pa_cons (pv 9) (pa_cons (pv 8) pa_nil))))) rfl)
      (pss_one (ps_if (pt_cmpR op_isN (pe_ix ix_tup (pc c_begun hr (by decide) (pa_cons (pv 0) pa_nil)) pe_int (fun _ _ => rfl)) pe_non (nomark _)) (pss_one ps_never) pss_nil)))))))))))), ?_⟩
  have hH0 : H = H := rfl
  generalize hH0 : H = H0 at o0 h1 h2 h3 h4 h5 h6 h7 h8 k ⊢
  refine ⟨_, rfl, cl, _, rfl, .inl ⟨SqL.of (hid_in _ _ h1), fun c e0 => ?_⟩⟩
  refine ⟨_, rfl, n, _, dx, _, rfl, (upd_ne (Ne.symm (nh o0 e0))).trans o0, T.c_Names, T.n_Names_constants, (by show 0 < 1000; omega), ?_⟩
  generalize hH1 : upd (upd H0 c (.tup [.str "a", .str "b"])) n _ = H1
  obtain ⟨m0, q0⟩ : Same (hid n H0) (hid n H1) ∧ hid n H1 c = some (.tup [.str "a", .str "b"]) := by rw [← hH1]; exact fld_step o0 e0
  have o1 : H1 n = some (.ins (He.ga K "Names") dx [("constants", .ref c)]) := by rw [← hH1]; exact upd_same
  refine ⟨_, rfl, _, .inr (.inr ⟨_, hid_in _ _ (m0 _ _ h2), rfl⟩), iteT ⟨f0, dF, rfl, .inl (hid_in _ _ (m0 _ _ h2)), fun f e1 => ?_⟩⟩
  refine ⟨_, rfl, n, _, dx, _, rfl, (upd_ne (Ne.symm (nh o1 e1))).trans o1, T.c_Names, T.n_Names_some_functions, (by show 1 < 1000; omega), ?_⟩
  generalize hH2 : upd (upd H1 f (.dK dF)) n _ = H2
  obtain ⟨m1, q1⟩ : Same (hid n H1) (hid n H2) ∧ hid n H2 f = some (.dK dF) := by rw [← hH2]; exact fld_step o1 e1
  have o2 : H2 n = some (.ins (He.ga K "Names") dx [("constants", .ref c), ("some_functions", .ref f)]) := by rw [← hH2]; exact upd_same
  refine ⟨_, rfl, _, .inr (.inr ⟨_, hid_in _ _ (m1 _ _ (m0 _ _ h3)), rfl⟩), iteT ⟨t0, dT, rfl, .inl (hid_in _ _ (m1 _ _ (m0 _ _ h3))), fun t e2 => ?_⟩⟩
  refine ⟨_, rfl, n, _, dx, _, rfl, (upd_ne (Ne.symm (nh o2 e2))).trans o2, T.c_Names, T.n_Names_some_tests, (by show 2 < 1000; omega), ?_⟩
  generalize hH3 : upd (upd H2 t (.dK dT)) n _ = H3
  obtain ⟨m2, q2⟩ : Same (hid n H2) (hid n H3) ∧ hid n H3 t = some (.dK dT) := by rw [← hH3]; exact fld_step o2 e2
  have o3 : H3 n = some (.ins (He.ga K "Names") dx [("constants", .ref c), ("some_functions", .ref f), ("some_tests", .ref t)]) := by rw [← hH3]; exact upd_same
  refine ⟨_, rfl, _, .inr (.inr ⟨_, hid_in _ _ (m2 _ _ (m1 _ _ (m0 _ _ h4))), rfl⟩), iteT ⟨d0, dD, rfl, .inl (hid_in _ _ (m2 _ _ (m1 _ _ (m0 _ _ h4)))), fun d e3 => ?_⟩⟩
  refine ⟨_, rfl, n, _, dx, _, rfl, (upd_ne (Ne.symm (nh o3 e3))).trans o3, T.c_Names, T.n_Names_some_deeds, (by show 3 < 1000; omega), ?_⟩
  generalize hH4 : upd (upd H3 d (.dK dD)) n _ = H4
  obtain ⟨m3, q3⟩ : Same (hid n H3) (hid n H4) ∧ hid n H4 d = some (.dK dD) := by rw [← hH4]; exact fld_step o3 e3
  have o4 : H4 n = some (.ins (He.ga K "Names") dx [("constants", .ref c), ("some_functions", .ref f), ("some_tests", .ref t), ("some_deeds", .ref d)]) := by rw [← hH4]; exact upd_same
  refine ⟨_, rfl, _, .inr (.inr ⟨_, hid_in _ _ (m3 _ _ (m2 _ _ (m1 _ _ (m0 _ _ h5)))), rfl⟩), iteF (fun ru er => ?_)⟩
  have sR := Same.new (o := .dK []) er
  have oR := sR _ _ o4
  refine ⟨ru, [], rfl, .inl upd_same, fun r e4' => ?_⟩
  generalize hHR : upd H4 ru (.dK []) = HR at *
  refine ⟨_, rfl, n, _, dx, _, rfl, (upd_ne (Ne.symm (nh oR e4'))).trans oR, T.c_Names, T.n_Names_some_rules, (by show 4 < 1000; omega), ?_⟩
  generalize hH5 : upd (upd HR r (.dK [])) n _ = H5
  obtain ⟨tR, q4⟩ : Same (hid n HR) (hid n H5) ∧ hid n H5 r = some (.dK []) := by rw [← hH5]; exact fld_step oR e4'
  have m4 : Same (hid n H4) (hid n H5) := sR.hid.trans tR
  have o5 : H5 n = some (.ins (He.ga K "Names") dx [("constants", .ref c), ("some_functions", .ref f), ("some_tests", .ref t), ("some_deeds", .ref d), ("some_rules", .ref r)]) := by rw [← hH5]; exact upd_same
  have g0 : NamesP K H5 n := ⟨dx, c, f, t, d, r, o5, hid_in _ _ (m4 _ _ (m3 _ _ (m2 _ _ (m1 _ _ q0)))), hid_in _ _ (m4 _ _ (m3 _ _ (m2 _ _ q1))), hid_in _ _ (m4 _ _ (m3 _ _ q2)), hid_in _ _ (m4 _ _ q3), hid_in _ _ q4⟩
  have gn : ∀ X, Same H5 X → NamesP K X n := fun X e => by
    obtain ⟨a1, a2, a3, a4, a5, a6, b1, b2, b3, b4, b5, b6⟩ := g0
    exact ⟨a1, a2, a3, a4, a5, a6, e _ _ b1, e _ _ b2, e _ _ b3, e _ _ b4, e _ _ b5, e _ _ b6⟩
  refine ⟨_, rfl, _, dx, _, rfl, o5, rfl, n, rfl, g0, fun H6 s6 => ?_⟩
  refine ⟨_, rfl, _, dx, _, rfl, s6 _ _ o5, rfl, n, rfl, gn _ s6, fun H7 s7 => ?_⟩
  have s57 := s6.trans s7
  refine ⟨_, rfl, _, dx, _, rfl, s57 _ _ o5, rfl, n, rfl, gn _ s57, fun H8 s8 => ?_⟩
  have s58 := s57.trans s8
  have o8 := s58 _ _ o5
  have t58 : Same (hid n H0) (hid n H8) := ((((m0.trans m1).trans m2).trans m3).trans m4).trans s58.hid
  -- the facts
  refine ⟨_, rfl, fl, [], rfl, SqL.of (hid_in _ _ (t58 _ _ h6)), fun fa efa => ?_⟩
  apply lc_none
  · exact (walk_enum (xs := [])).stops _ (SqL.of ((upd_ne (ne_of_none (hid_in _ _ (t58 _ _ h6)) efa)).trans (hid_in _ _ (t58 _ _ h6))))
  refine ⟨_, rfl, n, _, dx, _, rfl, (upd_ne (Ne.symm (nh o8 efa))).trans o8, T.c_Names, T.n_Names_some_facts, (by show 5 < 1000; omega), ?_⟩
  generalize hH9 : upd (upd H8 fa (.lst [])) n _ = H9
  obtain ⟨t9, q9⟩ : Same (hid n H8) (hid n H9) ∧ hid n H9 fa = some (.lst []) := by rw [← hH9]; exact fld_step o8 efa
  have o9 : H9 n = some (.ins (He.ga K "Names") dx [("constants", .ref c), ("some_functions", .ref f), ("some_tests", .ref t), ("some_deeds", .ref d), ("some_rules", .ref r), ("some_facts", .ref fa)]) := by rw [← hH9]; exact upd_same
  have m09 := t58.trans t9
  have m59 : Same (hid n H5) (hid n H9) := s58.hid.trans t9
  -- the pairs
  refine ⟨_, rfl, pl, [.ref p0], rfl, SqL.of (hid_in _ _ (m09 _ _ h7)), fun pa epa => ?_⟩
  have npa : pa ≠ n := nh o9 epa
  have c9 := hid_in _ _ (m59 _ _ (m4 _ _ (m3 _ _ (m2 _ _ (m1 _ _ q0)))))
  refine lc_map (walk_enum (xs := [.ref p0])) epa (by show 1 ≤ 100000; omega) (fun _ => .ref p0) (fun X e => e.seq (SqL.of (hid_in _ _ (m09 _ _ h7)))) ?_ ?_
  · rintro i v X X' hi e9 ⟨T1, a1, a2, rfl, hT1, rfl, ha1, ha2⟩ R kR
    cases ha1
    have ha2' : a2 = .ref p0 := by
      match i, ha2 with
      | 0, ha2 => cases ha2; rfl
      | i + 1, ha2 => cases ha2
    subst ha2'
    have eX := e9.trans (Same.new (o := .tup [.int (i : Nat), .ref p0]) hT1)
    refine ⟨T1, _, rfl, SqT.of upd_same, rfl, _, _, rfl, _, _, rfl, rfl, rfl, ?_⟩
    exact ⟨_, rfl, _, dx, _, rfl, eX _ _ o9, rfl, _, rfl, _, rfl, n, dx, c, f, t, d, r, fa, p0, _, rfl, eX _ _ o9, eX _ _ c9, eX.tup (hid_in.tup (m09.tup h8)), fun X2 e2 => kR X2 ((Same.new hT1).trans e2)⟩
  intro H10 s10 hpa
  have s10' := s10.trans hid_in
  have o10 := s10' _ _ o9
  refine ⟨_, rfl, n, _, dx, _, rfl, o10, T.c_Names, T.n_Names_some_pairs, (by show 6 < 1000; omega), ?_⟩
  generalize hH11 : upd H10 n _ = H11
  have o11 : H11 n = some (.ins (He.ga K "Names") dx [("constants", .ref c), ("some_functions", .ref f), ("some_tests", .ref t), ("some_deeds", .ref d), ("some_rules", .ref r), ("some_facts", .ref fa), ("some_pairs", .ref pa)]) := by rw [← hH11]; exact upd_same
  have m11 : Same (hid n H9) (hid n H11) := by
    rw [← hH11, hid_upd]
    exact s10'.hid
  have qpa : H11 pa = some (.lst [.ref p0]) := by
    rw [← hH11, upd_ne npa]
    exact hpa
  have t011 := m09.trans m11
  have u := m59.trans m11
  have nm : NamesAt K H11 n := ⟨dx, c, f, t, d, r, fa, pa, p0, o11, hid_in _ _ (u _ _ (m4 _ _ (m3 _ _ (m2 _ _ (m1 _ _ q0))))), hid_in _ _ (u _ _ (m4 _ _ (m3 _ _ (m2 _ _ q1)))), hid_in _ _ (u _ _ (m4 _ _ (m3 _ _ q2))), hid_in _ _ (u _ _ (m4 _ _ q3)), hid_in _ _ (u _ _ q4), hid_in _ _ (m11 _ _ q9), qpa, hid_in.tup (t011.tup h8)⟩
  refine ⟨_, rfl, n, rfl, nm, fun H12 tp S vd s12 htp => ⟨tp, _, _, _, rfl, rfl, SqT.of htp, rfl, rfl, _, rfl, iteF ?_⟩⟩
  exact k _ (t011.trans s12.hid) (nm.up s12)
end
end K21
set_option Elab.async false
set_option linter.all false
set_option maxRecDepth 100000
set_option maxHeartbeats 1000000
namespace K21
open PySem PySem.Spec PyProof.Rows L2
/-! ### spare names -/
def chS (c : Nat) : Str := ⟨#[c]⟩
def lets : List Nat := letters.cps.toList
def inner (us : List Str) (f : Str) : List Str := (lets.map fun c => f ++ chS c).filter fun x => !us.contains x
def spSpare (K : PySem.W.Frag) : Sp := fun vs H Q _ => ∃ (a : Addr) (us : List Str) (m : Nat), vs = [.ref a, .int m] ∧ H a = some (.lst (us.map V.str)) ∧ (∀ x ∈ spares, us.contains x = false) ∧ m ≤ 5 ∧ ∀ l H', Same H H' → H l = none → H' l = some (.lst ((spares.take m).map V.str)) → Q (.ref l) H'
theorem inner_len (us : List Str) (f : Str) : (inner us f).length ≤ 26 := by
  unfold inner
  refine Nat.le_trans (List.length_filter_le _ _) ?_
  rw [List.length_map]
  decide
theorem inner_p {us : List Str} (h : ∀ x ∈ spares, us.contains x = false) : (inner us (chS 112)).take 5 = spares := by
  have e : (lets.map fun c => chS 112 ++ chS c) = ("pa" : Str) :: ("pb" : Str) :: ("pc" : Str) :: ("pd" : Str) :: ("pe" : Str) :: (lets.drop 5).map fun c => chS 112 ++ chS c := by decide +kernel
  unfold inner
  have g := fun (x : Str) (hx : x ∈ spares) => h x hx
  have p1 : (!us.contains ("pa" : Str)) = true := by rw [g "pa" (by decide)]; rfl
  have p2 : (!us.contains ("pb" : Str)) = true := by rw [g "pb" (by decide)]; rfl
  have p3 : (!us.contains ("pc" : Str)) = true := by rw [g "pc" (by decide)]; rfl
  have p4 : (!us.contains ("pd" : Str)) = true := by rw [g "pd" (by decide)]; rfl
  have p5 : (!us.contains ("pe" : Str)) = true := by rw [g "pe" (by decide)]; rfl
  rw [e, List.filter_cons_of_pos (p := fun x => !us.contains x) p1, List.filter_cons_of_pos (p := fun x => !us.contains x) p2, List.filter_cons_of_pos (p := fun x => !us.contains x) p3, List.filter_cons_of_pos (p := fun x => !us.contains x) p4, List.filter_cons_of_pos (p := fun x => !us.contains x) p5]
  rfl
section
variable {P : Program} {w : World} {K : PySem.W.Frag} {mg : Str → Option Value} {base : Heap}
theorem sc_spare_names : FnScope ["used", "many", "found", "first", "letter"] ["used", "many"] (defScope s_spare_names) := ⟨rfl, rfl, rfl, by decide +kernel, rfl, by decide +kernel, by decide +kernel⟩
theorem ok_spare_names (T : Txt K mg) : Cal P w K mg base (1) "spare_names" (spSpare K) := by
  refine cal_of T.d_spare_names T.g_spare_names sc_spare_names (fun _ _ _ _ _ _ us hl => match us, hl with | [_, _], _ => rfl) (fun vs H Q E h => ?_) (fun cdv A outer s H vs Q E hr h => ?_)
  · obtain ⟨a, us, m, rfl, ha, hsp, hm, k⟩ := h
    rfl
  obtain ⟨a, us, m, rfl, ha, hsp, hm, k⟩ := h
  have sc := sc_spare_names
  have hu := hu_of hr
  refine ⟨_, (pss_cons (pset 2 sc.nd (pe_lst pa_nil))
      (pss_cons (ps_for PassesOwn.never rfl (pi_str pe_str) (pgn 3 sc.nd)
        (pss_one (ps_expr (pe_bm PySem.F.plainAttrs_list PySem.F.slot_list_extend PySem.F.type_list_extend mt_extend (pv 2) (pa_cons (pe_lc (own := [("letter", 4)]) (g := gName 4) rfl sc.nd (pi_str (p_str T.t_LETTERS_pipes)) (blkOk_by (N := ["used", "many", "found", "first", "letter"]) (sc := defScope s_spare_names) (by decide +kernel)) (fun _ _ _ _ _ => (pgn 4 sc.nd)) (fun _ _ _ _ _ => pts_one (pt_cmpR (show OpR _ (compareOp .NotIn) (rIn K true) from op_notIn_seq) (pe_op op_add_str (pv 3) (pv 4)) (pv 0) (by rfl))) (fun _ _ _ _ _ => (pe_op op_add_str (pv 3) (pv 4)))) pa_nil)))))
      (pss_one (ps_ret (pe_slice sl_list (pv 2) po_none (po_some (pv 1))))))), ?_⟩
  refine ⟨(by show 0 ≤ sizeLine; decide), fun l e1 => ?_⟩
  have nal : a ≠ l := ne_of_none ha e1
  refine ⟨_, rfl, ?_⟩
  refine for_it walk_str (fun i σ H7 => ∃ (x3 : Option V) (ys : List Str), σ = [some (.ref a), some (.int m), some (.ref l), x3, none] ∧ Same H (hid l H7) ∧ H7 l = some (.lst (ys.map V.str)) ∧ ys.length ≤ 26 * i ∧ (1 ≤ i → ys.take 5 = spares)) ⟨_, [], rfl, ?_, upd_same, Nat.zero_le _, fun h => absurd h (by decide)⟩ (fun _ _ _ _ _ => trivial) ?_ ?_
  · rw [hid_upd]
    exact hid_of e1 (Same.refl _)
  · rintro i x σ H7 H8 hi ⟨x3, ys, rfl, s7, l7, n7, t7⟩ ⟨rfl, ch, hch, rfl⟩
    have hi2 : i < 11 := hi
    refine ⟨_, rfl, .inl ⟨rfl, _, SqL.of l7⟩, ?_⟩
    refine ⟨_, rfl, fun D hD => ?_⟩
    have nDl : D ≠ l := nh l7 hD
    refine lc_it walk_str (fun j H9 => Same H8 (hid D H9) ∧ H9 D = some (.lst ((((lets.take j).map fun c => chS ch ++ chS c).filter fun x => !us.contains x).map V.str))) ⟨?_, upd_same⟩ (fun _ _ _ _ => trivial) ?_ ?_
    · rw [hid_upd]
      exact hid_of hD (Same.refl _)
    · rintro j y H9 H10 hj ⟨q1, q2⟩ ⟨rfl, c, hc, rfl⟩
      have hj2 : j < 26 := hj
      have u9 := hid_in _ _ (q1 _ _ (hid_in _ _ (s7 _ _ ha)))
      have et : lets.take (j + 1) = lets.take j ++ [c] := by
        rw [List.take_succ, show lets[j]? = some c by rw [← hc]; exact Array.getElem?_toList]
        rfl
      have ll : ∀ z : Nat, z ≤ 2 → z ≤ sizeLine := fun z h => Nat.le_trans h (by decide)
      refine ⟨rfl, _, rfl, _, rfl, chS ch, chS c, rfl, rfl, ll _ (by show 1 + 1 ≤ 2; omega), _, rfl, a, _, rfl, .inl (SqL.of u9), rfl, flat_strs us, _, rfl, ?_⟩
      rw [inV_strs]
      refine ite2 (fun e => ?_) (fun e => ?_)
      · refine ⟨_, rfl, _, rfl, chS ch, chS c, rfl, rfl, ll _ (by show 1 + 1 ≤ 2; omega), _, q2, ?_, ?_, ?_⟩
        · rw [List.length_map]
          refine Nat.lt_of_le_of_lt (List.length_filter_le _ _) ?_
          rw [List.length_map]
          exact Nat.lt_of_le_of_lt (List.length_take_le _ _) (Nat.lt_trans hj2 (by decide))
        · rw [hid_upd]
          exact q1
        · rw [upd_same, et, List.map_append, List.filter_append, List.map_append]
          rw [if_pos rfl] at e
          show _ = some (HO.lst (_ ++ List.map V.str (List.filter _ [chS ch ++ chS c])))
          rw [List.filter_cons_of_pos (p := fun x => !us.contains x) e]
          rfl
      · refine ⟨q1, ?_⟩
        rw [q2, et, List.map_append, List.filter_append, List.map_append]
        rw [if_pos rfl] at e
        show _ = some (HO.lst (_ ++ List.map V.str (List.filter _ [chS ch ++ chS c])))
        rw [List.filter_cons_of_neg (p := fun x => !us.contains x) e]
        simp
    · rintro H9 ⟨q1, q2⟩
      have e26 : lets.take (letters.cps.size) = lets := List.take_length (l := lets)
      have q2' : H9 D = some (.lst ((inner us (chS ch)).map V.str)) := by
        rw [q2]
        show some (HO.lst (List.map V.str (List.filter _ (List.map _ (lets.take (letters.cps.size)))))) = _
        rw [e26]
        rfl
      have l9 := hid_in _ _ (q1 _ _ l7)
      refine ⟨l, D, _, _, rfl, rfl, l9, q2', ?_, _, ys ++ inner us (chS ch), rfl, ?_, ?_, ?_, fun _ => ?_⟩
      · rw [List.length_map, List.length_map]
        have := inner_len us (chS ch)
        exact Nat.le_trans (by omega : ys.length + (inner us (chS ch)).length ≤ 1000) (by decide)
      · rw [hid_upd]
        exact s7.trans ((q1.trans hid_in).hid)
      · rw [upd_same, List.map_append]
      · rw [List.length_append]
        have := inner_len us (chS ch)
        omega
      · by_cases h0 : i = 0
        · subst h0
          have : ys = [] := List.length_eq_zero_iff.mp (by omega)
          subst this
          have ec : ch = 112 := by
            have : (some 112 : Option Nat) = some ch := hch
            exact (Option.some.inj this).symm
          rw [ec, List.nil_append]
          exact inner_p hsp
        · have t := t7 (by omega)
          have hy : 5 ≤ ys.length := by
            have := congrArg List.length t
            rw [List.length_take] at this
            have h5 : spares.length = 5 := rfl
            omega
          rw [List.take_append_of_le_length hy]
          exact t
  · rintro σ H7 ⟨x3, ys, rfl, s7, l7, n7, t7⟩
    refine ⟨_, rfl, _, rfl, _, rfl, l, _, rfl, SqL.of l7, fun p hp => ?_⟩
    have s8 : Same H (upd H7 p (.lst (cutV (ys.map V.str) none (some (m : Int))))) := (s7.trans hid_in).trans (Same.new hp)
    refine k p _ s8 ?_ ?_
    · exact (s7.trans hid_in).free hp
    · rw [upd_same]
      have t := t7 (by decide)
      have hy : 5 ≤ ys.length := by
        have := congrArg List.length t
        rw [List.length_take] at this
        have h5 : spares.length = 5 := rfl
        omega
      have e1 : cutV (ys.map V.str) none (some (m : Int)) = (ys.map V.str).take m := by
        unfold cutV
        rw [HT.sIx_none, HT.sIx_nat, List.drop_zero, List.length_map, Nat.min_eq_left (by omega), Nat.sub_zero]
      have e2 : (ys.map V.str).take m = (spares.take m).map V.str := by
        rw [← List.map_take, ← t, List.take_take, Nat.min_eq_left hm]
      rw [e1, e2]
end
end K21
set_option Elab.async false
set_option linter.all false
set_option maxRecDepth 100000
set_option maxHeartbeats 1000000
namespace K21
open PySem PySem.Spec PyProof.Rows L2
theorem catA_any {K : PySem.W.Frag} {H : Hp} {a b : Addr} {xs ys : List V} {Q : VK} (ha : SqT K H a xs) (hb : SqT K H b ys) (hl : xs.length + ys.length ≤ sizeLine) (k : ∀ r H', Same H H' → SqT K H' r (xs ++ ys) → Q (.ref r) H') : rCatA K (.ref a) (.ref b) H Q := by
  refine ⟨a, b, xs, ys, rfl, rfl, ha, hb, hl, fun e => ?_, fun e1 e2 => ?_, fun e1 e2 p hp => ?_⟩
  · subst e
    exact k b H (Same.refl H) hb
  · subst e2
    rw [List.append_nil] at k
    exact k a H (Same.refl H) ha
  · exact k p _ (Same.new hp) (SqT.of upd_same)
def Stm.word : Stm → Str
  | .put _ _ => "put"
  | .call _ _ _ => "call"
  | .act _ _ _ => "do"
  | .leave => "leave"
  | .ite _ _ _ => "if"
theorem enc_word (b : Bool) (s : Stm) : ∃ rest, enc b s = .tuple (.str s.word :: rest) := by
  cases s <;> (rw [enc]; exact ⟨_, rfl⟩)
def spLeaves (K : PySem.W.Frag) (c : Bool) (n : Nat) : Sp := fun vs H Q _ => ∃ (v : V) (ss : List Stm) (pl : Addr) (ps : List V), vs = [v, .ref pl] ∧ Dp K H v (sqD c (encL false ss)) ∧ SqT K H pl ps ∧ ps.length + 2 * n ≤ 500 ∧ deps ss ≤ n ∧ nLs ss ≤ 1000 ∧
  ∀ H' l xs, Same H H' → H l = none → H' l = some (.lst xs) → xs.length = nLs ss → Q (.ref l) H'
def spLeavesO (K : PySem.W.Frag) (c : Bool) : Nat → Sp
  | 0 => fun _ _ _ _ => False
  | n + 1 => spLeaves K c n
theorem nL_plain {s : Stm} (h1 : s.word ≠ "leave") (h2 : s.word ≠ "if") : s.nL = 0 := by
  cases s with
  | put x y => simp [Stm.nL]
  | call x f ys => simp [Stm.nL]
  | act x d ys => simp [Stm.nL]
  | leave => exact absurd rfl h1
  | ite t a b => exact absurd rfl h2
section
variable {P : Program} {w : World} {K : PySem.W.Frag} {mg : Str → Option Value} {base : Heap}
theorem sc_leaves_at : FnScope ["statements", "place", "found", "at", "thing"] ["statements", "place"] (defScope s_leaves_at) := ⟨rfl, rfl, rfl, by decide +kernel, rfl, by decide +kernel, by decide +kernel⟩
theorem ok_leaves_at (T : Txt K mg) : ∀ (c : Bool) (n : Nat), (∀ c, Cal P w K mg base (n + 1) "leaves_at" (spLeavesO K c n)) → Cal P w K mg base (n+2) "leaves_at" (spLeaves K c n) := by
  intro c n
  intro c_leaves_at0
  have c_leaves_at := c_leaves_at0 false
  refine cal_of T.d_leaves_at T.g_leaves_at sc_leaves_at (fun _ _ _ _ _ _ us hl => match us, hl with | [_, _], _ => rfl) (fun vs H Q E h => ?_) (fun cdv A outer s H vs Q E hr h => ?_)
  · obtain ⟨v, ss, pl, ps, rfl, hd, hpl, hps, hdep, hnl, k⟩ := h
    rfl
  obtain ⟨v, ss, pl, ps, rfl, hd, hpl, hps, hdep, hnl, k⟩ := h
  have sc := sc_leaves_at
  have hu := hu_of hr
  refine ⟨_, (pss_cons (pset 2 sc.nd (pe_lst pa_nil))
      (pss_cons (ps_for PassesOwn.never rfl (pi_enumQ rfl T.b_enumerate (pa_cons (pv 0) pa_nil)) (pg_tup rfl (pgs_cons (pgn 3 sc.nd) (pgs_cons (pgn 4 sc.nd) pgs_nil)))
        (pss_cons (ps_if (pt_cmpR op_eq (pe_ix ix_tup (pv 4) pe_int (fun _ _ => rfl)) pe_str (nomark _)) (pss_one (ps_expr (pe_bm PySem.F.plainAttrs_list PySem.F.slot_list_append PySem.F.type_list_append mt_append (pv 2) (pa_cons (pe_op op_catA (pv 1) (pe_tup (pa_cons (pv 3) pa_nil))) pa_nil)))) pss_nil)
        (pss_one (ps_if (pt_cmpR op_eq (pe_ix ix_tup (pv 4) pe_int (fun _ _ => rfl)) pe_str (nomark _)) (pss_one (ps_expr (pe_bm PySem.F.plainAttrs_list PySem.F.slot_list_extend PySem.F.type_list_extend mt_extend (pv 2) (pa_cons (pe_op op_cat (pc c_leaves_at hr (by omega) (pa_cons (pe_ix ix_tup (pv 4) pe_int (fun _ _ => rfl)) (pa_cons (pe_op op_catA (pv 1) (pe_tup (pa_cons (pv 3) (pa_cons pe_str pa_nil)))) pa_nil))) (pc c_leaves_at hr (by omega) (pa_cons (pe_ix ix_tup (pv 4) pe_int (fun _ _ => rfl)) (pa_cons (pe_op op_catA (pv 1) (pe_tup (pa_cons (pv 3) (pa_cons pe_str pa_nil)))) pa_nil)))) pa_nil)))) pss_nil))))
      (pss_one (ps_ret (pv 2))))), ?_⟩
  obtain ⟨a, xs, rfl, hseq, hxs⟩ := sqD_row hd
  have hlen : xs.length = ss.length := by rw [dpa_len hxs, encL_map, List.length_map]
  refine ⟨(by show 0 ≤ sizeLine; decide), fun l e1 => ?_⟩
  refine ⟨_, rfl, ?_⟩
  have s1 : Same H (hid l (upd H l (.lst []))) := by
    rw [hid_upd]
    exact hid_of e1 (Same.refl _)
  rcases hseq with h5 | h5
  all_goals
    first
    | refine ⟨a, rfl, .inl ⟨⟨xs, (s1.trans hid_in).seq h5⟩, for_it walk_enum (fun i σ H7 => ∃ (x3 x4 : Option V) (zs : List V), σ = [some (.ref a), some (.ref pl), some (.ref l), x3, x4] ∧ Same H (hid l H7) ∧ H7 l = some (.lst zs) ∧ zs.length + nLs (ss.drop i) = nLs ss ∧ deps (ss.drop i) ≤ n) ⟨_, _, [], rfl, s1, upd_same, by simp, hdep⟩ (fun i σ H7 _ ⟨_, _, _, _, s7, _⟩ => (s7.trans hid_in).seq h5) ?_ ?_⟩⟩
    | refine ⟨a, rfl, .inr ⟨⟨xs, (s1.trans hid_in).tup h5⟩, for_it walk_enumT (fun i σ H7 => ∃ (x3 x4 : Option V) (zs : List V), σ = [some (.ref a), some (.ref pl), some (.ref l), x3, x4] ∧ Same H (hid l H7) ∧ H7 l = some (.lst zs) ∧ zs.length + nLs (ss.drop i) = nLs ss ∧ deps (ss.drop i) ≤ n) ⟨_, _, [], rfl, s1, upd_same, by simp, hdep⟩ (fun i σ H7 _ ⟨_, _, _, _, s7, _⟩ => (s7.trans hid_in).tup h5) ?_ ?_⟩⟩
    · rintro i x9 σ H7 H8 hi ⟨x3, x4, zs, rfl, s7, l7, n7, d7⟩ ⟨T1, y1, y2, rfl, hT, rfl, hy1, hy2⟩
      cases hy1
      rw [hlen] at hi
      have ed : ss.drop i = ss[i] :: ss.drop (i + 1) := List.drop_eq_getElem_cons hi
      rw [ed, nLs_cons] at n7
      rw [ed, deps_cons] at d7
      have hyd0 : Dp K H y2 (enc false ss[i]) := dpAll_at hxs hy2 (by rw [encL_map, List.getElem?_map, List.getElem?_eq_getElem hi]; rfl)
      have s8 : Same H7 (upd H7 T1 (.tup [.int (i : Nat), y2])) := Same.new hT
      have h8 : Same H (hid l (upd H7 T1 (.tup [.int (i : Nat), y2]))) := s7.trans s8.hid
      have l8 := s8 _ _ l7
      refine ⟨T1, _, rfl, SqT.of upd_same, rfl, _, _, rfl, _, _, rfl, rfl, ?_⟩
      generalize upd H7 T1 (.tup [.int (i : Nat), y2]) = H8 at *
      generalize hst : ss[i] = st at *
      obtain ⟨rest, hw⟩ := enc_word false st
      have hh := hyd0
      rw [hw] at hh
      obtain ⟨ya, ys, rfl, hya, hys⟩ := dp_tup hh
      obtain ⟨yr, rfl, hyr⟩ := dpa_str hys
      refine ⟨_, rfl, _, _, _, _, rfl, rfl, (h8.trans hid_in).tup hya, atI_nat (j := 0) rfl, rfl, _, rfl, ?_⟩
      have lz : zs.length ≤ 1000 := by omega
      by_cases c1 : st.word = "leave"
      · have est : st = .leave := by
          cases st with
          | leave => rfl
          | put x y => cases c1
          | call x f ys => cases c1
          | act x d ys => cases c1
          | ite t a b => cases c1
        subst est
        refine iteT ?_
        refine ⟨_, rfl, .inl ⟨rfl, _, SqL.of l8⟩, _, rfl, _, rfl, (by show 1 ≤ sizeLine; decide), fun p1 e2 => ?_⟩
        have s9 := Same.new (o := .tup [.int (i : Nat)]) e2
        refine catA_any (s9.tup (hid_in.tup (h8.tup hpl))) (SqT.of upd_same) ?_ fun r H9 s10 _ => ?_
        · show ps.length + 1 ≤ sizeLine
          exact Nat.le_trans (by omega : ps.length + 1 ≤ 1000) (by decide)
        have s11 := s9.trans s10
        have l9 := s11 _ _ l8
        have en : Stm.leave.nL = 1 := by simp [Stm.nL]
        refine ⟨l, _, _, rfl, rfl, l9, Nat.lt_of_le_of_lt lz (by decide), ?_⟩
        have h12 : Same H (hid l (upd H9 l (.lst (zs ++ [.ref r])))) := by
          rw [hid_upd]
          exact h8.trans s11.hid
        refine ⟨_, rfl, _, _, _, _, rfl, rfl, (h12.trans hid_in).tup hya, atI_nat (j := 0) rfl, rfl, _, rfl, iteF ?_⟩
        refine ⟨_, _, _, rfl, h12, upd_same, ?_, by omega⟩
        rw [List.length_append]
        show zs.length + 1 + _ = _
        omega
      · rw [decide_eq_false (fun z => c1 (V.str.inj z))]
        refine iteF ?_
        refine ⟨_, rfl, _, _, _, _, rfl, rfl, (h8.trans hid_in).tup hya, atI_nat (j := 0) rfl, rfl, _, rfl, ?_⟩
        by_cases c2 : st.word = "if"
        · obtain ⟨t, u1, z1, rfl⟩ : ∃ t u z, st = .ite t u z := by
            cases st with
            | ite t a b => exact ⟨_, _, _, rfl⟩
            | put x y => cases c2
            | call x f ys => cases c2
            | act x d ys => cases c2
            | leave => cases c2
          rw [dep_ite] at d7
          rw [nL_ite] at n7
          obtain ⟨m, rfl⟩ : ∃ m, n = m + 1 := ⟨n - 1, by omega⟩
          refine iteT ?_
          rw [enc] at hw
          cases hw
          obtain ⟨tv, r2, rfl, htv, hr2⟩ := dpa_cons hyr
          obtain ⟨xv, r3, rfl, hxv, hr3⟩ := dpa_cons hr2
          obtain ⟨yv, r4, rfl, hyv, hr4⟩ := dpa_cons hr3
          cases hr4
          refine ⟨_, rfl, .inl ⟨rfl, _, SqL.of l8⟩, ?_⟩
          refine ⟨_, rfl, _, _, _, _, rfl, rfl, (h8.trans hid_in).tup hya, rfl, _, rfl, _, rfl, (by show 2 ≤ sizeLine; decide), fun p1 e2 => ?_⟩
          have s9 := Same.new (o := .tup [.int (i : Nat), .str "then"]) e2
          refine catA_any (s9.tup (hid_in.tup (h8.tup hpl))) (SqT.of upd_same) ?_ fun r H9 s10 hr => ?_
          · show ps.length + 2 ≤ sizeLine
            exact Nat.le_trans (by omega : ps.length + 2 ≤ 1000) (by decide)
          have h9 := h8.trans (s9.trans s10).hid
          refine ⟨xv, u1, r, _, rfl, hxv.up (h9.trans hid_in), hr, ?_, by omega, by omega, fun H10 l1 xs1 q10 e10 a10 b10 => ?_⟩
          · rw [List.length_append]
            show ps.length + 2 + 2 * m ≤ 500
            omega
          have h10 := h9.trans q10.hid
          have l10 := q10 _ _ ((s9.trans s10) _ _ l8)
          refine ⟨_, rfl, _, _, _, _, rfl, rfl, (h10.trans hid_in).tup hya, rfl, _, rfl, _, rfl, (by show 2 ≤ sizeLine; decide), fun p3 e3 => ?_⟩
          have s11 := Same.new (o := .tup [.int (i : Nat), .str "else"]) e3
          refine catA_any (s11.tup (hid_in.tup (h10.tup hpl))) (SqT.of upd_same) ?_ fun r' H12 s12 hr' => ?_
          · show ps.length + 2 ≤ sizeLine
            exact Nat.le_trans (by omega : ps.length + 2 ≤ 1000) (by decide)
          have h12 := h10.trans (s11.trans s12).hid
          refine ⟨yv, z1, r', _, rfl, hyv.up (h12.trans hid_in), hr', ?_, by omega, by omega, fun H13 l2 xs2 q13 e13 a13 b13 => ?_⟩
          · rw [List.length_append]
            show ps.length + 2 + 2 * m ≤ 500
            omega
          have h13 := h12.trans q13.hid
          have s1013 := (s11.trans s12).trans q13
          have l13 := s1013 _ _ l10
          refine ⟨l1, l2, xs1, xs2, rfl, rfl, s1013 _ _ a10, a13, Nat.le_trans (by omega : xs1.length + xs2.length ≤ 1000) (by decide), fun p5 e5 => ?_⟩
          have s14 := Same.new (o := .lst (xs1 ++ xs2)) e5
          refine ⟨l, p5, zs, xs1 ++ xs2, rfl, rfl, s14 _ _ l13, upd_same, ?_, _, _, _, rfl, ?_, upd_same, ?_, by omega⟩
          · rw [List.length_append]
            exact Nat.le_trans (by omega : zs.length + (xs1.length + xs2.length) ≤ 1000) (by decide)
          · rw [hid_upd]
            exact h13.trans s14.hid
          · rw [List.length_append, List.length_append]
            omega
        · rw [decide_eq_false (fun z => c2 (V.str.inj z))]
          have e0 := nL_plain c1 c2
          exact iteF ⟨_, _, zs, rfl, h8, l8, by omega, by omega⟩
    · rintro σ H7 ⟨x3, x4, zs, rfl, s7, l7, n7, d7⟩
      rw [hlen, List.drop_length, nLs] at n7
      exact ⟨_, rfl, k _ l zs (s7.trans hid_in) e1 l7 (by omega)⟩
theorem ok_leaves (T : Txt K mg) (n : Nat) : ∀ c : Bool, Cal P w K mg base (n + 2) "leaves_at" (spLeaves K c n) := by
  induction n with
  | zero =>
    intro c
    refine ok_leaves_at T c 0 fun c => ?_
    exact cal_of T.d_leaves_at T.g_leaves_at sc_leaves_at (fun _ _ _ _ _ _ us hl => match us, hl with | [_, _], _ => rfl) (fun vs H Q E h => h.elim) (fun cdv A outer s H vs Q E hr h => h.elim)
  | succ n ih =>
    intro c
    exact ok_leaves_at T c (n + 1) fun c => ih c
end
end K21
set_option Elab.async false
set_option linter.all false
set_option maxRecDepth 100000
set_option maxHeartbeats 1000000
namespace K21
open PySem PySem.Spec PyProof.Rows L2
/-! ### a turner -/
def FlagAt (K : PySem.W.Frag) (H : Hp) (v : V) (f : Option Str) : Prop := match f with
  | none => v = .non
  | some f => ∃ a, v = .ref a ∧ SqT K H a [.str f, .str "b", .str "a"]
def renK (ren : List (Str × Str)) : List (Key × V) := ren.map fun p => (.inr p.1, .str p.2)
def TurnAt (K : PySem.W.Frag) (H : Hp) (t : Addr) (τ : Tn) : Prop := ∃ (dx d : Addr) (vf : V), H t = some (.ins (He.ga K "Turner") dx [("turned", .ref d), ("spot", .str "item"), ("flag", vf)]) ∧ H d = some (.dK (renK τ.ren)) ∧ FlagAt K H vf τ.flag
theorem FlagAt.up {K : PySem.W.Frag} {H H' : Hp} {v : V} {f : Option Str} (h : FlagAt K H v f) (e : Same H H') : FlagAt K H' v f := by
  cases f with
  | none => exact h
  | some f =>
    obtain ⟨a, h1, h2⟩ := h
    exact ⟨a, h1, e.tup h2⟩
theorem TurnAt.up {K : PySem.W.Frag} {H H' : Hp} {t : Addr} {τ : Tn} (h : TurnAt K H t τ) (e : Same H H') : TurnAt K H' t τ := by
  obtain ⟨dx, d, vf, h1, h2, h3⟩ := h
  exact ⟨dx, d, vf, e _ _ h1, e _ _ h2, h3.up e⟩
theorem valV_ren (x : Str) : ∀ ren : List (Str × Str), valV (renK ren) (.inr x) = (ren.lookup x).map V.str
  | [] => rfl
  | (a, b) :: r => by
    have ih := valV_ren x r
    unfold valV renK at ih ⊢
    rw [List.map_cons, List.find?_cons, List.lookup_cons]
    by_cases e : a = x
    · subst e
      simp
    · have e1 : (decide ((Sum.inr a : Key) = .inr x)) = false := decide_eq_false (fun z => e (Sum.inr.inj z))
      have e2 : (x == a) = false := by simpa using fun z => e z.symm
      rw [e1, e2]
      exact ih
theorem slA_any {K : PySem.W.Frag} {H : Hp} {a : Addr} {xs : List V} {lo hi : Option Int} {Q : VK} (ha : SqT K H a xs) (k : ∀ r H', Same H H' → SqT K H' r (cutV xs lo hi) → Q (.ref r) H') : rSlA K (.ref a) lo hi H Q := by
  refine ⟨a, xs, rfl, ha, fun e => k a H (Same.refl H) ?_, fun _ p hp => k p _ (Same.new hp) (SqT.of upd_same)⟩
  have : cutV xs lo hi = xs := by
    unfold cutV
    rw [e.1, e.2, List.drop_zero, Nat.sub_zero, List.take_length]
  rw [this]
  exact ha
theorem cut_from (xs : List V) (k : Nat) (h : k ≤ xs.length) : cutV xs (some (k : Int)) none = xs.drop k := by
  unfold cutV
  rw [HT.sIx_nat, HT.sIx_none, Nat.min_eq_left h]
  exact List.take_of_length_le (by rw [List.length_drop]; omega)
theorem cut_to (xs : List V) (k : Nat) (h : k ≤ xs.length) : cutV xs none (some (k : Int)) = xs.take k := by
  unfold cutV
  rw [HT.sIx_nat, HT.sIx_none, Nat.min_eq_left h, List.drop_zero, Nat.sub_zero]
/-! data without lists does not see a list hidden -/
mutual
def pnl : PyData → Bool
  | .list _ => false
  | .tuple ds => pnlL ds
  | _ => true
def pnlL : List PyData → Bool
  | [] => true
  | d :: r => pnl d && pnlL r
end
theorem pnl_tup (ds : List PyData) : pnl (.tuple ds) = pnlL ds := by simp [pnl]
theorem pnlL_cons (d : PyData) (r : List PyData) : pnlL (d :: r) = (pnl d && pnlL r) := by simp [pnlL]
theorem pnl_strs : ∀ ys : List Str, pnlL (ys.map PyData.str) = true
  | [] => by simp [pnlL]
  | y :: r => by rw [List.map_cons, pnlL_cons, pnl_strs r]; simp [pnl]
theorem pnl_encT (t : Tst) : pnl (encT t) = true := by
  cases t with
  | same y z => simp [encT, pnl, pnlL]
  | ask f ys => simp [encT, pnl, pnlL, pnl_strs]
mutual
theorem pnl_enc : ∀ s : Stm, pnl (enc false s) = true
  | .put x y => by simp [enc, pnl, pnlL]
  | .call x f ys => by simp [enc, pnl, pnlL, pnl_strs]
  | .act x d ys => by cases x <;> simp [enc, optD, pnl, pnlL, pnl_strs]
  | .leave => by simp [enc, pnl, pnlL]
  | .ite t p q => by
    have h1 := pnl_encL p
    have h2 := pnl_encL q
    rw [enc, pnl_tup, pnlL_cons, pnlL_cons, pnlL_cons, pnlL_cons, pnl_encT]
    simp [sqD, pnl, pnlL, h1, h2]
theorem pnl_encL : ∀ ss : List Stm, pnlL (encL false ss) = true
  | [] => by simp [encL, pnlL]
  | s :: r => by rw [encL_cons, pnlL_cons, pnl_enc s, pnl_encL r]; rfl
end
theorem sqT_hid {K : PySem.W.Frag} {H : Hp} {l a : Addr} {ys xs : List V} (hl : H l = some (.lst ys)) (h : SqT K H a xs) : SqT K (hid l H) a xs := by
  rcases h with (h | ⟨o, h⟩) | h
  · refine .inl (.inl ?_)
    rw [hid_ne (fun z => by rw [z, hl] at h; cases h)]
    exact h
  · refine .inl (.inr ⟨o, ?_⟩)
    rw [hid_ne (fun z => by rw [z, hl] at h; cases h)]
    exact h
  · exact .inr h
mutual
theorem dp_hid {K : PySem.W.Frag} {H : Hp} {l : Addr} {ys : List V} (hl : H l = some (.lst ys)) : ∀ (d : PyData) (v : V), pnl d = true → Dp K H v d → Dp K (hid l H) v d
  | .none, _, _, h => by cases h; exact .non
  | .bool b, _, _, h => by cases h; exact .bl b
  | .int i, _, _, h => by cases h; exact .int i
  | .str x, _, _, h => by cases h; exact .str x
  | .list ds, _, n, h => by rw [pnl] at n; cases n
  | .tuple ds, _, n, h => by
    rw [pnl_tup] at n
    cases h with
    | tup a b => exact .tup (sqT_hid hl a) (dpAll_hid hl ds _ n b)
  | .dict _, _, _, h => by cases h
theorem dpAll_hid {K : PySem.W.Frag} {H : Hp} {l : Addr} {ys : List V} (hl : H l = some (.lst ys)) : ∀ (ds : List PyData) (vs : List V), pnlL ds = true → DpAll K H vs ds → DpAll K (hid l H) vs ds
  | [], _, _, h => by cases h; exact .nil
  | d :: ds, _, n, h => by
    rw [pnlL_cons] at n
    obtain ⟨n1, n2⟩ := Bool.and_eq_true_iff.mp n
    cases h with
    | cons a b => exact .cons (dp_hid hl d _ n1 a) (dpAll_hid hl ds _ n2 b)
end
def spTInit (K : PySem.W.Frag) : Sp := fun vs H Q _ => ∃ (t d dx : Addr) (vf : V), vs = [.ref t, .ref d, .str "item", vf] ∧ H t = some (.ins (He.ga K "Turner") dx []) ∧ ∀ H', hid t H' = hid t H → H' t = some (.ins (He.ga K "Turner") dx [("turned", .ref d), ("spot", .str "item"), ("flag", vf)]) → Q .non H'
def spNamed (K : PySem.W.Frag) : Sp := fun vs H Q _ => ∃ t τ x, vs = [.ref t, .str x] ∧ TurnAt K H t τ ∧ Q (.str (τ.nm x)) H
def spTall (K : PySem.W.Frag) (c : Bool) (n : Nat) : Sp := fun vs H Q _ => ∃ t τ v ss, vs = [.ref t, v] ∧ TurnAt K H t τ ∧ Dp K H v (sqD c (encL false ss)) ∧ nIs ss < n ∧ n ≤ 200 ∧ (nLs ss = 0 ∨ ∃ f, τ.flag = some f) ∧ wts ss ≤ 500 ∧ mxs ss ≤ 500 ∧
  ∀ l H' xs, Same H H' → H l = none → H' l = some (.lst xs) → DpAll K H' xs (encL false (τ.all n ss)) → Q (.ref l) H'
def spTone (K : PySem.W.Frag) (n : Nat) : Sp := fun vs H Q _ => ∃ t τ v s, vs = [.ref t, v] ∧ TurnAt K H t τ ∧ Dp K H v (enc false s) ∧ s.word ≠ "leave" ∧ s.mx ≤ 500 ∧ n ≤ 200 ∧ (∀ u a b, s = .ite u a b → (nIs a < n ∧ nIs b < n) ∧ ((nLs a = 0 ∧ nLs b = 0) ∨ ∃ f, τ.flag = some f) ∧ (wts a ≤ 500 ∧ wts b ≤ 500)) ∧
  ∀ v' H', Same H H' → Dp K H' v' (enc false (τ.one (τ.all n) s)) → Q v' H'
section
variable {P : Program} {w : World} {K : PySem.W.Frag} {mg : Str → Option Value} {base : Heap}
theorem sc_Turner_init : FnScope ["self", "turned", "item", "flag"] ["self", "turned", "item", "flag"] (defScope s_Turner_init) := ⟨rfl, rfl, rfl, by decide +kernel, rfl, by decide +kernel, by decide +kernel⟩
theorem ok_Turner_init (T : Txt K mg) : Mak P w K mg base (1) "Turner" (He.ga K "Turner") (spTInit K) := by
  refine mak_ofD T.d_Turner_init T.k_Turner T.g_Turner sc_Turner_init (List.cons_ne_nil _ _) (fun _ _ _ _ _ _ _ us its hl hi => match us, hl, its, hi with | [_, _, _, _], _, [_, _], _ => ⟨_, rfl, rfl⟩) (fun vs H Q E h => ?_) (fun cdv A outer s H vs Q E hr h => ?_)
  · obtain ⟨t, d, dx, vf, rfl, ht, k⟩ := h
    rfl
  obtain ⟨t, d, dx, vf, rfl, ht, k⟩ := h
  have sc := sc_Turner_init
  have hu := hu_of hr
  refine ⟨_, (pss_cons (ps_fld (pv 0) (pv 1) rfl)
      (pss_cons (ps_fld (pv 0) (pv 2) rfl)
      (pss_one (ps_fld (pv 0) (pv 3) rfl)))), ?_⟩
  refine ⟨_, rfl, _, rfl, t, _, dx, _, rfl, ht, T.c_Turner, T.n_Turner_turned, (by show 0 < 1000; omega), ?_⟩
  refine ⟨_, rfl, _, rfl, t, _, dx, _, rfl, upd_same, T.c_Turner, T.n_Turner_spot, (by show 1 < 1000; omega), ?_⟩
  refine ⟨_, rfl, _, rfl, t, _, dx, _, rfl, upd_same, T.c_Turner, T.n_Turner_flag, (by show 2 < 1000; omega), ?_⟩
  exact k _ (by rw [hid_upd, hid_upd, hid_upd]) upd_same
theorem sc_Turner_named : FnScope ["self", "source"] ["self", "source"] (defScope s_Turner_named) := ⟨rfl, rfl, rfl, by decide +kernel, rfl, by decide +kernel, by decide +kernel⟩
theorem ok_Turner_named (T : Txt K mg) : Met P w K mg base (1) (He.ga K "Turner") "named" (spNamed K) := by
  refine met_of T.d_Turner_named T.c_Turner T.m_Turner_named sc_Turner_named (fun _ _ _ _ _ _ us hl => match us, hl with | [_, _], _ => rfl) (fun vs H Q E h => ?_) (fun cdv A outer s H vs Q E hr h => ?_)
  · obtain ⟨t, τ, x, rfl, ⟨dx, d, vf, h1, h2, h3⟩, k⟩ := h
    rfl
  obtain ⟨t, τ, x, rfl, ⟨dx, d, vf, h1, h2, h3⟩, k⟩ := h
  have sc := sc_Turner_named
  have hu := hu_of hr
  refine ⟨_, (pss_cons (ps_if (pt_cmpR op_eq (pv 1) pe_str (nomark _)) (pss_one (ps_ret (pe_fld (pv 0) rfl))) pss_nil)
      (pss_one (ps_ret (pe_dget2 hu (pe_fld (pv 0) rfl) (pv 1) (pv 1) ⟨rfl, rfl, rfl, rfl⟩)))), ?_⟩
  refine ⟨_, rfl, rfl, _, rfl, ?_⟩
  unfold Tn.nm at k
  refine ite2 (fun e => ?_) (fun e => ?_)
  · have e : x = "item" := V.str.inj (of_decide_eq_true e)
    rw [if_pos e] at k
    exact ⟨_, rfl, _, _, dx, _, _, rfl, h1, T.c_Turner, T.n_Turner_spot, rfl, k⟩
  · have e : ¬ x = "item" := fun z => e (decide_eq_true (congrArg V.str z))
    rw [if_neg e] at k
    refine ⟨_, rfl, _, _, dx, _, _, rfl, h1, T.c_Turner, T.n_Turner_turned, rfl, d, rfl, .inl ⟨_, .inl h2⟩, _, rfl, _, rfl, (τ.ren.lookup x).map V.str, .inl ⟨_, .inr x, .inl h2, rfl, (valV_ren x _).symm⟩, ?_⟩
    cases z : τ.ren.lookup x with
    | none =>
      rw [z] at k
      exact k
    | some y =>
      rw [z] at k
      exact k
theorem use_rest2 {P : Addr → Hp → Prop} {G : Prop} (C : Addr → Hp → Prop) (h1 : (∀ r H1, C r H1 → P r H1) → G) (h2 : ∀ r H1, C r H1 → P r H1) : G := h1 h2
theorem range_nm (τ : Tn) (ys : List Str) : (List.range (ys.map V.str).length).map (fun i => V.str (τ.nm (ys.getD i ""))) = (ys.map τ.nm).map V.str := by
  apply List.ext_getElem?
  intro j
  rw [List.getElem?_map, List.getElem?_map, List.getElem?_map, List.length_map]
  by_cases h : j < ys.length
  · rw [List.getElem?_range h, List.getElem?_eq_getElem h]
    simp [h]
  · rw [List.getElem?_eq_none (by rw [List.length_range]; omega), List.getElem?_eq_none (by omega)]
    rfl
theorem tst_enc (τ : Tn) (t : Tst) : ∃ (w : Str) (ws : List Str) (h : Nat), encT t = .tuple ((w :: ws).map PyData.str) ∧ encT (τ.tst t) = .tuple (((w :: ws).take h ++ ((w :: ws).drop h).map τ.nm).map PyData.str) ∧ h ≤ (w :: ws).length ∧ ((w = "same" ∧ h = 1) ∨ (w ≠ "same" ∧ h = 2)) ∧ (w :: ws).length = tw t := by
  cases t with
  | same y z => exact ⟨"same", [y, z], 1, by rw [encT]; rfl, by rw [Tn.tst, encT]; rfl, by simp, .inl ⟨rfl, rfl⟩, by simp [tw]⟩
  | ask p ys => exact ⟨"ask", p :: ys, 2, by rw [encT]; simp, by rw [Tn.tst, encT]; simp, by simp, .inr ⟨by decide, rfl⟩, by simp [tw]⟩
theorem sc_Turner_turned_one : FnScope ["self", "thing", "test", "target", "source"] ["self", "thing"] (defScope s_Turner_turned_one) := ⟨rfl, rfl, rfl, by decide +kernel, rfl, by decide +kernel, by decide +kernel⟩
theorem ok_Turner_turned_one (T : Txt K mg) : ∀ n : Nat, (∀ c, Met P w K mg base (2 * n + 4) (He.ga K "Turner") "turned_all" (spTall K c n)) → Met P w K mg base (2*n+5) (He.ga K "Turner") "turned_one" (spTone K n) := by
  intro n
  intro c_Turner_turned_all0
  have c_Turner_turned_all := c_Turner_turned_all0 false
  refine met_of T.d_Turner_turned_one T.c_Turner T.m_Turner_turned_one sc_Turner_turned_one (fun _ _ _ _ _ _ us hl => match us, hl with | [_, _], _ => rfl) (fun vs H Q E h => ?_) (fun cdv A outer s H vs Q E hr h => ?_)
  · obtain ⟨t, τ, v, st, rfl, ht, hd, hw, hmx, hn200, hite, k⟩ := h
    rfl
  obtain ⟨t, τ, v, st, rfl, ht, hd, hw, hmx, hn200, hite, k⟩ := h
  have c_Turner_named := ok_Turner_named (P := P) (w := w) (base := base) T
  have sc := sc_Turner_turned_one
  have hu := hu_of hr
  refine ⟨_, (pss_cons (ps_if (pt_cmpR op_eq (pe_ix ix_tup (pv 1) pe_int (fun _ _ => rfl)) pe_str (nomark _)) (pss_cons (pset 2 sc.nd (pe_ifExp (pt_cmpR op_eq (pe_ix ix_tup (pe_ix ix_tup (pv 1) pe_int (fun _ _ => rfl)) pe_int (fun _ _ => rfl)) pe_str (nomark _)) (pe_slice sl_tupA (pe_ix ix_tup (pv 1) pe_int (fun _ _ => rfl)) po_none (po_some pe_int)) (pe_slice sl_tupA (pe_ix ix_tup (pv 1) pe_int (fun _ _ => rfl)) po_none (po_some pe_int))))
        (pss_cons (pset 2 sc.nd (pe_op op_catA (pv 2) (pbt call_tuple_of T.b_tuple v_tuple (pa_cons (pe_lc (own := [("source", 4)]) (g := gName 4) (tt := tYes) rfl sc.nd (pi_tup (pe_slice sl_tupA (pe_ix ix_tup (pv 1) pe_int (fun _ _ => rfl)) (po_some (pb call_len T.b_len v_len (pa_cons (pv 2) pa_nil))) po_none)) (blkOk_by (N := ["self", "thing", "test", "target", "source"]) (sc := defScope s_Turner_turned_one) (by decide +kernel)) (fun _ _ _ _ _ => (pgn 4 sc.nd)) (fun _ _ _ _ _ => pts_nil) (fun _ _ _ _ _ => (pmt c_Turner_named hr (by omega) (pv 0) (pa_cons (pv 4) pa_nil)))) pa_nil))))
        (pss_one (ps_ret (pe_tup (pa_cons pe_str (pa_cons (pv 2) (pa_cons (pbt call_tuple_of T.b_tuple v_tuple (pa_cons (pmt c_Turner_turned_all hr (by omega) (pv 0) (pa_cons (pe_ix ix_tup (pv 1) pe_int (fun _ _ => rfl)) pa_nil)) pa_nil)) (pa_cons (pbt call_tuple_of T.b_tuple v_tuple (pa_cons (pmt c_Turner_turned_all hr (by omega) (pv 0) (pa_cons (pe_ix ix_tup (pv 1) pe_int (fun _ _ => rfl)) pa_nil)) pa_nil)) pa_nil))))))))) pss_nil)
      (pss_cons (pset 3 sc.nd (pe_ifExp (pt_cmpR op_isN (pe_ix ix_tup (pv 1) pe_int (fun _ _ => rfl)) pe_non (nomark _)) pe_non (pmt c_Turner_named hr (by omega) (pv 0) (pa_cons (pe_ix ix_tup (pv 1) pe_int (fun _ _ => rfl)) pa_nil))))
      (pss_cons (ps_if (pt_cmpR op_eq (pe_ix ix_tup (pv 1) pe_int (fun _ _ => rfl)) pe_str (nomark _)) (pss_one (ps_ret (pe_tup (pa_cons pe_str (pa_cons (pv 3) (pa_cons (pmt c_Turner_named hr (by omega) (pv 0) (pa_cons (pe_ix ix_tup (pv 1) pe_int (fun _ _ => rfl)) pa_nil)) pa_nil)))))) pss_nil)
      (pss_one (ps_ret (pe_op op_catA (pe_tup (pa_cons (pe_ix ix_tup (pv 1) pe_int (fun _ _ => rfl)) (pa_cons (pv 3) (pa_cons (pe_ix ix_tup (pv 1) pe_int (fun _ _ => rfl)) pa_nil)))) (pbt call_tuple_of T.b_tuple v_tuple (pa_cons (pe_lc (own := [("source", 4)]) (g := gName 4) (tt := tYes) rfl sc.nd (pi_tup (pe_slice sl_tupA (pv 1) (po_some pe_int) po_none)) (blkOk_by (N := ["self", "thing", "test", "target", "source"]) (sc := defScope s_Turner_turned_one) (by decide +kernel)) (fun _ _ _ _ _ => (pgn 4 sc.nd)) (fun _ _ _ _ _ => pts_nil) (fun _ _ _ _ _ => (pmt c_Turner_named hr (by omega) (pv 0) (pa_cons (pv 4) pa_nil)))) pa_nil)))))))), ?_⟩
  obtain ⟨rest, hwd⟩ := enc_word false st
  have hh := hd
  rw [hwd] at hh
  obtain ⟨ya, ys, rfl, hya, hys⟩ := dp_tup hh
  obtain ⟨yr, rfl, hyr⟩ := dpa_str hys
  refine ⟨_, rfl, _, _, _, _, rfl, rfl, hya, atI_nat (j := 0) rfl, rfl, _, rfl, ?_⟩
  -- the names turned, in a new list
  have lcN : ∀ {G1 : Hp} (a : Addr) (ws : List Str) (σ0 : L2.St), True := fun _ _ _ => trivial
  by_cases c2 : st.word = "if"
  · obtain ⟨tt, a, b, rfl⟩ : ∃ t u z, st = .ite t u z := by
      cases st with
      | ite t a b => exact ⟨_, _, _, rfl⟩
      | put x y => cases c2
      | call x f ys => cases c2
      | act x d ys => cases c2
      | leave => cases c2
    obtain ⟨⟨na, nb⟩, hfl, ⟨wa, wb⟩⟩ := hite tt a b rfl
    rw [mx_ite] at hmx
    rw [enc] at hwd
    cases hwd
    obtain ⟨tv, r2, rfl, htv, hr2⟩ := dpa_cons hyr
    obtain ⟨xv, r3, rfl, hxv, hr3⟩ := dpa_cons hr2
    obtain ⟨yv, r4, rfl, hyv, hr4⟩ := dpa_cons hr3
    cases hr4
    obtain ⟨w0, ws, h, et1, et2, hle, hwh, hlen⟩ := tst_enc τ tt
    rw [et1] at htv
    obtain ⟨ta, txs, rfl, hta, htxs⟩ := dp_tup htv
    cases dpAll_strs_inv htxs
    refine iteT ?_
    refine ⟨_, rfl, _, _, _, _, rfl, rfl, hya, rfl, _, _, _, _, rfl, rfl, hta, atI_nat (j := 0) rfl, rfl, _, rfl, ?_⟩
    have hA : w0 = "same" → h = 1 := fun e => by
      rcases hwh with q | q
      · exact q.2
      · exact absurd e q.1
    have hB : w0 ≠ "same" → h = 2 := fun e => by
      rcases hwh with q | q
      · exact absurd q.1 e
      · exact q.2
    apply use_rest2 (fun r H1 => Same H H1 ∧ SqT K H1 r (((w0 :: ws).take h).map V.str))
    · intro go
      by_cases e1 : w0 = "same"
      · have e2 := hA e1
        rw [decide_eq_true (congrArg V.str e1)]
        refine iteT ⟨_, rfl, _, _, _, _, rfl, rfl, hya, rfl, _, rfl, slA_any hta fun r H1 s1 h1 => ?_⟩
        rw [show cutV ((w0 :: ws).map V.str) none (some 1) = ((w0 :: ws).map V.str).take 1 from cut_to _ 1 (by rw [List.length_map]; omega), ← List.map_take] at h1
        exact go r H1 ⟨s1, by rw [e2]; exact h1⟩
      · have e2 := hB e1
        rw [decide_eq_false (fun z => e1 (V.str.inj z))]
        refine iteF ⟨_, rfl, _, _, _, _, rfl, rfl, hya, rfl, _, rfl, slA_any hta fun r H1 s1 h1 => ?_⟩
        rw [show cutV ((w0 :: ws).map V.str) none (some 2) = ((w0 :: ws).map V.str).take 2 from cut_to _ 2 (by rw [List.length_map]; omega), ← List.map_take] at h1
        exact go r H1 ⟨s1, by rw [e2]; exact h1⟩
    rintro r1 H1 ⟨s1, h1⟩
    have lt : (((w0 :: ws).take h).map V.str).length = h := by rw [List.length_map, List.length_take]; omega
    have ldr : ((w0 :: ws).drop h).length ≤ 500 := by rw [List.length_drop]; omega
    refine ⟨_, rfl, _, rfl, _, _, _, _, rfl, rfl, s1.tup hya, rfl, _, rfl, _, _, rfl, .inr ⟨_, h1, rfl⟩, _, rfl, ?_⟩
    unfold tNoPart
    refine slA_any (s1.tup hta) fun r2 H2 s2 h2 => ?_
    rw [lt, cut_from _ h (by rw [List.length_map]; exact hle), ← List.map_drop] at h2
    refine ⟨r2, rfl, ⟨_, h2⟩, fun D hD => ?_⟩
    refine lc_map (walk_tup (xs := ((w0 :: ws).drop h).map V.str)) hD (by rw [List.length_map]; omega) (fun i => .str (τ.nm (((w0 :: ws).drop h).getD i ""))) (fun X e => e.tup h2) ?_ ?_
    · rintro i x H3 H4 hi e3 ⟨rfl, hx⟩ R kR
      rw [List.length_map] at hi
      have hx' : x = .str (((w0 :: ws).drop h).getD i "") := by
        rw [List.getElem?_map, List.getElem?_eq_getElem hi] at hx
        rw [List.getD_eq_getElem?_getD, List.getElem?_eq_getElem hi]
        exact (Option.some.inj hx).symm
      subst hx'
      have t3 := ht.up ((s1.trans s2).trans e3)
      obtain ⟨dx, d, vf, g1, g2, g3⟩ := id t3
      exact ⟨rfl, _, rfl, _, dx, _, rfl, g1, rfl, _, rfl, t, τ, _, rfl, t3, kR _ (Same.refl _)⟩
    intro H3 e3 hl3
    rw [range_nm] at hl3
    have e23 := e3.trans hid_in
    refine ⟨D, _, rfl, .inl ⟨SqL.of hl3, fun p hp => ?_⟩⟩
    have s3 := e23.trans (Same.new (o := .tup ((((w0 :: ws).drop h).map τ.nm).map V.str)) hp)
    have hsz : (((w0 :: ws).take h).map V.str).length + ((((w0 :: ws).drop h).map τ.nm).map V.str).length ≤ sizeLine := by
      rw [lt, List.length_map, List.length_map]
      exact Nat.le_trans (by omega : h + ((w0 :: ws).drop h).length ≤ 1000) (by decide)
    refine catA_any ((s2.trans s3).tup h1) (SqT.of upd_same) hsz fun r4 H4 s4 h4 => ?_
    have e4 := (s1.trans s2).trans (s3.trans s4)
    have t4 := ht.up e4
    obtain ⟨dx, d, vf, g1, g2, g3⟩ := id t4
    have hcf : (nLs a = 0 ∨ ∃ f, τ.flag = some f) ∧ (nLs b = 0 ∨ ∃ f, τ.flag = some f) := by
      rcases hfl with q | q
      · exact ⟨.inl q.1, .inl q.2⟩
      · exact ⟨.inr q, .inr q⟩
    refine ⟨_, rfl, _, rfl, _, dx, _, rfl, g1, rfl, _, rfl, _, _, _, _, rfl, rfl, e4.tup hya, rfl, t, τ, xv, a, rfl, t4, hxv.up e4, na, hn200, hcf.1, wa, by omega, fun l1 H5 xs1 s5 _ a5 d5 => ⟨l1, xs1, rfl, .inl ⟨SqL.of a5, fun p1 hp1 => ?_⟩⟩⟩
    have s6 := Same.new (o := .tup xs1) hp1
    have e6 := e4.trans (s5.trans s6)
    have t6 := ht.up e6
    obtain ⟨dx, d, vf, g1, g2, g3⟩ := id t6
    refine ⟨_, rfl, _, dx, _, rfl, g1, rfl, _, rfl, _, _, _, _, rfl, rfl, e6.tup hya, rfl, t, τ, yv, b, rfl, t6, hyv.up e6, nb, hn200, hcf.2, wb, by omega, fun l2 H7 xs2 s7 _ a7 d7 => ⟨l2, xs2, rfl, .inl ⟨SqL.of a7, fun p2 hp2 => ?_⟩⟩⟩
    have s8 := Same.new (o := .tup xs2) hp2
    refine ⟨(by show 4 ≤ sizeLine; decide), fun p3 hp3 => ?_⟩
    have s9 := Same.new (o := .tup [.str "if", .ref r4, .ref p1, .ref p2]) hp3
    refine k _ _ (e6.trans (s7.trans (s8.trans s9))) ?_
    rw [Tn.one, enc]
    refine .tup (SqT.of upd_same) (.cons (.str _) (.cons ?_ (.cons ?_ (.cons ?_ .nil))))
    · rw [et2]
      refine .tup ((s5.trans (s6.trans (s7.trans (s8.trans s9)))).tup ?_) (dpAll_strs _)
      rw [List.map_append]
      exact h4
    · exact .tup ((s7.trans (s8.trans s9)).tup (SqT.of upd_same)) (d5.up (s6.trans (s7.trans (s8.trans s9))))
    · exact .tup (s9.tup (SqT.of upd_same)) (d7.up (s8.trans s9))
  · rw [decide_eq_false (fun z => c2 (V.str.inj z))]
    refine iteF ?_
    cases st with
    | leave => exact absurd rfl hw
    | ite tt a b => exact absurd rfl c2
    | put x y =>
      rw [enc] at hwd
      cases hwd
      have e := dpAll_strs_inv (xs := [x, y]) hyr
      subst e
      obtain ⟨dx, d, vf, g1, g2, g3⟩ := id ht
      refine ⟨_, rfl, _, _, _, _, rfl, rfl, hya, atI_nat (j := 1) rfl, rfl, _, rfl, iteF ?_⟩
      refine ⟨_, rfl, _, dx, _, rfl, g1, rfl, _, rfl, _, _, _, _, rfl, rfl, hya, atI_nat (j := 1) rfl, t, τ, x, rfl, ht, ?_⟩
      refine ⟨_, rfl, _, _, _, _, rfl, rfl, hya, atI_nat (j := 0) rfl, rfl, _, rfl, iteT ?_⟩
      refine ⟨_, rfl, _, rfl, _, dx, _, rfl, g1, rfl, _, rfl, _, _, _, _, rfl, rfl, hya, atI_nat (j := 2) rfl, t, τ, y, rfl, ht, (by show 3 ≤ sizeLine; decide), fun p1 e1 => ?_⟩
      refine k _ _ (Same.new e1) ?_
      rw [Tn.one, enc]
      exact .tup (SqT.of upd_same) (.cons (.str _) (.cons (.str _) (.cons (.str _) .nil)))
    | call x f ys =>
      rw [Stm.mx] at hmx
      rw [enc] at hwd
      cases hwd
      have e := dpAll_strs_inv (xs := x :: f :: ys) hyr
      subst e
      obtain ⟨dx, d, vf, g1, g2, g3⟩ := id ht
      refine ⟨_, rfl, _, _, _, _, rfl, rfl, hya, atI_nat (j := 1) rfl, rfl, _, rfl, iteF ?_⟩
      refine ⟨_, rfl, _, dx, _, rfl, g1, rfl, _, rfl, _, _, _, _, rfl, rfl, hya, atI_nat (j := 1) rfl, t, τ, x, rfl, ht, ?_⟩
      refine ⟨_, rfl, _, _, _, _, rfl, rfl, hya, atI_nat (j := 0) rfl, rfl, _, rfl, iteF ?_⟩
      refine ⟨_, rfl, _, _, _, _, rfl, rfl, hya, atI_nat (j := 0) rfl, _, rfl, _, rfl, _, _, _, _, rfl, rfl, hya, atI_nat (j := 2) rfl, (by show 3 ≤ sizeLine; decide), fun p1 e1 => ?_⟩
      have s1 := Same.new (o := .tup [.str "call", .str (τ.nm x), .str f]) e1
      refine ⟨_, rfl, _, rfl, ?_⟩
      unfold tNoPart
      refine slA_any (s1.tup hya) fun r2 H2 s2 h2 => ?_
      replace h2 : SqT K H2 r2 (cutV (V.str "call" :: (x :: f :: ys).map V.str) (some 3) none) := h2
      rw [show cutV (V.str "call" :: (x :: f :: ys).map V.str) (some 3) none = ys.map V.str from cut_from _ 3 (by simp)] at h2
      have e12 := s1.trans s2
      refine ⟨r2, rfl, ⟨_, h2⟩, fun D hD => ?_⟩
      refine lc_map (walk_tup (xs := ys.map V.str)) hD (by rw [List.length_map]; omega) (fun i => .str (τ.nm (ys.getD i ""))) (fun X e => e.tup h2) ?_ ?_
      · rintro i x9 H3 H4 hi e3 ⟨rfl, hx⟩ R kR
        rw [List.length_map] at hi
        have hx' : x9 = .str (ys.getD i "") := by
          rw [List.getElem?_map, List.getElem?_eq_getElem hi] at hx
          rw [List.getD_eq_getElem?_getD, List.getElem?_eq_getElem hi]
          exact (Option.some.inj hx).symm
        subst hx'
        have t3 := ht.up (e12.trans e3)
        obtain ⟨dx, d, vf, g1, g2, g3⟩ := id t3
        exact ⟨rfl, _, rfl, _, dx, _, rfl, g1, rfl, _, rfl, t, τ, _, rfl, t3, kR _ (Same.refl _)⟩
      intro H3 e3 hl3
      rw [range_nm] at hl3
      have e23 := e3.trans hid_in
      refine ⟨D, _, rfl, .inl ⟨SqL.of hl3, fun p hp => ?_⟩⟩
      have s3 := e23.trans (Same.new (o := .tup ((ys.map τ.nm).map V.str)) hp)
      refine catA_any ((s2.trans s3).tup (SqT.of upd_same)) (SqT.of upd_same) ?_ fun r4 H4 s4 h4 => ?_
      · rw [List.length_map, List.length_map]
        show 3 + ys.length ≤ sizeLine
        exact Nat.le_trans (by omega : 3 + ys.length ≤ 1000) (by decide)
      refine k _ _ (s1.trans (s2.trans (s3.trans s4))) ?_
      rw [Tn.one, enc]
      refine .tup h4 (.cons (.str _) (.cons (.str _) (.cons (.str _) ?_)))
      have q := dpAll_strs (K := K) (H := H4) (ys.map τ.nm)
      exact q
    | act x0 d0 ys =>
      rw [Stm.mx] at hmx
      cases x0 with
      | some x =>
        rw [enc, optD] at hwd
        cases hwd
        have e := dpAll_strs_inv (xs := x :: d0 :: ys) hyr
        subst e
        obtain ⟨dx, d, vf, g1, g2, g3⟩ := id ht
        refine ⟨_, rfl, _, _, _, _, rfl, rfl, hya, atI_nat (j := 1) rfl, rfl, _, rfl, iteF ?_⟩
        refine ⟨_, rfl, _, dx, _, rfl, g1, rfl, _, rfl, _, _, _, _, rfl, rfl, hya, atI_nat (j := 1) rfl, t, τ, x, rfl, ht, ?_⟩
        refine ⟨_, rfl, _, _, _, _, rfl, rfl, hya, atI_nat (j := 0) rfl, rfl, _, rfl, iteF ?_⟩
        refine ⟨_, rfl, _, _, _, _, rfl, rfl, hya, atI_nat (j := 0) rfl, _, rfl, _, rfl, _, _, _, _, rfl, rfl, hya, atI_nat (j := 2) rfl, (by show 3 ≤ sizeLine; decide), fun p1 e1 => ?_⟩
        have s1 := Same.new (o := .tup [.str "do", .str (τ.nm x), .str d0]) e1
        refine ⟨_, rfl, _, rfl, ?_⟩
        unfold tNoPart
        refine slA_any (s1.tup hya) fun r2 H2 s2 h2 => ?_
        replace h2 : SqT K H2 r2 (cutV (V.str "do" :: (x :: d0 :: ys).map V.str) (some 3) none) := h2
        rw [show cutV (V.str "do" :: (x :: d0 :: ys).map V.str) (some 3) none = ys.map V.str from cut_from _ 3 (by simp)] at h2
        have e12 := s1.trans s2
        refine ⟨r2, rfl, ⟨_, h2⟩, fun D hD => ?_⟩
        refine lc_map (walk_tup (xs := ys.map V.str)) hD (by rw [List.length_map]; omega) (fun i => .str (τ.nm (ys.getD i ""))) (fun X e => e.tup h2) ?_ ?_
        · rintro i x9 H3 H4 hi e3 ⟨rfl, hx⟩ R kR
          rw [List.length_map] at hi
          have hx' : x9 = .str (ys.getD i "") := by
            rw [List.getElem?_map, List.getElem?_eq_getElem hi] at hx
            rw [List.getD_eq_getElem?_getD, List.getElem?_eq_getElem hi]
            exact (Option.some.inj hx).symm
          subst hx'
          have t3 := ht.up (e12.trans e3)
          obtain ⟨dx, d, vf, g1, g2, g3⟩ := id t3
          exact ⟨rfl, _, rfl, _, dx, _, rfl, g1, rfl, _, rfl, t, τ, _, rfl, t3, kR _ (Same.refl _)⟩
        intro H3 e3 hl3
        rw [range_nm] at hl3
        have e23 := e3.trans hid_in
        refine ⟨D, _, rfl, .inl ⟨SqL.of hl3, fun p hp => ?_⟩⟩
        have s3 := e23.trans (Same.new (o := .tup ((ys.map τ.nm).map V.str)) hp)
        refine catA_any ((s2.trans s3).tup (SqT.of upd_same)) (SqT.of upd_same) ?_ fun r4 H4 s4 h4 => ?_
        · rw [List.length_map, List.length_map]
          show 3 + ys.length ≤ sizeLine
          exact Nat.le_trans (by omega : 3 + ys.length ≤ 1000) (by decide)
        refine k _ _ (s1.trans (s2.trans (s3.trans s4))) ?_
        rw [Tn.one, enc]
        refine .tup h4 (.cons (.str _) (.cons (.str _) (.cons (.str _) ?_)))
        have q := dpAll_strs (K := K) (H := H4) (ys.map τ.nm)
        exact q
      | none =>
        rw [enc, optD] at hwd
        cases hwd
        obtain ⟨yr2, rfl, hyr2⟩ := dpa_none hyr
        have e := dpAll_strs_inv (xs := d0 :: ys) hyr2
        subst e
        obtain ⟨dx, d, vf, g1, g2, g3⟩ := id ht
        refine ⟨_, rfl, _, _, _, _, rfl, rfl, hya, atI_nat (j := 1) rfl, rfl, _, rfl, iteT ?_⟩
        refine ⟨_, rfl, _, _, _, _, rfl, rfl, hya, atI_nat (j := 0) rfl, rfl, _, rfl, iteF ?_⟩
        refine ⟨_, rfl, _, _, _, _, rfl, rfl, hya, atI_nat (j := 0) rfl, _, rfl, _, rfl, _, _, _, _, rfl, rfl, hya, atI_nat (j := 2) rfl, (by show 3 ≤ sizeLine; decide), fun p1 e1 => ?_⟩
        have s1 := Same.new (o := .tup [.str "do", .non, .str d0]) e1
        refine ⟨_, rfl, _, rfl, ?_⟩
        unfold tNoPart
        refine slA_any (s1.tup hya) fun r2 H2 s2 h2 => ?_
        replace h2 : SqT K H2 r2 (cutV (V.str "do" :: V.non :: (d0 :: ys).map V.str) (some 3) none) := h2
        rw [show cutV (V.str "do" :: V.non :: (d0 :: ys).map V.str) (some 3) none = ys.map V.str from cut_from _ 3 (by simp)] at h2
        have e12 := s1.trans s2
        refine ⟨r2, rfl, ⟨_, h2⟩, fun D hD => ?_⟩
        refine lc_map (walk_tup (xs := ys.map V.str)) hD (by rw [List.length_map]; omega) (fun i => .str (τ.nm (ys.getD i ""))) (fun X e => e.tup h2) ?_ ?_
        · rintro i x9 H3 H4 hi e3 ⟨rfl, hx⟩ R kR
          rw [List.length_map] at hi
          have hx' : x9 = .str (ys.getD i "") := by
            rw [List.getElem?_map, List.getElem?_eq_getElem hi] at hx
            rw [List.getD_eq_getElem?_getD, List.getElem?_eq_getElem hi]
            exact (Option.some.inj hx).symm
          subst hx'
          have t3 := ht.up (e12.trans e3)
          obtain ⟨dx, d, vf, g1, g2, g3⟩ := id t3
          exact ⟨rfl, _, rfl, _, dx, _, rfl, g1, rfl, _, rfl, t, τ, _, rfl, t3, kR _ (Same.refl _)⟩
        intro H3 e3 hl3
        rw [range_nm] at hl3
        have e23 := e3.trans hid_in
        refine ⟨D, _, rfl, .inl ⟨SqL.of hl3, fun p hp => ?_⟩⟩
        have s3 := e23.trans (Same.new (o := .tup ((ys.map τ.nm).map V.str)) hp)
        refine catA_any ((s2.trans s3).tup (SqT.of upd_same)) (SqT.of upd_same) ?_ fun r4 H4 s4 h4 => ?_
        · rw [List.length_map, List.length_map]
          show 3 + ys.length ≤ sizeLine
          exact Nat.le_trans (by omega : 3 + ys.length ≤ 1000) (by decide)
        refine k _ _ (s1.trans (s2.trans (s3.trans s4))) ?_
        rw [Tn.one, enc]
        refine .tup h4 (.cons (.str _) (.cons .non (.cons (.str _) ?_)))
        have q := dpAll_strs (K := K) (H := H4) (ys.map τ.nm)
        exact q
end
end K21
set_option Elab.async false
set_option linter.all false
set_option maxRecDepth 100000
set_option maxHeartbeats 1000000
namespace K21
open PySem PySem.Spec PyProof.Rows L2
mutual
theorem dep_nI : ∀ s : Stm, s.dep ≤ s.nI
  | .put x y => by simp [Stm.dep]
  | .call x f ys => by simp [Stm.dep]
  | .act x d ys => by simp [Stm.dep]
  | .leave => by simp [Stm.dep]
  | .ite t a b => by
    have h1 := deps_nIs a
    have h2 := deps_nIs b
    rw [dep_ite, nI_ite]
    omega
theorem deps_nIs : ∀ ss : List Stm, deps ss ≤ nIs ss
  | [] => by rw [deps]; omega
  | s :: r => by
    have h1 := dep_nI s
    have h2 := deps_nIs r
    rw [deps_cons, nIs_cons]
    omega
end
mutual
theorem nL_wt : ∀ s : Stm, s.nL ≤ s.wt
  | .put x y => by simp [Stm.nL]
  | .call x f ys => by simp [Stm.nL]
  | .act x d ys => by simp [Stm.nL]
  | .leave => by simp [Stm.nL, Stm.wt]
  | .ite t a b => by
    have h1 := nLs_wts a
    have h2 := nLs_wts b
    have ew : (Stm.ite t a b).wt = 1 + (wts a + wts b) := by rw [Stm.wt]
    rw [nL_ite, ew]
    omega
theorem nLs_wts : ∀ ss : List Stm, nLs ss ≤ wts ss
  | [] => by rw [nLs]; omega
  | s :: r => by
    have h1 := nL_wt s
    have h2 := nLs_wts r
    rw [nLs_cons, wts_cons]
    omega
end
section
variable {P : Program} {w : World} {K : PySem.W.Frag} {mg : Str → Option Value} {base : Heap}
theorem sc_Turner_turned_all : FnScope ["self", "statements", "found", "at", "thing", "rest"] ["self", "statements"] (defScope s_Turner_turned_all) := ⟨rfl, rfl, rfl, by decide +kernel, rfl, by decide +kernel, by decide +kernel⟩
theorem ok_Turner_turned_all (T : Txt K mg) : ∀ (c : Bool) (n : Nat), (Met P w K mg base (2 * n + 5) (He.ga K "Turner") "turned_one" (spTone K n)) → Met P w K mg base (2*n+6) (He.ga K "Turner") "turned_all" (spTall K c (n+1)) := by
  intro c n
  intro c_Turner_turned_one
  refine met_of T.d_Turner_turned_all T.c_Turner T.m_Turner_turned_all sc_Turner_turned_all (fun _ _ _ _ _ _ us hl => match us, hl with | [_, _], _ => rfl) (fun vs H Q E h => ?_) (fun cdv A outer s H vs Q E hr h => ?_)
  · obtain ⟨t, τ, v, ss, rfl, ht, hd, hnI, hn200, hnL, hwt, hmx, k⟩ := h
    rfl
  obtain ⟨t, τ, v, ss, rfl, ht, hd, hnI, hn200, hnL, hwt, hmx, k⟩ := h
  have c_leaves_at : Cal P w K mg base (n + 2) "leaves_at" (spLeaves K true n) := ok_leaves T n true
  have sc := sc_Turner_turned_all
  have hu := hu_of hr
  refine ⟨_, (pss_cons (pset 2 sc.nd (pe_lst pa_nil))
      (pss_cons (ps_for PassesOwn.never rfl (pi_enumQ rfl T.b_enumerate (pa_cons (pv 1) pa_nil)) (pg_tup rfl (pgs_cons (pgn 3 sc.nd) (pgs_cons (pgn 4 sc.nd) pgs_nil)))
        (pss_cons (ps_if (pt_cmpR op_eq (pe_ix ix_tup (pv 4) pe_int (fun _ _ => rfl)) pe_str (nomark _)) (pss_one (ps_ret (pe_op op_cat (pv 2) (pe_lst (pa_cons (pe_tup (pa_cons pe_str (pa_cons (pe_ix ix_tup (pe_fld (pv 0) rfl) pe_int (fun _ _ => rfl)) (pa_cons (pe_ix ix_tup (pe_fld (pv 0) rfl) pe_int (fun _ _ => rfl)) pa_nil)))) pa_nil))))) pss_nil)
        (pss_cons (ps_if (PW.pt (pw_and (pt_cmpR op_eq (pe_ix ix_tup (pv 4) pe_int (fun _ _ => rfl)) pe_str (nomark _)) (pw_and1 (pt_cmpR op_gt (pb call_len T.b_len v_len (pa_cons (pc c_leaves_at hr (by omega) (pa_cons (pe_lst (pa_cons (pv 4) pa_nil)) (pa_cons (pe_tup pa_nil) pa_nil))) pa_nil)) pe_int (nomark _))))) (pss_cons (pset 5 sc.nd (pbt call_tuple_of T.b_tuple v_tuple (pa_cons (pe_slice (sl_list.or sl_tupA) (pv 1) (po_some (pe_op op_add (pv 3) pe_int)) po_none) pa_nil)))
          (pss_one (ps_ret (pe_op op_cat (pv 2) (pe_lst (pa_cons (pmt c_Turner_turned_one hr (by omega) (pv 0) (pa_cons (pe_op op_catA (pe_slice sl_tupA (pv 4) po_none (po_some pe_int)) (pe_tup (pa_cons (pe_op op_catA (pe_ix ix_tup (pv 4) pe_int (fun _ _ => rfl)) (pv 5)) (pa_cons (pe_op op_catA (pe_ix ix_tup (pv 4) pe_int (fun _ _ => rfl)) (pv 5)) pa_nil)))) pa_nil)) pa_nil)))))) pss_nil)
        (pss_one (ps_expr (pe_bm PySem.F.plainAttrs_list PySem.F.slot_list_append PySem.F.type_list_append mt_append (pv 2) (pa_cons (pmt c_Turner_turned_one hr (by omega) (pv 0) (pa_cons (pv 4) pa_nil)) pa_nil)))))))
      (pss_one (ps_ret (pv 2))))), ?_⟩
  obtain ⟨a, xs, rfl, hseq, hxs⟩ := sqD_row hd
  have hlen : xs.length = ss.length := by rw [dpa_len hxs, encL_map, List.length_map]
  refine ⟨(by show 0 ≤ sizeLine; decide), fun l e1 => ?_⟩
  refine ⟨_, rfl, ?_⟩
  have s1 : Same H (hid l (upd H l (.lst []))) := by
    rw [hid_upd]
    exact hid_of e1 (Same.refl _)
  have hsz : (τ.all (n + 1) ss).length ≤ 500 := Nat.le_trans (tn_size τ (n + 1) ss).1 hwt
  rcases hseq with h5 | h5
  all_goals
    first
    | refine ⟨a, rfl, .inl ⟨⟨xs, (s1.trans hid_in).seq h5⟩, for_it walk_enum (fun i σ H7 => ∃ (x3 x4 : Option V) (zs : List V) (done : List Stm), σ = [some (.ref t), some (.ref a), some (.ref l), x3, x4, none] ∧ Same H (hid l H7) ∧ H7 l = some (.lst zs) ∧ DpAll K (hid l H7) zs (encL false done) ∧ done ++ τ.all (n + 1) (ss.drop i) = τ.all (n + 1) ss ∧ nIs (ss.drop i) < n + 1 ∧ (nLs (ss.drop i) = 0 ∨ ∃ f, τ.flag = some f) ∧ wts (ss.drop i) ≤ 500 ∧ mxs (ss.drop i) ≤ 500) ⟨_, _, [], [], rfl, s1, upd_same, .nil, rfl, hnI, hnL, hwt, hmx⟩ (fun i σ H7 _ ⟨_, _, _, _, _, s7, _⟩ => (s7.trans hid_in).seq h5) ?_ ?_⟩⟩
    | refine ⟨a, rfl, .inr ⟨⟨xs, (s1.trans hid_in).tup h5⟩, for_it walk_enumT (fun i σ H7 => ∃ (x3 x4 : Option V) (zs : List V) (done : List Stm), σ = [some (.ref t), some (.ref a), some (.ref l), x3, x4, none] ∧ Same H (hid l H7) ∧ H7 l = some (.lst zs) ∧ DpAll K (hid l H7) zs (encL false done) ∧ done ++ τ.all (n + 1) (ss.drop i) = τ.all (n + 1) ss ∧ nIs (ss.drop i) < n + 1 ∧ (nLs (ss.drop i) = 0 ∨ ∃ f, τ.flag = some f) ∧ wts (ss.drop i) ≤ 500 ∧ mxs (ss.drop i) ≤ 500) ⟨_, _, [], [], rfl, s1, upd_same, .nil, rfl, hnI, hnL, hwt, hmx⟩ (fun i σ H7 _ ⟨_, _, _, _, _, s7, _⟩ => (s7.trans hid_in).tup h5) ?_ ?_⟩⟩
    · rintro i x9 σ H7 H8 hi ⟨x3, x4, zs, done, rfl, s7, l7, dz, e7, i7, n7, w7, m7⟩ ⟨T1, y1, y2, rfl, hT, rfl, hy1, hy2⟩
      cases hy1
      rw [hlen] at hi
      have ed : ss.drop i = ss[i] :: ss.drop (i + 1) := List.drop_eq_getElem_cons hi
      rw [ed] at e7 i7 n7 w7 m7
      rw [nIs_cons] at i7
      rw [nLs_cons] at n7
      rw [wts_cons] at w7
      rw [mxs_cons] at m7
      have lz : zs.length ≤ 500 := by
        have q1 := dpa_len dz
        rw [encL_map, List.length_map] at q1
        have q2 := congrArg List.length e7
        rw [List.length_append] at q2
        omega
      have hyd0 : Dp K H y2 (enc false ss[i]) := dpAll_at hxs hy2 (by rw [encL_map, List.getElem?_map, List.getElem?_eq_getElem hi]; rfl)
      have s8 : Same H7 (upd H7 T1 (.tup [.int (i : Nat), y2])) := Same.new hT
      have h8 : Same H (hid l (upd H7 T1 (.tup [.int (i : Nat), y2]))) := s7.trans s8.hid
      have l8 := s8 _ _ l7
      have dz8 := dz.up (s8.hid (D := l))
      refine ⟨T1, _, rfl, SqT.of upd_same, rfl, _, _, rfl, _, _, rfl, rfl, ?_⟩
      generalize upd H7 T1 (.tup [.int (i : Nat), y2]) = H8 at *
      generalize hst : ss[i] = st at *
      obtain ⟨rest, hw⟩ := enc_word false st
      have hh := hyd0
      rw [hw] at hh
      obtain ⟨ya, ys, rfl, hya, hys⟩ := dp_tup hh
      obtain ⟨yr, rfl, hyr⟩ := dpa_str hys
      have u8 := h8.trans hid_in
      have t8 := ht.up u8
      have wtpos := wt_pos st
      refine ⟨_, rfl, _, _, _, _, rfl, rfl, u8.tup hya, atI_nat (j := 0) rfl, rfl, _, rfl, ?_⟩
      by_cases c1 : st.word = "leave"
      · have est : st = .leave := by
          cases st with
          | leave => rfl
          | put x y => cases c1
          | call x f ys => cases c1
          | act x d ys => cases c1
          | ite t a b => cases c1
        subst est
        have en : Stm.leave.nL = 1 := by simp [Stm.nL]
        obtain ⟨f, hf⟩ : ∃ f, τ.flag = some f := by
          rcases n7 with q | q
          · omega
          · exact q
        rw [show τ.all (n + 1) (.leave :: ss.drop (i + 1)) = [.put (τ.flag.getD "") "a"] by rw [all_cons], hf] at e7
        obtain ⟨dx, d, vf, g1, g2, g3⟩ := id t8
        rw [hf] at g3
        obtain ⟨fa, rfl, hfa⟩ := g3
        refine iteT ?_
        refine ⟨_, rfl, _, rfl, _, _, dx, _, _, rfl, g1, T.c_Turner, T.n_Turner_flag, rfl, _, _, _, _, rfl, rfl, hfa, rfl, _, rfl, _, _, dx, _, _, rfl, g1, T.c_Turner, T.n_Turner_flag, rfl, _, _, _, _, rfl, rfl, hfa, rfl, (by show 3 ≤ sizeLine; decide), fun p1 q1 => ⟨(by show 1 ≤ sizeLine; decide), fun p2 q2 => ?_⟩⟩
        have s9 := Same.new (o := .tup [.str "put", .str f, .str "a"]) q1
        have s10 := Same.new (o := .lst [.ref p1]) q2
        have l10 := (s9.trans s10) _ _ l8
        refine ⟨l, p2, _, _, rfl, rfl, l10, upd_same, Nat.le_trans (by show zs.length + 1 ≤ 1000; omega) (by decide), fun p3 q3 => ?_⟩
        have s11 := Same.new (o := .lst (zs ++ [.ref p1])) q3
        refine k p3 _ _ (u8.trans (s9.trans (s10.trans s11))) ((u8.trans (s9.trans s10)).free q3) upd_same ?_
        rw [← e7, encL_map, List.map_append, ← encL_map]
        refine dpa_app (dz8.up (hid_in.trans (s9.trans (s10.trans s11)))) (.cons ?_ .nil)
        rw [enc]
        exact .tup ((s10.trans s11).tup (SqT.of upd_same)) (.cons (.str _) (.cons (.str _) (.cons (.str _) .nil)))
      · rw [decide_eq_false (fun z => c1 (V.str.inj z))]
        refine iteF ?_
        refine ⟨_, rfl, _, _, _, _, rfl, rfl, u8.tup hya, atI_nat (j := 0) rfl, rfl, _, rfl, ?_⟩
        apply use_rest (fun H9 => Same H8 H9 ∧ τ.all (n + 1) (st :: ss.drop (i + 1)) = τ.one (τ.all n) st :: τ.all (n + 1) (ss.drop (i + 1)) ∧ (∀ u a b, st = .ite u a b → (nIs a < n ∧ nIs b < n) ∧ ((nLs a = 0 ∧ nLs b = 0) ∨ ∃ f, τ.flag = some f) ∧ (wts a ≤ 500 ∧ wts b ≤ 500)))
        · intro go
          by_cases c2 : st.word = "if"
          · rw [decide_eq_true (congrArg V.str c2)]
            have hit : ∃ u x z, st = .ite u x z := by
              cases st with
              | ite u x z => exact ⟨u, x, z, rfl⟩
              | put x y => cases c2
              | call x f ys => cases c2
              | act x d ys => cases c2
              | leave => cases c2
            have u8t := u8
            refine iteT ?_
            refine ⟨_, rfl, (by show 1 ≤ sizeLine; decide), fun q1 hq1 => ⟨(by show 0 ≤ sizeLine; decide), fun q2 hq2 => ?_⟩⟩
            have v1 := Same.new (o := .lst [.ref ya]) hq1
            have v2 := Same.new (o := .tup []) hq2
            have hdep : deps [st] ≤ n := by
              have := dep_nI st
              rw [deps_cons, deps]
              omega
            have hnl : nLs [st] = st.nL := by rw [nLs_cons, nLs]; omega
            have hnl2 : nLs [st] ≤ 1000 := by
              have := nL_wt st
              omega
            refine ⟨.ref q1, [st], q2, [], rfl, .lst (SqL.of (v2 _ _ upd_same)) ?_, SqT.of upd_same, by show 0 + 2 * n ≤ 500; omega, hdep, hnl2, fun H9 l1 xs1 s9 e9 a9 b9 => ?_⟩
            · rw [encL_cons, encL]
              exact .cons (hyd0.up (u8.trans (v1.trans v2))) .nil
            rw [hnl] at b9
            refine ⟨_, _, rfl, .inl ⟨_, SqL.of a9, rfl⟩, _, _, rfl, rfl, _, rfl, ?_⟩
            rw [b9]
            have v9 := v1.trans (v2.trans s9)
            by_cases hz : st.nL = 0
            · rw [decide_eq_false (by rw [hz]; decide)]
              refine iteF (go H9 ⟨v9, ?_, ?_⟩)
              · obtain ⟨u, x, z, e⟩ := hit
                rw [e] at hz ⊢
                rw [all_cons]
                dsimp only
                rw [if_pos hz]
              · intro u x z e
                rw [e, nL_ite] at hz
                rw [e, nI_ite] at i7
                have ew : (Stm.ite u x z).wt = 1 + (wts x + wts z) := by rw [Stm.wt]
                rw [e, ew] at w7
                exact ⟨⟨by omega, by omega⟩, .inl ⟨by omega, by omega⟩, by omega, by omega⟩
            · rw [decide_eq_true (by omega)]
              refine iteT ?_
              have u9 := u8.trans v9
              apply use_rest2 (fun r H10 => Same H9 H10 ∧ SqT K H10 r (xs.drop (i + 1)))
              · intro go2
                have ec : cutV xs (some ((i : Nat) + 1 : Int)) none = xs.drop (i + 1) := cut_from xs (i + 1) (by omega)
                first
                | exact ⟨_, rfl, _, rfl, _, _, rfl, rfl, _, rfl, .inl ⟨a, xs, rfl, u9.seq h5, fun p hp => ⟨p, _, rfl, .inl ⟨SqL.of upd_same, fun p' hp' => go2 p' _ ⟨(Same.new hp).trans (Same.new hp'), by rw [ec]; exact SqT.of upd_same⟩⟩⟩⟩⟩
                | exact ⟨_, rfl, _, rfl, _, _, rfl, rfl, _, rfl, .inr (slA_any (u9.tup h5) fun r H10 s10 h10 => ⟨r, _, rfl, .inr ⟨h10, go2 r H10 ⟨s10, by rw [ec] at h10; exact h10⟩⟩⟩)⟩
              · rintro rr H10 ⟨s10, hrr⟩
                obtain ⟨u, x, z, rfl⟩ := hit
                rw [enc] at hw
                cases hw
                obtain ⟨tv, r2, rfl, htv, hr2⟩ := dpa_cons hyr
                obtain ⟨xv, r3, rfl, hxv, hr3⟩ := dpa_cons hr2
                obtain ⟨zv, r4, rfl, hzv, hr4⟩ := dpa_cons hr3
                cases hr4
                obtain ⟨xa, xxs, rfl, hxa, hxxs⟩ := dp_tup hxv
                obtain ⟨za, zzs, rfl, hza, hzzs⟩ := dp_tup hzv
                have hdr : DpAll K H (xs.drop (i + 1)) (encL false (ss.drop (i + 1))) := by
                  have q := dpa_drop (i + 1) hxs
                  rw [encL_map, ← List.map_drop, ← encL_map] at q
                  exact q
                rw [nI_ite] at i7
                rw [mx_ite] at m7
                have ew : (Stm.ite u x z).wt = 1 + (wts x + wts z) := by rw [Stm.wt]
                rw [ew] at w7 wtpos
                rw [nL_ite] at n7 hz
                have lx : xxs.length = x.length := by rw [dpa_len hxxs, encL_map, List.length_map]
                have lzz : zzs.length = z.length := by rw [dpa_len hzzs, encL_map, List.length_map]
                have lr : (xs.drop (i + 1)).length = (ss.drop (i + 1)).length := by rw [dpa_len hdr, encL_map, List.length_map]
                have wx := len_wts x
                have wz := len_wts z
                have wr := len_wts (ss.drop (i + 1))
                have u10 := u9.trans s10
                have t10 := ht.up u10
                obtain ⟨dx, d, vf, g1, g2, g3⟩ := id t10
                refine ⟨_, rfl, _, rfl, _, dx, _, rfl, g1, rfl, _, rfl, _, rfl, slA_any (u10.tup hya) fun ra Ha sa ha => ?_⟩
                replace ha : SqT K Ha ra [.str "if", tv] := ha
                have ua := u10.trans sa
                refine ⟨_, rfl, _, _, _, _, rfl, rfl, ua.tup hya, rfl, _, rfl, catA_any (ua.tup hxa) (sa.tup hrr) (Nat.le_trans (by omega : xxs.length + (xs.drop (i + 1)).length ≤ 1000) (by decide)) fun rb Hb sb hb => ?_⟩
                have ub := ua.trans sb
                refine ⟨_, rfl, _, _, _, _, rfl, rfl, ub.tup hya, rfl, _, rfl, catA_any (ub.tup hza) ((sa.trans sb).tup hrr) (Nat.le_trans (by omega : zzs.length + (xs.drop (i + 1)).length ≤ 1000) (by decide)) fun rc Hc sc' hc => ?_⟩
                have uc := ub.trans sc'
                refine ⟨(by show 2 ≤ sizeLine; decide), fun pt hpt => ?_⟩
                have st1 := Same.new (o := .tup [.ref rb, .ref rc]) hpt
                refine catA_any (((sb.trans sc').trans st1).tup ha) (SqT.of upd_same) (by show 4 ≤ sizeLine; decide) fun rd Hd sd hd' => ?_
                have ud := uc.trans (st1.trans sd)
                have td := ht.up ud
                have hcombo : Dp K Hd (.ref rd) (enc false (.ite u (x ++ ss.drop (i + 1)) (z ++ ss.drop (i + 1)))) := by
                  rw [enc]
                  refine .tup hd' (.cons (.str _) (.cons (htv.up ud) (.cons ?_ (.cons ?_ .nil))))
                  · refine .tup ((sc'.trans (st1.trans sd)).tup hb) ?_
                    rw [encL_map, List.map_append, ← encL_map, ← encL_map]
                    exact dpa_app (hxxs.up ud) (hdr.up ud)
                  · refine .tup ((st1.trans sd).tup hc) ?_
                    rw [encL_map, List.map_append, ← encL_map, ← encL_map]
                    exact dpa_app (hzzs.up ud) (hdr.up ud)
                have hfl : ∃ f, τ.flag = some f := by
                  rcases n7 with q | q
                  · omega
                  · exact q
                refine ⟨t, τ, _, .ite u (x ++ ss.drop (i + 1)) (z ++ ss.drop (i + 1)), rfl, td, hcombo, (by show ("if" : Str) ≠ "leave"; decide), ?_, by omega, ?_, fun v' He se dv => ?_⟩
                · rw [mx_ite, mxs_app, mxs_app, List.length_append, List.length_append]
                  omega
                · intro u' a' b' e
                  cases e
                  rw [nIs_app, nIs_app, wts_app, wts_app]
                  exact ⟨⟨by omega, by omega⟩, .inr hfl, by omega, by omega⟩
                refine ⟨(by show 1 ≤ sizeLine; decide), fun p2 q2' => ?_⟩
                have se2 := Same.new (o := .lst [v']) q2'
                have v8e := ((((v9.trans s10).trans sa).trans sb).trans sc').trans ((st1.trans sd).trans (se.trans se2))
                have le := v8e _ _ l8
                refine ⟨l, p2, zs, [v'], rfl, rfl, le, upd_same, Nat.le_trans (by show zs.length + 1 ≤ 1000; omega) (by decide), fun p3 q3 => ?_⟩
                have se3 := Same.new (o := .lst (zs ++ [v'])) q3
                refine k p3 _ _ (u8.trans (v8e.trans se3)) ((u8.trans v8e).free q3) upd_same ?_
                rw [← e7, encL_map, List.map_append, ← encL_map]
                refine dpa_app (dz8.up (hid_in.trans (v8e.trans se3))) ?_
                have ea : τ.all (n + 1) (.ite u x z :: ss.drop (i + 1)) = [τ.one (τ.all n) (.ite u (x ++ ss.drop (i + 1)) (z ++ ss.drop (i + 1)))] := by
                  rw [all_cons]
                  dsimp only
                  rw [if_neg (by rw [nL_ite]; exact hz)]
                rw [ea]
                exact .cons (dv.up (se2.trans se3)) .nil
          · rw [decide_eq_false (fun z => c2 (V.str.inj z))]
            refine iteF (go H8 ⟨Same.refl _, ?_, ?_⟩)
            · cases st with
              | ite u x z => exact absurd rfl c2
              | leave => exact absurd rfl c1
              | put x y => rw [all_cons]
              | call x f ys => rw [all_cons]
              | act x d ys => rw [all_cons]
            · intro u x z e
              rw [e] at c2
              exact absurd rfl c2
        · rintro H9 ⟨s9, eall, hcond⟩
          have l9 := s9 _ _ l8
          have u9 := u8.trans s9
          have t9 := ht.up u9
          obtain ⟨dx, d, vf, g1, g2, g3⟩ := id t9
          refine ⟨_, rfl, .inl ⟨rfl, _, SqL.of l9⟩, _, rfl, _, dx, _, rfl, g1, rfl, _, rfl, t, τ, _, st, rfl, t9, hyd0.up u9, c1, by omega, by omega, hcond, fun v' H10 s10 dv => ?_⟩
          have l10 := s10 _ _ l9
          have h10 := h8.trans ((s9.trans s10).hid (D := l))
          refine ⟨l, _, _, rfl, rfl, l10, Nat.lt_of_le_of_lt lz (by decide), _, _, zs ++ [v'], done ++ [τ.one (τ.all n) st], rfl, ?_, upd_same, ?_, ?_, by omega, ?_, by omega, by omega⟩
          · rw [hid_upd]
            exact h10
          · rw [hid_upd, encL_map, List.map_append, ← encL_map]
            exact dpa_app (dz8.up ((s9.trans s10).hid (D := l))) (.cons (dp_hid l10 _ _ (pnl_enc _) dv) .nil)
          · rw [List.append_assoc]
            rw [eall] at e7
            exact e7
          · rcases n7 with q | q
            · exact .inl (by omega)
            · exact .inr q
    · rintro σ H7 ⟨x3, x4, zs, done, rfl, s7, l7, dz, e7, _⟩
      rw [hlen, List.drop_length, all_nil, List.append_nil] at e7
      subst e7
      exact ⟨_, rfl, k l _ zs (s7.trans hid_in) e1 l7 (dz.up hid_in)⟩
theorem ok_turned_all (T : Txt K mg) (n : Nat) : ∀ c : Bool, Met P w K mg base (2*n+4) (He.ga K "Turner") "turned_all" (spTall K c n) := by
  induction n with
  | zero =>
    intro c
    refine met_of T.d_Turner_turned_all T.c_Turner T.m_Turner_turned_all sc_Turner_turned_all (fun _ _ _ _ _ _ us hl => match us, hl with | [_, _], _ => rfl) (fun vs H Q E h => ?_) (fun cdv A outer s H vs Q E hr h => ?_)
    · obtain ⟨t, τ, v, ss, _, _, _, q, _⟩ := h
      exact absurd q (Nat.not_lt_zero _)
    · obtain ⟨t, τ, v, ss, _, _, _, q, _⟩ := h
      exact absurd q (Nat.not_lt_zero _)
  | succ n ih =>
    intro c
    exact ok_Turner_turned_all T c n (ok_Turner_turned_one T n ih)
end
end K21
set_option Elab.async false
set_option linter.all false
set_option maxRecDepth 100000
set_option maxHeartbeats 1000000
namespace K21
open PySem PySem.Spec PyProof.Rows L2
section
variable {M : Model} {prog : Program} {w : World} {A : Around} {E : Value → Shared → Prop} {s : Shared} {K : PySem.W.Frag} {x y C f : Addr} {ox : Obj} {od : Option Obj}
theorem ifBound_objNe {args : List Value} {Q : Option Value → Shared → Prop} (X : K.In s.heap) (I : PySem.W.InstAt s.heap x ox C od) (hs : PySem.W.findIn K (.ref C) "__ne__" = some (some (.builtin "object.__ne__")))
    (h : wpAny M A (call (.builtin "object.__ne__") (.ref x :: args)) (fun v => Q (some v)) E s) : wpAny M A (callSpecialIfBound? (.ref x) "__ne__" args) Q E s := by
  simp only [callSpecialIfBound?, bindSpecialIfBound?]
  refine wpAny_holding (wpAny_bind (wpAny_bind (wpAny_bind (I.type.here ((PySem.W.looks_findIn X hs).here ?_)))))
  refine wpAny_bind (wpAny_askSetting (wpAny_ite ?_))
  have fin : wpAny M A (call (.builtin "object.__ne__") ([.ref x] ++ args) >>= fun v => pure (some v)) Q E s := wpAny_bind (wpAny_mono h (fun v s' h' => wpAny_pure h') fun _ _ h' => h')
  split
  · exact wpAny_bind (wpAny_of_eq (F.cmp_object.ne.bind _) (wpAny_pure (by exact fin)))
  · exact wpAny_tryCatch (wpAny_bind (wpAny_of_eq (F.cmp_object.ne.bind _) (wpAny_pure (by exact fin))))
theorem objNe_entryK (X : K.In s.heap) (I : PySem.W.InstAt s.heap x ox C od) (he : PySem.W.findIn K (.ref C) "__eq__" = some (some (.ref f))) (hf : PySem.W.isFn K (.ref f) = true) (hu : A.units < cLine) {Q : Fin → Shared → Prop}
    (hcall : wpAny (model prog w) A (call (.ref f) [.ref x, .ref y]) (fun v s' => ∃ b, v = .bool b ∧ Q (.done (.ret (.bool (!b)))) s') E s) :
    wpAny (model prog w) A (Builtin.«object.__ne__» ⟨[.ref x, .ref y], []⟩) Q E s := by
  unfold Builtin.«object.__ne__»
  repeat (first
    | with_reducible refine wpAny_cRoomFor hu ?_
    | (refine wpAny_bind (m := callSpecialIfBound? (.ref x) (Str.ofString "__eq__") [.ref y])
        (PySem.W.ifBound_K X I he hf (wpAny_mono hcall (fun r s' hr => by
          obtain ⟨b, rfl, hq⟩ := hr
          repeat (first | exact hq | exact wpAny_pure hq | exact wpAny_truthy_bool hq | (refine wpAny_bind (m := truthy (.bool _)) (wpAny_truthy_bool ?_)) | wp_step)) fun _ _ e => e)))
    | wp_step)
theorem call_objNe {Q : Value → Shared → Prop} (X : K.In s.heap) (I : PySem.W.InstAt s.heap x ox C od) (hm : PySem.W.mroIn K C (.type "object") = some true) (he : PySem.W.findIn K (.ref C) "__eq__" = some (some (.ref f))) (hf : PySem.W.isFn K (.ref f) = true) (hu : A.units + 1 < cLine)
    (hcall : wpAny (model prog w) A.in1 (call (.ref f) [.ref x, .ref y]) (fun v s' => ∃ b, v = .bool b ∧ Q (.bool (!b)) s') E s) :
    wpAny (model prog w) A (call (.builtin "object.__ne__") [.ref x, .ref y]) Q E s :=
  wpAny_call (codeAny_call_builtin F.cmp_object.ne.plain F.cmpEntry_ne (PySem.W.check_slot F.cmpKind_ne F.cmpSplit_ne (I.type.andThen (PySem.W.looks_mroIn X hm)) (F.cmpArgs_ne _ _) (objNe_entryK (A := A.in1) X I he hf hu (wpAny_mono hcall (fun v s' hv => by
    obtain ⟨b, rfl, hq⟩ := hv
    exact ⟨b, rfl, hq⟩) fun _ _ e => e))))
theorem ne_K {Q : Value → Shared → Prop} (X : K.In s.heap) (I : PySem.W.InstAt s.heap x ox C od) (hy : PySem.W.Looks (model prog w) s.heap (typeOf (.ref y)) (.ref C)) (hm : PySem.W.mroIn K C (.type "object") = some true) (hs : PySem.W.findIn K (.ref C) "__ne__" = some (some (.builtin "object.__ne__")))
    (he : PySem.W.findIn K (.ref C) "__eq__" = some (some (.ref f))) (hf : PySem.W.isFn K (.ref f) = true) (hu : A.units + 1 < cLine)
    (hcall : wpAny (model prog w) A.in1 (call (.ref f) [.ref x, .ref y]) (fun v s' => ∃ b, v = .bool b ∧ Q (.bool (!b)) s') E s) :
    wpAny (model prog w) A (compareOp .NotEq (.ref x) (.ref y)) Q E s := by
  have one : wpAny (model prog w) A (tryCompare (.ref x) "__ne__" (.ref y)) (fun r s' => ∃ b, r = some (.bool b) ∧ Q (.bool b) s') E s := by
    unfold tryCompare
    refine wpAny_bind (ifBound_objNe X I hs (call_objNe X I hm he hf hu (wpAny_mono hcall (fun v s' hv => ?_) fun _ _ e => e)))
    obtain ⟨b, rfl, hq⟩ := hv
    exact ⟨b, rfl, wpAny_pure ⟨_, rfl, hq⟩⟩
  unfold compareOp richCompare
  simp only [oneThing_ref, cmpInfo_NotEq]
  refine wpAny_holding (wpAny_bind (wpAny_cRoomFor (Nat.lt_of_succ_lt hu) ?_))
  refine wpAny_bind (I.type.here (wpAny_bind (hy.here ?_)))
  rw [show (Value.ref C != Value.ref C) = false from by simp]
  simp only [Bool.false_eq_true, if_false]
  refine wpAny_bind (wpAny_pure ?_)
  simp only [Bool.false_eq_true, if_false]
  refine wpAny_bind (wpAny_mono one (fun r s' z => ?_) fun _ _ e => e)
  obtain ⟨b, rfl, hq⟩ := z
  exact wpAny_pure hq
end
/-- x != y of two instances of the class at C whose own == is told by sp -/
def rNeOwn (C : Addr) (sp : Sp) : R2 := fun x y H Q => ∃ a b dx dy fs gs, x = .ref a ∧ y = .ref b ∧ H a = some (.ins C dx fs) ∧ H b = some (.ins C dy gs) ∧ sp [.ref a, .ref b] H (fun v H' => ∃ r, v = .bl r ∧ Q (.bl (!r)) H') E0
section
variable {X : Cx} {C f : Addr} {fd : FuncData} {ps : List Str} {sp : Sp} {n : Nat}
theorem op_neOwn (F : FnOk X.prog X.w X.K X.mg X.base CX0 n f fd ps sp) (hm : PySem.W.mroIn X.K C (.type "object") = some true) (hs : PySem.W.findIn X.K (.ref C) "__ne__" = some (some (.builtin "object.__ne__")))
    (he : PySem.W.findIn X.K (.ref C) "__eq__" = some (some (.ref f))) (hf : PySem.W.isFn X.K (.ref f) = true) (hb : Binds X.K fd ps []) (hr : Room (n + 1) X.A) : OpR X (compareOp .NotEq) (rNeOwn C sp) := by
  intro pins s σ H x y v u Q I rx ry d
  obtain ⟨a, b, dx, dy, fs, gs, rfl, rfl, ha, hb', hsp⟩ := d
  cases rx
  cases ry
  obtain ⟨mA, J, _⟩ := ins_get I.hok ha
  obtain ⟨mB, J', _⟩ := ins_get I.hok hb'
  obtain ⟨od, J, _⟩ := J.look
  obtain ⟨od', J', _⟩ := J'.look
  have sb : Sub X n X.A.in1 := Sub.in1 ⟨hr, rfl⟩
  refine ne_K I.kIn J J'.type hm hs he hf (by have := hr.un; omega) ?_
  have e0 : Env0 X.prog X.w X.K X.mg X.base X.A.in1 X.stack s H := by
    have e := I.env0
    exact ⟨by rw [sb.fr]; exact e.frames, e.mod, e.bs, e.bsz, e.funs, e.frf, e.hok, e.bare⟩
  have hl := F.len _ _ _ _ hsp
  have r2 : Vals [V.ref a, V.ref b] [Value.ref a, Value.ref b] := .cons rfl (.cons rfl .nil)
  refine wpAny_call (codeAny_mono (F.run X.A.in1 X.stack s H ⟨[.ref a, .ref b], []⟩ [.ref a, .ref b] [.ref a, .ref b] _ E0 sb.room e0 (by
    have := hb s [.ref a, .ref b] I.kIn (by simpa using hl)
    simpa using this) r2 hsp) fun r s' hq => ?_)
  cases r with
  | error e => exact pass0 pins σ H s e s' I hq
  | ok fl =>
    cases fl with
    | ret w =>
      obtain ⟨z, H', I', rz, rr, ez, q⟩ := I.after hq
      subst ez
      cases rz
      exact ⟨rr, rfl, .bl (!rr), H', I', rfl, q⟩
    | next => exact False.elim hq
    | brk => exact False.elim hq
    | cont => exact False.elim hq
end
end K21
set_option Elab.async false
set_option linter.all false
set_option maxRecDepth 100000
set_option maxHeartbeats 1000000
namespace K21
open PySem PySem.Spec PyProof.Rows L2
/-! ### dict(zip(a, b)) -/
def tDictZip (K : PySem.W.Frag) (ta : TA) : TE := fun σ H Q => ta σ H fun vs H1 => ∃ (a b : Addr) (ks : List Key) (ys : List V), vs = [.ref a, .ref b] ∧ SqL K H1 a (ks.map kV) ∧ SqL K H1 b ys ∧ ∀ p, H1 p = none → Q (.ref p) (upd H1 p (.dK (mergeK [] (ks.zip ys))))
theorem kv_zip {P : Program} {w : World} : ∀ {ks : List Key} {ys : List V} {us vs : List Value}, Vals (ks.map kV) us → Vals ys vs →
    ∃ prs : List (Key × Value), KV (ks.zip ys) prs ∧ prs.length = min us.length vs.length ∧ ∀ (i : Nat) (u v : Value), us[i]? = some u → vs[i]? = some v → ∃ k, prs[i]? = some (k, v) ∧ (mixKind P w).is k u = true
  | [], ys, us, vs, h1, h2 => by
    cases h1
    exact ⟨[], .nil, by simp, fun i u v h => by simp at h⟩
  | k :: ks, [], us, vs, h1, h2 => by
    cases h2
    exact ⟨[], .nil, by simp, fun i u v _ h => by simp at h⟩
  | k :: ks, y :: ys, us, vs, h1, h2 => by
    rw [List.map_cons] at h1
    cases h1 with
    | cons a1 b1 =>
      cases h2 with
      | cons a2 b2 =>
        rename_i u0 us0 v0 vs0
        obtain ⟨prs, q1, q2, q3⟩ := kv_zip (P := P) (w := w) b1 b2
        refine ⟨(k, v0) :: prs, .cons ⟨rfl, a2⟩ q1, by simp [q2], fun i u v hu hv => ?_⟩
        cases i with
        | zero =>
          simp at hu hv
          subst hu hv
          exact ⟨k, rfl, kV_is a1⟩
        | succ i =>
          simp at hu hv
          obtain ⟨k', e1, e2⟩ := q3 i u v hu hv
          exact ⟨k', by simpa using e1, e2⟩
section
variable {X : Cx} {e1 e2 : Expr} {ta : TA} {p q pos pos2 : Pos}
theorem pe_dictZip (hc : X.calm = true) (ha : PA X [e1, e2] ta) (hm : X.mg "dict" = none) (hmz : X.mg "zip" = none) (hg : Gl X "dict" := by rfl) (hgz : Gl X "zip" := by rfl)
    (hs : starEach [.Call (.Name "zip" q) [e1, e2] [] pos2] X.env = (false, eval (.Call (.Name "zip" q) [e1, e2] [] pos2) X.env) :: starEach [] X.env := by rfl)
    (hs2 : starEach [e1, e2] X.env = (false, eval e1 X.env) :: starEach [e2] X.env := by rfl) (hpl : (backTo pos2 (starEach [e2] X.env)).any (·.1) = false := by rfl) :
    PE X (.Call (.Name "dict" p) [.Call (.Name "zip" q) [e1, e2] [] pos2] [] pos) (tDictZip X.K ta) := by
  refine ⟨fun pins s σ H Q I hq => ?_⟩
  refine wpAny_Call_Name_kw (ld_blt I hg hm v_dict ?_)
  refine PyProof.Rows.callWith_type1 ?_ hs rfl
  rw [hs]
  show wpAny _ _ (spliced ((false, eval (.Call (.Name "zip" q) [e1, e2] [] pos2) X.env) :: backTo pos (starEach [] X.env))) _ _ s
  refine Calls.spliced_cons ?_
  refine Call_ (ld_blt I hgz hmz PyProof.Rows.boot_zip (PyProof.Rows.callWith_type1 (thn (ha.run pos2 pins s σ H _ I hq) fun us s1 ⟨vs, H1, I1, r1, q1⟩ => ?_) hs2 hpl))
  obtain ⟨a, b, ks, ys, ex, hqx, hqy, qq⟩ := q1
  subst ex
  cases r1 with
  | cons r rr =>
    cases rr with
    | cons r' rr =>
      cases rr
      cases r
      cases r'
      obtain ⟨its, rv, p1, _⟩ := I1.list hqx
      obtain ⟨its2, rv2, p2, _⟩ := I1.list hqy
      have la : a < s1.heap.objs.size := p1.lt
      have lb : b < s1.heap.objs.size := p2.lt
      refine call_zip_2 p1.isList p2.isList fun h' hz hTI hTO h1 h2 hsz hk => ?_
      refine Calls.spliced_nil ?_
      obtain ⟨prs, kv, kl, kr⟩ := kv_zip (P := X.prog) (w := X.w) rv rv2
      have hl1 : h'.IsList a its.toArray := p1.isList.at fun o e => hk _ o e
      have hl2 : h'.IsList b its2.toArray := p2.isList.at fun o e => hk _ o e
      have P := PairArg.zip (prog := X.prog) (w := X.w) (s1.heap.objs.size + 4) (s1.heap.objs.size + 2) (s1.heap.objs.size + 3) s1.heap.objs.size (s1.heap.objs.size + 1) a b (PySem.W.ktu_apart s1.heap.objs.size a b la lb) its.toArray its2.toArray
      have hn : min its.toArray.size its2.toArray.size ≤ sizeLine := by
        have := (I1.list hqx)
        obtain ⟨its', rv', p1', hz'⟩ := this
        have e1 := rv.length
        have e2 := rv'.length
        rw [List.size_toArray]
        refine Nat.le_trans (Nat.min_le_left _ _) ?_
        omega
      refine PySem.call_dict_pairs (knd := mixKind X.prog X.w) (kvs := prs) P (I1.ok.hd hc) ⟨hz, hTI, ⟨_, _, hTO⟩, h1, h2, hl1, hl2⟩ ⟨by simp [kl], fun i key v hr => ?_⟩ hn fun h'' tk hd' k => ?_
      · exact kr i key v (by simpa using hr.1) (by simpa using hr.2)
      · have hsz' : s1.heap.objs.size ≤ h'.objs.size := by omega
        have hm' : (h'.objs.size == sysModules) = false := beq_eq_false_iff_ne.mpr (Nat.ne_of_gt (Nat.lt_of_lt_of_le I1.big hsz'))
        have hlen : (mergeK [] (ks.zip ys)).length ≤ sizeLine := by
          refine Nat.le_trans (length_mergeK (ks.zip ys) []) ?_
          rw [List.length_nil, Nat.zero_add, kv.length, kl]
          simpa using hn
        have keep : ∀ c o, s1.heap.get? c = some o → h''.get? c = some o := fun c o e => k c o (fun hmem => by
          have hl := Heap.lt_size e
          have hh : c = s1.heap.objs.size + 4 ∨ c = s1.heap.objs.size + 3 ∨ c = s1.heap.objs.size ∨ c = s1.heap.objs.size + 1 := by simpa using hmem
          rcases hh with z | z | z | z
          · rw [z] at hl
            exact absurd hl (Nat.not_lt.mpr (Nat.le_add_right _ _))
          · rw [z] at hl
            exact absurd hl (Nat.not_lt.mpr (Nat.le_add_right _ _))
          · rw [z] at hl
            exact absurd hl (Nat.lt_irrefl _)
          · rw [z] at hl
            exact absurd hl (Nat.not_lt.mpr (Nat.le_add_right _ _))) (hk c o e)
        exact ⟨.ref h'.objs.size, upd H1 h'.objs.size (.dK (mergeK [] (ks.zip ys))), I1.laid (t' := tk) keep hsz' (show ObjOk X.prog X.w _ _ _ (.dK (mergeK [] (ks.zip ys))) from ⟨hlen, hm', merged [] prs, KV.merge kv .nil, hd'⟩), rfl, qq _ (I1.hok.fresh hsz')⟩
end
end K21
set_option Elab.async false
set_option linter.all false
set_option maxRecDepth 100000
set_option maxHeartbeats 1000000
namespace K21
open PySem PySem.Spec PyProof.Rows L2
structure ExN (K : PySem.W.Frag) : Prop where
  cls : PySem.W.findIn K (.ref (He.ga K "Names")) "__class__" = some (some (.builtin "object.__class__"))
  get : PySem.W.specialIn K (.builtin "object.__class__") "__get__" = some (some (.builtin "getset_descriptor.__get__"))
  takes : PySem.W.takesIn K (.builtin "object.__class__") = some true
  mro : PySem.W.mroIn K (He.ga K "Names") (.type "object") = some true
  eq : PySem.W.findIn K (.ref (He.ga K "Names")) "__eq__" = some (some (.ref (He.ma K (He.ga K "Names") "__eq__")))
  fn : PySem.W.isFn K (.ref (He.ma K (He.ga K "Names") "__eq__")) = true
  ne : PySem.W.findIn K (.ref (He.ga K "Names")) "__ne__" = some (some (.builtin "object.__ne__"))
theorem exN_of {K : PySem.W.Frag} {mg : Str → Option Value} (T : Txt K mg) : ExN K := by
  have h := T.ex
  unfold exB at h
  obtain ⟨h1, h⟩ := Bool.and_eq_true_iff.mp h
  obtain ⟨h2, h⟩ := Bool.and_eq_true_iff.mp h
  obtain ⟨h3, h⟩ := Bool.and_eq_true_iff.mp h
  obtain ⟨h4, h⟩ := Bool.and_eq_true_iff.mp h
  obtain ⟨h5, h⟩ := Bool.and_eq_true_iff.mp h
  obtain ⟨h6, h⟩ := Bool.and_eq_true_iff.mp h
  obtain ⟨h7, h⟩ := Bool.and_eq_true_iff.mp h
  exact ⟨He.eqO_ok h1, He.eqO_ok h2, of_decide_eq_true h3, of_decide_eq_true h4, He.eqO_ok h5, h6, He.eqO_ok h7⟩
theorem kitOne_self {K : PySem.W.Frag} {C : Addr} : PySem.W.kitOne K (.ref C) (.ref C) = some true := by
  unfold PySem.W.kitOne
  rw [if_pos (by simp)]
def spEqN (K : PySem.W.Frag) : Sp := fun vs H Q _ => ∃ n, vs = [.ref n, .ref n] ∧ NamesAt K H n ∧ Q (.bl true) H
def spRaised (K : PySem.W.Frag) : Sp := fun vs H Q _ => ∃ t τ, vs = [.ref t] ∧ TurnAt K H t τ ∧ ∀ l H' xs, Same H H' → H l = none → H' l = some (.lst xs) → DpAll K H' xs (encL false (raise τ)) → Q (.ref l) H'
def spGuard (K : PySem.W.Frag) (n : Nat) : Sp := fun vs H Q _ => ∃ t τ v ss, vs = [.ref t, v] ∧ TurnAt K H t τ ∧ Dp K H v (sqD true (encL false ss)) ∧ nIs ss < n ∧ n ≤ 200 ∧ (nLs ss = 0 ∨ ∃ f, τ.flag = some f) ∧ wts ss ≤ 500 ∧ mxs ss ≤ 500 ∧
  ∀ l H' xs, Same H H' → H l = none → H' l = some (.lst xs) → DpAll K H' xs (encL false (τ.guard n ss)) → Q (.ref l) H'
def spFlag (K : PySem.W.Frag) : Sp := fun vs H Q _ => ∃ o nm L Rg x, vs = [.ref o, .str x] ∧ LoopAt K H o nm L Rg ∧ deps L.turn ≤ 20 ∧ nLs L.turn ≤ 1000 ∧ ∀ v H', Same H H' → FlagAt K H' v (flagOf L x) → Q v H'
def spChkL (K : PySem.W.Frag) : Sp := fun vs H Q _ => ∃ a o1 o2 nm L1 L2 R1 R2, vs = [.ref a] ∧ H a = some (.lst [.ref o1, .ref o2]) ∧ LoopAt K H o1 nm L1 R1 ∧ LoopAt K H o2 nm L2 R2 ∧ (deps L1.turn ≤ 20 ∧ nLs L1.turn ≤ 1000) ∧ (deps L2.turn ≤ 20 ∧ nLs L2.turn ≤ 1000) ∧ ∀ H', Same H H' → Q .non H'
section
variable {P : Program} {w : World} {K : PySem.W.Frag} {mg : Str → Option Value} {base : Heap}
theorem sc_Names_eq : FnScope ["self", "other"] ["self", "other"] (defScope s_Names_eq) := ⟨rfl, rfl, rfl, by decide +kernel, rfl, by decide +kernel, by decide +kernel⟩
theorem ok_Names_eq (T : Txt K mg) : ∃ fd, FnOk P w K mg base CX0 1 (He.ma K (He.ga K "Names") "__eq__") fd ["self", "other"] (spEqN K) ∧ Binds K fd ["self", "other"] [] := by
  obtain ⟨fd, F⟩ := T.d_Names_eq
  refine ⟨fd, fn_ok F sc_Names_eq (fun vs H Q E h => ?_) (fun cdv A outer s H vs Q E hr h => ?_), F.bindsN (fun _ _ _ _ _ _ us hl => match us, hl with | [_, _], _ => rfl)⟩
  · obtain ⟨n, rfl, _⟩ := h
    rfl
  obtain ⟨n, rfl, ⟨dx, c, f, t, d, r, fa, pa, p0, h0, h1, h2, h3, h4, h5, h6, h7, h8⟩, k⟩ := h
  have X := exN_of T
  refine ⟨_, (pss_cons (ps_if (PW.pt (pw_or (pt_not (pt_val (pb call_isi T.b_isinstance v_isinstance (pa_cons (pv 1) (pa_cons (p_ref T.g_Names) pa_nil))))) (pw_or1 (pt_cmpR (op_neD hr.units) (pe_fld (pv 0) rfl) (pe_fld (pv 1) rfl) (nomark _))))) (pss_one (ps_ret pe_bl)) pss_nil)
    (pss_cons (ps_if (PW.pt (pw_or (pt_cmpR (op_ne_dictA hr.units0) (pe_fld (pv 0) rfl) (pe_fld (pv 1) rfl) (nomark _)) (pw_or1 (pt_cmpR (op_ne_dictA hr.units0) (pe_fld (pv 0) rfl) (pe_fld (pv 1) rfl) (nomark _))))) (pss_one (ps_ret pe_bl)) pss_nil)
    (pss_cons (ps_if (PW.pt (pw_or (pt_cmpR (op_ne_dictA hr.units0) (pe_fld (pv 0) rfl) (pe_fld (pv 1) rfl) (nomark _)) (pw_or1 (pt_cmpR (op_ne_dictA hr.units0) (pe_fld (pv 0) rfl) (pe_fld (pv 1) rfl) (nomark _))))) (pss_one (ps_ret pe_bl)) pss_nil)
    (pss_one (ps_ret (pe_and (pe_cmpR (op_eqD hr.units) (pe_fld (pv 0) rfl) (pe_fld (pv 1) rfl) (nomark _)) (pe_one (pe_cmpR (op_eqD hr.units) (pe_fld (pv 0) rfl) (pe_fld (pv 1) rfl) (nomark _))))))))), ?_⟩
  have ty : TyX K H (.ref n) (.ref (He.ga K "Names")) := .base (.ins h0 T.c_Names X.cls X.get X.takes X.mro)
  have dd : ∀ (kvs : List (Key × V)) (p : Key × V), p ∈ kvs → True := fun _ _ _ => trivial
  refine ⟨_, rfl, _, _, _, _, _, rfl, .own _, ty, kitOne_self, _, rfl, iteF ?_⟩
  refine ⟨_, rfl, _, _, dx, _, _, rfl, h0, T.c_Names, T.n_Names_constants, rfl, _, rfl, _, _, dx, _, _, rfl, h0, T.c_Names, T.n_Names_constants, rfl, .tuple [.str "a", .str "b"], .tuple [.str "a", .str "b"], .tup (SqT.of h1) (dpAll_strs ["a", "b"]), .tup (SqT.of h1) (dpAll_strs ["a", "b"]), by decide +kernel, by decide +kernel, _, rfl, ?_⟩
  rw [show PyData.eqv (.tuple [.str "a", .str "b"]) (.tuple [.str "a", .str "b"]) = true by decide +kernel]
  refine iteF ?_
  refine ⟨_, rfl, _, _, dx, _, _, rfl, h0, T.c_Names, T.n_Names_some_functions, rfl, _, rfl, _, _, dx, _, _, rfl, h0, T.c_Names, T.n_Names_some_functions, rfl, f, f, dF, dF, rfl, rfl, h2, h2, rfl, by decide +kernel, _, rfl, iteF ?_⟩
  refine ⟨_, rfl, _, _, dx, _, _, rfl, h0, T.c_Names, T.n_Names_some_tests, rfl, _, rfl, _, _, dx, _, _, rfl, h0, T.c_Names, T.n_Names_some_tests, rfl, t, t, dT, dT, rfl, rfl, h3, h3, rfl, by decide +kernel, _, rfl, iteF ?_⟩
  refine ⟨_, rfl, _, _, dx, _, _, rfl, h0, T.c_Names, T.n_Names_some_deeds, rfl, _, rfl, _, _, dx, _, _, rfl, h0, T.c_Names, T.n_Names_some_deeds, rfl, d, d, dD, dD, rfl, rfl, h4, h4, rfl, by decide +kernel, _, rfl, iteF ?_⟩
  refine ⟨_, rfl, _, _, dx, _, _, rfl, h0, T.c_Names, T.n_Names_some_rules, rfl, _, rfl, _, _, dx, _, _, rfl, h0, T.c_Names, T.n_Names_some_rules, rfl, r, r, [], [], rfl, rfl, h5, h5, rfl, (fun p hp => by cases hp), _, rfl, iteF ?_⟩
  refine ⟨_, rfl, _, _, dx, _, _, rfl, h0, T.c_Names, T.n_Names_some_facts, rfl, _, rfl, _, _, dx, _, _, rfl, h0, T.c_Names, T.n_Names_some_facts, rfl, .list [], .list [], .lst (SqL.of h6) .nil, .lst (SqL.of h6) .nil, by decide +kernel, by decide +kernel, _, rfl, ?_⟩
  rw [show PyData.eqv (.list []) (.list []) = true by decide +kernel]
  refine iteT ?_
  refine ⟨_, rfl, _, _, dx, _, _, rfl, h0, T.c_Names, T.n_Names_some_pairs, rfl, _, rfl, _, _, dx, _, _, rfl, h0, T.c_Names, T.n_Names_some_pairs, rfl, .list [.tuple [.str "b", .str "a"]], .list [.tuple [.str "b", .str "a"]], .lst (SqL.of h7) (.cons (.tup h8 (dpAll_strs ["b", "a"])) .nil), .lst (SqL.of h7) (.cons (.tup h8 (dpAll_strs ["b", "a"])) .nil), by decide +kernel, by decide +kernel, ?_⟩
  rw [show PyData.eqv (.list [.tuple [.str "b", .str "a"]]) (.list [.tuple [.str "b", .str "a"]]) = true by decide +kernel]
  exact k
theorem sc_Turner_raised : FnScope ["self"] ["self"] (defScope s_Turner_raised) := ⟨rfl, rfl, rfl, by decide +kernel, rfl, by decide +kernel, by decide +kernel⟩
theorem ok_Turner_raised (T : Txt K mg) : Met P w K mg base (1) (He.ga K "Turner") "raised" (spRaised K) := by
  refine met_of T.d_Turner_raised T.c_Turner T.m_Turner_raised sc_Turner_raised (fun _ _ _ _ _ _ us hl => match us, hl with | [_], _ => rfl) (fun vs H Q E h => ?_) (fun cdv A outer s H vs Q E hr h => ?_)
  · obtain ⟨t, τ, rfl, ⟨dx, d, vf, h1, h2, h3⟩, k⟩ := h
    rfl
  obtain ⟨t, τ, rfl, ⟨dx, d, vf, h1, h2, h3⟩, k⟩ := h
  have sc := sc_Turner_raised
  have hu := hu_of hr
  refine ⟨_, (pss_one (ps_ret (pe_ifExp (pt_cmpR op_isN (pe_fld (pv 0) rfl) pe_non (nomark _)) (pe_lst pa_nil) (pe_lst (pa_cons (pe_tup (pa_cons pe_str (pa_cons (pe_ix ix_tup (pe_fld (pv 0) rfl) pe_int (fun _ _ => rfl)) (pa_cons (pe_ix ix_tup (pe_fld (pv 0) rfl) pe_int (fun _ _ => rfl)) pa_nil)))) pa_nil))))), ?_⟩
  unfold raise at k
  cases hf : τ.flag with
  | none =>
    rw [hf] at h3 k
    cases h3
    refine ⟨_, rfl, _, _, dx, _, _, rfl, h1, T.c_Turner, T.n_Turner_flag, rfl, rfl, _, rfl, iteT ⟨(by show 0 ≤ sizeLine; decide), fun p hp => ?_⟩⟩
    exact k p _ [] (Same.new hp) hp upd_same (by rw [encL]; exact .nil)
  | some f =>
    rw [hf] at h3 k
    obtain ⟨a, rfl, ha⟩ := h3
    refine ⟨_, rfl, _, _, dx, _, _, rfl, h1, T.c_Turner, T.n_Turner_flag, rfl, rfl, _, rfl, iteF ?_⟩
    refine ⟨_, rfl, _, _, dx, _, _, rfl, h1, T.c_Turner, T.n_Turner_flag, rfl, _, _, _, _, rfl, rfl, ha, rfl, _, rfl, _, _, dx, _, _, rfl, h1, T.c_Turner, T.n_Turner_flag, rfl, _, _, _, _, rfl, rfl, ha, rfl, (by show 3 ≤ sizeLine; decide), fun p hp => ⟨(by show 1 ≤ sizeLine; decide), fun l hl => ?_⟩⟩
    have s1 := Same.new (o := .tup [.str "put", .str f, .str "b"]) hp
    have s2 := Same.new (o := .lst [.ref p]) hl
    refine k l _ _ (s1.trans s2) (s1.free hl) upd_same ?_
    rw [encL_cons, enc, encL]
    exact .cons (.tup (s2.tup (SqT.of upd_same)) (.cons (.str _) (.cons (.str _) (.cons (.str _) .nil)))) .nil
theorem sc_Turner_guarded : FnScope ["self", "statements", "found"] ["self", "statements"] (defScope s_Turner_guarded) := ⟨rfl, rfl, rfl, by decide +kernel, rfl, by decide +kernel, by decide +kernel⟩
theorem ok_Turner_guarded (T : Txt K mg) : ∀ n : Nat, Met P w K mg base (2*n+5) (He.ga K "Turner") "guarded" (spGuard K n) := by
  intro n
  refine met_of T.d_Turner_guarded T.c_Turner T.m_Turner_guarded sc_Turner_guarded (fun _ _ _ _ _ _ us hl => match us, hl with | [_, _], _ => rfl) (fun vs H Q E h => ?_) (fun cdv A outer s H vs Q E hr h => ?_)
  · obtain ⟨t, τ, v, ss, rfl, ht, hd, hnI, hn, hnL, hwt, hmx, k⟩ := h
    rfl
  obtain ⟨t, τ, v, ss, rfl, ht, hd, hnI, hn, hnL, hwt, hmx, k⟩ := h
  have c_Turner_turned_all := ok_turned_all (P := P) (w := w) (base := base) T n true
  have sc := sc_Turner_guarded
  have hu := hu_of hr
  refine ⟨_, (pss_cons (pset 2 sc.nd (pmt c_Turner_turned_all hr (by omega) (pv 0) (pa_cons (pv 1) pa_nil)))
      (pss_cons (ps_if (PW.pt (pw_or (pt_cmpR op_isN (pe_fld (pv 0) rfl) pe_non (nomark _)) (pw_or1 (pt_cmpR op_eq (pb call_len T.b_len v_len (pa_cons (pv 2) pa_nil)) pe_int (nomark _))))) (pss_one (ps_ret (pv 2))) pss_nil)
      (pss_one (ps_ret (pe_lst (pa_cons (pe_tup (pa_cons pe_str (pa_cons (pe_op op_catA (pe_tup (pa_cons pe_str pa_nil)) (pe_slice sl_tupA (pe_fld (pv 0) rfl) po_none (po_some pe_int))) (pa_cons (pbt call_tuple_of T.b_tuple v_tuple (pa_cons (pv 2) pa_nil)) (pa_cons (pe_tup pa_nil) pa_nil))))) pa_nil)))))), ?_⟩
  obtain ⟨dx, d, vf, h1, h2, h3⟩ := id ht
  refine ⟨_, rfl, _, dx, _, rfl, h1, rfl, _, rfl, t, τ, v, ss, rfl, ht, hd, hnI, hn, hnL, hwt, hmx, fun l H1 xs s1 e1 a1 b1 => ?_⟩
  have ht1 := ht.up s1
  obtain ⟨dx, d, vf, h1, h2, h3⟩ := ht1
  unfold Tn.guard at k
  have ln : xs.length = (τ.all n ss).length := by rw [dpa_len b1, encL_map, List.length_map]
  cases hf : τ.flag with
  | none =>
    rw [hf] at h3 k
    cases h3
    refine ⟨_, rfl, _, _, dx, _, _, rfl, h1, T.c_Turner, T.n_Turner_flag, rfl, rfl, _, rfl, iteT ⟨_, rfl, ?_⟩⟩
    exact k l H1 xs s1 e1 a1 b1
  | some f =>
    rw [hf] at h3 k
    obtain ⟨a, rfl, ha⟩ := h3
    refine ⟨_, rfl, _, _, dx, _, _, rfl, h1, T.c_Turner, T.n_Turner_flag, rfl, rfl, _, rfl, iteF ?_⟩
    refine ⟨_, rfl, _, _, rfl, .inl ⟨_, SqL.of a1, rfl⟩, rfl, _, rfl, ?_⟩
    dsimp only at k
    by_cases h0 : τ.all n ss = []
    · rw [if_pos h0] at k
      rw [ln, h0]
      refine iteT ⟨_, rfl, ?_⟩
      refine k l H1 xs s1 e1 a1 ?_
      rw [h0] at b1
      exact b1
    · rw [if_neg h0] at k
      have lpos : 0 < xs.length := by
        rw [ln]
        exact Nat.pos_of_ne_zero (fun z => h0 (List.length_eq_zero_iff.mp z))
      rw [decide_eq_false (fun z => by
        have := V.int.inj z
        omega)]
      refine iteF ?_
      refine ⟨(by show 1 ≤ sizeLine; decide), fun p1 q1 => ?_⟩
      have s2 := Same.new (o := .tup [.str "same"]) q1
      refine ⟨_, rfl, _, _, dx, _, _, rfl, s2 _ _ h1, T.c_Turner, T.n_Turner_flag, rfl, _, rfl, slA_any (s2.tup ha) fun r3 H3 s3 h3' => ?_⟩
      replace h3' : SqT K H3 r3 [.str f, .str "b"] := h3'
      refine catA_any (s3.tup (SqT.of upd_same)) h3' (by show 3 ≤ sizeLine; decide) fun r4 H4 s4 h4 => ?_
      have a4 := s4 _ _ (s3 _ _ (s2 _ _ a1))
      refine ⟨_, rfl, l, xs, rfl, .inl ⟨SqL.of a4, fun p5 q5 => ⟨(by show 0 ≤ sizeLine; decide), fun p6 q6 => ⟨(by show 4 ≤ sizeLine; decide), fun p7 q7 => ⟨(by show 1 ≤ sizeLine; decide), fun p8 q8 => ?_⟩⟩⟩⟩⟩
      have s5 := Same.new (o := .tup xs) q5
      have s6 := Same.new (o := .tup []) q6
      have s7 := Same.new (o := .tup [.str "if", .ref r4, .ref p5, .ref p6]) q7
      have s8 := Same.new (o := .lst [.ref p7]) q8
      have e47 := s1.trans (s2.trans (s3.trans (s4.trans (s5.trans (s6.trans s7)))))
      refine k p8 _ _ (e47.trans s8) (e47.free q8) upd_same ?_
      rw [encL_cons, enc, encL]
      refine .cons (.tup (s8.tup (SqT.of upd_same)) (.cons (.str _) (.cons ?_ (.cons ?_ (.cons ?_ .nil))))) .nil
      · rw [encT]
        exact .tup ((s5.trans (s6.trans (s7.trans s8))).tup h4) (dpAll_strs ["same", f, "b"])
      · exact .tup ((s6.trans (s7.trans s8)).tup (SqT.of upd_same)) (b1.up (s2.trans (s3.trans (s4.trans (s5.trans (s6.trans (s7.trans s8)))))))
      · exact .tup ((s7.trans s8).tup (SqT.of upd_same)) .nil
theorem sc_flag_of : FnScope ["loop", "name"] ["loop", "name"] (defScope s_flag_of) := ⟨rfl, rfl, rfl, by decide +kernel, rfl, by decide +kernel, by decide +kernel⟩
theorem ok_flag_of (T : Txt K mg) : Cal P w K mg base (23) "flag_of" (spFlag K) := by
  refine cal_of T.d_flag_of T.g_flag_of sc_flag_of (fun _ _ _ _ _ _ us hl => match us, hl with | [_, _], _ => rfl) (fun vs H Q E h => ?_) (fun cdv A outer s H vs Q E hr h => ?_)
  · obtain ⟨o, nm, L, Rg, x, rfl, hL, hdp, hnl, k⟩ := h
    rfl
  obtain ⟨o, nm, L, Rg, x, rfl, hL, hdp, hnl, k⟩ := h
  have c_leaves_at : Cal P w K mg base 22 "leaves_at" (spLeaves K true 20) := ok_leaves T 20 true
  have c_Loop_section := ok_Loop_section (P := P) (w := w) (base := base) T
  have c_Names_apart := ok_Names_apart (P := P) (w := w) (base := base) T
  have sc := sc_flag_of
  have hu := hu_of hr
  refine ⟨_, (pss_cons (ps_if (pt_cmpR op_eq (pb call_len T.b_len v_len (pa_cons (pc c_leaves_at hr (by decide) (pa_cons (pmt c_Loop_section hr (by decide) (pv 0) (pa_cons pe_str pa_nil)) (pa_cons (pe_tup (pa_cons pe_str pa_nil)) pa_nil))) pa_nil)) pe_int (nomark _)) (pss_one (ps_ret pe_non)) pss_nil)
      (pss_one (ps_ret (pe_op op_catT (pe_tup (pa_cons (pv 1) pa_nil)) (pe_ix ix_list (pmt0 c_Names_apart hr (by decide) (pe_fld (pv 0) rfl)) pe_int (fun _ _ => rfl)))))), ?_⟩
  obtain ⟨dx, d, ar, kp, v1, v2, v3, h1, h2, h3, h4, h5, h6, h7, h8⟩ := id hL
  refine ⟨_, rfl, _, dx, _, rfl, h1, rfl, o, nm, L, Rg, "turn", L.turn, rfl, hL, rfl, fun p xs hp hxs => ⟨(by show 1 ≤ sizeLine; decide), fun q hq => ?_⟩⟩
  have s1 := Same.new (o := .lst xs) hp
  have s2 := Same.new (o := .tup [.str "turn"]) hq
  refine ⟨.ref p, L.turn, q, [.str "turn"], rfl, .lst (SqL.of (s2 _ _ upd_same)) (hxs.up (s1.trans s2)), SqT.of upd_same, (by show 1 + 2 * 20 ≤ 500; omega), hdp, hnl, fun H3 l ys s3 e3 a3 b3 => ?_⟩
  refine ⟨_, _, rfl, .inl ⟨_, SqL.of a3, rfl⟩, rfl, _, rfl, ?_⟩
  rw [b3]
  unfold flagOf at k
  have e03 := s1.trans (s2.trans s3)
  by_cases hz : nLs L.turn = 0
  · rw [if_pos hz] at k
    rw [hz]
    exact iteT (k _ _ e03 rfl)
  · rw [if_neg hz] at k
    rw [decide_eq_false (fun z => hz (by have := V.int.inj z; omega))]
    refine iteF ?_
    refine ⟨_, rfl, (by show 1 ≤ sizeLine; decide), fun p4 q4 => ?_⟩
    have s4 := e03.trans (Same.new (o := .tup [.str x]) q4)
    have n4 := h2.up s4
    obtain ⟨dn, cc, ff, td, dd, ru, fa, pa, p0, j0, jr⟩ := id n4
    refine ⟨_, rfl, _, _, dx, _, _, rfl, s4 _ _ h1, T.c_Loop, T.n_Loop_names, rfl, _, dn, _, rfl, j0, rfl, nm, rfl, n4, fun p5 q0 e5 hq0 => ?_⟩
    have s5 := Same.new (o := .lst [.ref q0]) e5
    refine ⟨p5, _, _, _, rfl, rfl, SqL.of upd_same, rfl, p4, q0, _, _, rfl, rfl, s5.tup (SqT.of upd_same), s5.tup hq0, (fun z => by cases z), (by show 3 ≤ sizeLine; decide), (fun z => by cases z), fun _ p6 q6 => ?_⟩
    exact k _ _ (s4.trans (s5.trans (Same.new q6))) ⟨p6, rfl, SqT.of upd_same⟩
theorem sc_check_leaves : FnScope ["loops", "loop", "found"] ["loops"] (defScope s_check_leaves) := ⟨rfl, rfl, rfl, by decide +kernel, rfl, by decide +kernel, by decide +kernel⟩
theorem ok_check_leaves (T : Txt K mg) : Cal P w K mg base (23) "check_leaves" (spChkL K) := by
  refine cal_of T.d_check_leaves T.g_check_leaves sc_check_leaves (fun _ _ _ _ _ _ us hl => match us, hl with | [_], _ => rfl) (fun vs H Q E h => ?_) (fun cdv A outer s H vs Q E hr h => ?_)
  · obtain ⟨a, o1, o2, nm, L1, L2, R1, R2, rfl, ha, hL1, hL2, hc1, hc2, k⟩ := h
    rfl
  obtain ⟨a, o1, o2, nm, L1, L2, R1, R2, rfl, ha, hL1, hL2, hc1, hc2, k⟩ := h
  have c_leaves_at : Cal P w K mg base 22 "leaves_at" (spLeaves K true 20) := ok_leaves T 20 true
  have c_Loop_section := ok_Loop_section (P := P) (w := w) (base := base) T
  have c_Names_apart := ok_Names_apart (P := P) (w := w) (base := base) T
  have sc := sc_check_leaves
  have hu := hu_of hr
  refine ⟨_, (pss_one (ps_for PassesOwn.never rfl (pi_list (pv 0)) (pgn 1 sc.nd)
        (pss_cons (pset 2 sc.nd (pc c_leaves_at hr (by decide) (pa_cons (pmt c_Loop_section hr (by decide) (pv 1) (pa_cons pe_str pa_nil)) (pa_cons (pe_tup (pa_cons pe_str pa_nil)) pa_nil))))
        (pss_one (ps_if (PW.pt (pw_and (pt_cmpR op_gt (pb call_len T.b_len v_len (pa_cons (pv 2) pa_nil)) pe_int (nomark _)) (pw_and1 (pt_cmpR op_eq (pb call_len T.b_len v_len (pa_cons (pmt0 c_Names_apart hr (by decide) (pe_fld (pv 1) rfl)) pa_nil)) pe_int (nomark _))))) (pss_one ps_never) pss_nil))))), ?_⟩
  refine ⟨_, rfl, a, rfl, ⟨_, SqL.of ha⟩, ?_⟩
  refine for_it (walk_list (xs := [.ref o1, .ref o2])) (fun i σ H7 => (∃ x1 x2, σ = [some (.ref a), x1, x2]) ∧ Same H H7) ⟨⟨_, _, rfl⟩, Same.refl _⟩ (fun i σ H7 _ z => SqL.of (z.2 _ _ ha)) ?_ ?_
  · rintro i x σ H7 H8 hi ⟨⟨x1, x2, rfl⟩, s7⟩ ⟨rfl, hx⟩
    have key : ∃ o L Rg, x = .ref o ∧ LoopAt K H o nm L Rg ∧ deps L.turn ≤ 20 ∧ nLs L.turn ≤ 1000 := by
      match i, hx with
      | 0, hx => cases hx; exact ⟨o1, L1, R1, rfl, hL1, hc1⟩
      | 1, hx => cases hx; exact ⟨o2, L2, R2, rfl, hL2, hc2⟩
      | i + 2, hx => cases hx
    obtain ⟨o, L, Rg, rfl, hL0, hdp, hnl⟩ := key
    have hL := hL0.up s7
    obtain ⟨dx, d, ar, kp, v1, v2, v3, h1, h2, h3, h4, h5, h6, h7, h8⟩ := id hL
    refine ⟨_, rfl, _, dx, _, rfl, h1, rfl, o, nm, L, Rg, "turn", L.turn, rfl, hL, rfl, fun p xs hp hxs => ⟨(by show 1 ≤ sizeLine; decide), fun q hq => ?_⟩⟩
    have s1 := Same.new (o := .lst xs) hp
    have s2 := Same.new (o := .tup [.str "turn"]) hq
    refine ⟨.ref p, L.turn, q, [.str "turn"], rfl, .lst (SqL.of (s2 _ _ upd_same)) (hxs.up (s1.trans s2)), SqT.of upd_same, (by show 1 + 2 * 20 ≤ 500; omega), hdp, hnl, fun H3 l ys s3 e3 a3 b3 => ?_⟩
    have e03 := s7.trans (s1.trans (s2.trans s3))
    refine ⟨_, rfl, _, _, rfl, .inl ⟨_, SqL.of a3, rfl⟩, _, _, rfl, rfl, _, rfl, ?_⟩
    refine ite2 (fun _ => ?_) (fun _ => iteF ⟨⟨_, _, rfl⟩, e03⟩)
    have n4 := (h2.up (s1.trans (s2.trans s3)))
    obtain ⟨dn, cc, ff, td, dd, ru, fa, pa, p0, j0, jr⟩ := id n4
    refine ⟨_, rfl, _, _, dx, _, _, rfl, (s1.trans (s2.trans s3)) _ _ h1, T.c_Loop, T.n_Loop_names, rfl, _, dn, _, rfl, j0, rfl, nm, rfl, n4, fun p5 q0 e5 hq0 => ?_⟩
    refine ⟨_, _, rfl, .inl ⟨_, SqL.of upd_same, rfl⟩, rfl, _, rfl, iteF ?_⟩
    exact ⟨⟨_, _, rfl⟩, e03.trans (Same.new e5)⟩
  · rintro σ H7 ⟨_, s7⟩
    exact k _ s7
end
end K21
set_option Elab.async false
set_option linter.all false
set_option maxRecDepth 100000
set_option maxHeartbeats 1000000
namespace K21
open PySem PySem.Spec PyProof.Rows L2
def spBeside (K : PySem.W.Frag) : Sp := fun vs H Q _ => ∃ o1 o2 nm L1 L2 R1 R2, vs = [.ref o1, .ref o2] ∧ LoopAt K H o1 nm L1 R1 ∧ LoopAt K H o2 nm L2 R2 ∧ LpOk L1 R1 ∧ LpOk L2 R2 ∧ ∀ o H' Rt, Same H H' → LoopAt K H' o nm (told L1 L2 R2) Rt → Q (.ref o) H'
theorem zip_ren {R2 : List Str} (h : R2 = rs2 ∨ R2 = rs3) : mergeK [] ((R2.map fun x => (Sum.inr x : Key)).zip ((spares.take (R2.length + 2)).map V.str)) = renK (R2.zip spares) := by
  rcases h with rfl | rfl <;> rfl
theorem nm_at {R2 : List Str} (h : R2 = rs2 ∨ R2 = rs3) : atI ((spares.take (R2.length + 2)).map V.str) (-2) = some (.str (spares.getD R2.length "")) ∧ atI ((spares.take (R2.length + 2)).map V.str) (-1) = some (.str (spares.getD (R2.length + 1) "")) := by
  rcases h with rfl | rfl <;> exact ⟨rfl, rfl⟩
theorem sp_free {R1 : List Str} (h : R1 = rs2 ∨ R1 = rs3) : ∀ x ∈ spares, (used ++ R1).contains x = false := by
  rcases h with rfl | rfl <;> decide +kernel
theorem rg_len {R : List Str} (h : R = rs2 ∨ R = rs3) : R.length ≤ 3 := by
  rcases h with rfl | rfl <;> decide
theorem keysV (R : List Str) : (R.map fun x => (Sum.inr x : Key)).map kV = R.map V.str := by
  rw [List.map_map]
  rfl
/-- what LpOk says of one section -/
structure SecOk (ss : List Stm) : Prop where
  i : nIs ss < 20
  w : wts ss ≤ 45
  m : mxs ss ≤ 500
theorem secOk_of {turn : Bool} {ss : List Stm} {p q : Put} (h1 : nIs ss < 20) (h2 : wts ss ≤ 45) (h3 : chkL turn ss p = some q) : SecOk ss := ⟨h1, h2, by
  have := mx_chkL turn ss p q h3
  omega⟩
theorem deps_app : ∀ a b : List Stm, deps (a ++ b) = max (deps a) (deps b)
  | [], b => by rw [List.nil_append, deps]; omega
  | s :: r, b => by rw [List.cons_append, deps_cons, deps_app r b, deps_cons]; omega
theorem raise_size (τ : Tn) : deps (raise τ) = 0 ∧ (raise τ).length ≤ 1 ∧ mxs (raise τ) ≤ 3 := by
  unfold raise
  split
  · rw [deps, mxs_nil]
    simp
  · rw [deps_cons, deps, mxs_cons, mxs_nil]
    simp [Stm.dep, Stm.mx]
theorem all_size (τ : Tn) {ss : List Stm} (u : SecOk ss) : deps (τ.all 20 ss) ≤ 19 ∧ (τ.all 20 ss).length ≤ 45 ∧ mxs (τ.all 20 ss) ≤ 500 := by
  obtain ⟨q1, q2, q3⟩ := tn_size τ 20 ss
  have := u.i
  have h1 := u.w
  have h2 := u.m
  refine ⟨by omega, by omega, Nat.le_trans q2 (Nat.max_le.mpr ⟨h2, Nat.max_le.mpr ⟨by omega, by omega⟩⟩)⟩
theorem guard_size (τ : Tn) {ss : List Stm} (u : SecOk ss) : deps (τ.guard 20 ss) ≤ 20 ∧ (τ.guard 20 ss).length ≤ 45 ∧ mxs (τ.guard 20 ss) ≤ 500 := by
  obtain ⟨q1, q2, q3⟩ := all_size τ u
  unfold Tn.guard
  split
  · exact ⟨by omega, q2, q3⟩
  · split
    · rw [deps, mxs_nil]
      simp
    · rw [deps_cons, deps, dep_ite, mxs_cons, mxs_nil, mx_ite, deps, mxs_nil]
      refine ⟨by omega, by simp, ?_⟩
      refine Nat.max_le.mpr ⟨Nat.max_le.mpr ⟨by simp [tw], Nat.max_le.mpr ⟨Nat.max_le.mpr ⟨by omega, q3⟩, by simp⟩⟩, by omega⟩
theorem told_size {L1 L2 : Lp} {R1 R2 : List Str} (k1 : LpOk L1 R1) (k2 : LpOk L2 R2) : (deps (told L1 L2 R2).start ≤ 20 ∧ max (told L1 L2 R2).start.length (mxs (told L1 L2 R2).start) ≤ 1000) ∧ (deps (told L1 L2 R2).turn ≤ 20 ∧ max (told L1 L2 R2).turn.length (mxs (told L1 L2 R2).turn) ≤ 1000) ∧ (deps (told L1 L2 R2).fin ≤ 20 ∧ max (told L1 L2 R2).fin.length (mxs (told L1 L2 R2).fin) ≤ 1000) := by
  obtain ⟨p1, a1, a2, a3, a4, a5⟩ := k1.chk
  obtain ⟨p2, b1, b2, b3, b4, b5⟩ := k2.chk
  have u1s : SecOk L1.start := secOk_of k1.ifs.1 k1.small.1 a3
  have u1t : SecOk L1.turn := secOk_of k1.ifs.2.1 k1.small.2.1 a4
  have u1f : SecOk L1.fin := secOk_of k1.ifs.2.2 k1.small.2.2 a5
  have u2s : SecOk L2.start := secOk_of k2.ifs.1 k2.small.1 b3
  have u2t : SecOk L2.turn := secOk_of k2.ifs.2.1 k2.small.2.1 b4
  have u2f : SecOk L2.fin := secOk_of k2.ifs.2.2 k2.small.2.2 b5
  obtain ⟨c1, c2, c3⟩ := raise_size (tn1 L1 R2)
  obtain ⟨d1, d2, d3⟩ := raise_size (tn2 L2 R2)
  obtain ⟨e1, e2, e3⟩ := all_size (tn1 L1 R2) u1s
  obtain ⟨f1, f2, f3⟩ := all_size (tn2 L2 R2) u2s
  obtain ⟨g1, g2, g3⟩ := guard_size (tn1 L1 R2) u1t
  obtain ⟨h1, h2, h3⟩ := guard_size (tn2 L2 R2) u2t
  obtain ⟨i1, i2, i3⟩ := all_size (tn1 L1 R2) u1f
  obtain ⟨j1, j2, j3⟩ := all_size (tn2 L2 R2) u2f
  have mle : ∀ {x y z : Nat}, x ≤ z → y ≤ z → max x y ≤ z := fun h1 h2 => Nat.max_le.mpr ⟨h1, h2⟩
  refine ⟨⟨?_, ?_⟩, ⟨?_, ?_⟩, ⟨?_, ?_⟩⟩
  · show deps (_ ++ (_ ++ (_ ++ _))) ≤ 20
    rw [deps_app, deps_app, deps_app]
    exact mle (by omega) (mle (by omega) (mle (by omega) (by omega)))
  · show max (List.length (_ ++ (_ ++ (_ ++ _)))) (mxs (_ ++ (_ ++ (_ ++ _)))) ≤ 1000
    rw [mxs_app, mxs_app, mxs_app, List.length_append, List.length_append, List.length_append]
    exact mle (by omega) (mle (by omega) (mle (by omega) (mle (by omega) (by omega))))
  · show deps (_ ++ _) ≤ 20
    rw [deps_app]
    exact mle g1 h1
  · show max (List.length (_ ++ _)) (mxs (_ ++ _)) ≤ 1000
    rw [mxs_app, List.length_append]
    exact mle (by omega) (mle (by omega) (by omega))
  · show deps (_ ++ _) ≤ 20
    rw [deps_app]
    exact mle (by omega) (by omega)
  · show max (List.length (_ ++ _)) (mxs (_ ++ _)) ≤ 1000
    rw [mxs_app, List.length_append]
    exact mle (by omega) (mle (by omega) (by omega))
theorem make_same {H H' : Hp} {x dx : Addr} {C : Addr} (hx : H x = none) (hdx : H dx = none) (h : hid x H' = hid x (upd (upd H dx (.own x)) x (.ins C dx []))) : Same H H' := by
  refine Same.trans (hid_of hx (Same.refl H)) (Same.trans (H1 := hid x H') ?_ hid_in)
  rw [h, hid_upd]
  exact (Same.new hdx).hid
section
variable {P : Program} {w : World} {K : PySem.W.Frag} {mg : Str → Option Value} {base : Heap}
theorem sc_beside : FnScope ["one", "other", "names", "first", "second", "start", "turn"] ["one", "other"] (defScope s_beside) := ⟨rfl, rfl, rfl, by decide +kernel, rfl, by decide +kernel, by decide +kernel⟩
theorem ok_beside (T : Txt K mg) : Cal P w K mg base (49) "beside" (spBeside K) := by
  refine cal_of T.d_beside T.g_beside sc_beside (fun _ _ _ _ _ _ us hl => match us, hl with | [_, _], _ => rfl) (fun vs H Q E h => ?_) (fun cdv A outer s H vs Q E hr h => ?_)
  · obtain ⟨o1, o2, nm, L1, L2, R1, R2, rfl, hL1, hL2, k1, k2, k⟩ := h
    rfl
  obtain ⟨o1, o2, nm, L1, L2, R1, R2, rfl, hL1, hL2, k1, k2, k⟩ := h
  have X := exN_of T
  obtain ⟨fdE, FE, bE⟩ := ok_Names_eq (P := P) (w := w) (base := base) T
  have c_check_leaves := ok_check_leaves (P := P) (w := w) (base := base) T
  have c_spare_names := ok_spare_names (P := P) (w := w) (base := base) T
  have c_Names_all_names := ok_Names_all_names (P := P) (w := w) (base := base) T
  have c_Loop_registers := ok_Loop_registers (P := P) (w := w) (base := base) T
  have c_Loop_section := ok_Loop_section (P := P) (w := w) (base := base) T
  have c_Turner : Mak P w K mg base 1 "Turner" (He.ga K "Turner") (spTInit K) := ok_Turner_init T
  have c_flag_of := ok_flag_of (P := P) (w := w) (base := base) T
  have c_Turner_raised := ok_Turner_raised (P := P) (w := w) (base := base) T
  have c_Turner_turned_all : Met P w K mg base 44 (He.ga K "Turner") "turned_all" (spTall K true 20) := ok_turned_all T 20 true
  have c_Turner_guarded : Met P w K mg base 45 (He.ga K "Turner") "guarded" (spGuard K 20) := ok_Turner_guarded T 20
  have c_Loop : Mak P w K mg base 47 "Loop" (He.ga K "Loop") (spLoopInit K false 20) := ok_Loop_init (b := false) T 20
  have sc := sc_beside
  have hu := hu_of hr
  refine ⟨_, (pss_cons (ps_if (pt_cmpR (op_neOwn FE X.mro X.ne X.eq X.fn bE (hr.mono (by omega))) (pe_fld (pv 0) rfl) (pe_fld (pv 1) rfl) (nomark _)) (pss_one ps_never) pss_nil)
      (pss_cons (ps_expr (pc c_check_leaves hr (by omega) (pa_cons (pe_lst (pa_cons (pv 0) (pa_cons (pv 1) pa_nil))) pa_nil)))
      (pss_cons (pset 2 sc.nd (pc c_spare_names hr (by omega) (pa_cons (pe_op op_cat (pmt0 c_Names_all_names hr (by omega) (pe_fld (pv 0) rfl)) (pmt0 c_Loop_registers hr (by omega) (pv 0))) (pa_cons (pe_op op_add (pb call_len T.b_len v_len (pa_cons (pmt0 c_Loop_registers hr (by omega) (pv 1)) pa_nil)) pe_int) pa_nil))))
      (pss_cons (pset 3 sc.nd (pmk c_Turner hr (by omega) (pa_cons (pe_dnewK) (pa_cons pe_str (pa_cons (pc c_flag_of hr (by omega) (pa_cons (pv 0) (pa_cons (pe_ix ix_list (pv 2) (pe_un un_neg pe_int) (fun _ _ => rfl)) pa_nil))) pa_nil)))))
      (pss_cons (pset 4 sc.nd (pmk c_Turner hr (by omega) (pa_cons (pe_dictZip rfl (pa_cons (pmt0 c_Loop_registers hr (by omega) (pv 1)) (pa_cons (pv 2) pa_nil)) T.b_dict T.b_zip) (pa_cons pe_str (pa_cons (pc c_flag_of hr (by omega) (pa_cons (pv 1) (pa_cons (pe_ix ix_list (pv 2) (pe_un un_neg pe_int) (fun _ _ => rfl)) pa_nil))) pa_nil)))))
      (pss_cons (pset 5 sc.nd (pe_op op_cat (pe_op op_cat (pmt0 c_Turner_raised hr (by omega) (pv 3)) (pmt0 c_Turner_raised hr (by omega) (pv 4))) (pmt c_Turner_turned_all hr (by omega) (pv 3) (pa_cons (pmt c_Loop_section hr (by omega) (pv 0) (pa_cons pe_str pa_nil)) pa_nil))))
      (pss_cons (pset 5 sc.nd (pe_op op_cat (pv 5) (pmt c_Turner_turned_all hr (by omega) (pv 4) (pa_cons (pmt c_Loop_section hr (by omega) (pv 1) (pa_cons pe_str pa_nil)) pa_nil))))
      (pss_cons (pset 6 sc.nd (pe_op op_cat (pmt c_Turner_guarded hr (by omega) (pv 3) (pa_cons (pmt c_Loop_section hr (by omega) (pv 0) (pa_cons pe_str pa_nil)) pa_nil)) (pmt c_Turner_guarded hr (by omega) (pv 4) (pa_cons (pmt c_Loop_section hr (by omega) (pv 1) (pa_cons pe_str pa_nil)) pa_nil))))
      (pss_one (ps_ret (pmk c_Loop hr (by omega) (pa_cons (pe_fld (pv 0) rfl) (pa_cons (pv 5) (pa_cons (pv 6) (pa_cons (pe_op op_cat (pmt c_Turner_turned_all hr (by omega) (pv 3) (pa_cons (pmt c_Loop_section hr (by omega) (pv 0) (pa_cons pe_str pa_nil)) pa_nil)) (pmt c_Turner_turned_all hr (by omega) (pv 4) (pa_cons (pmt c_Loop_section hr (by omega) (pv 1) (pa_cons pe_str pa_nil)) pa_nil))) pa_nil))))))))))))))), ?_⟩
  obtain ⟨p1, a1, a2, a3, a4, a5⟩ := k1.chk
  obtain ⟨p2, b1, b2, b3, b4, b5⟩ := k2.chk
  have u1s : SecOk L1.start := secOk_of k1.ifs.1 k1.small.1 a3
  have u1t : SecOk L1.turn := secOk_of k1.ifs.2.1 k1.small.2.1 a4
  have u1f : SecOk L1.fin := secOk_of k1.ifs.2.2 k1.small.2.2 a5
  have u2s : SecOk L2.start := secOk_of k2.ifs.1 k2.small.1 b3
  have u2t : SecOk L2.turn := secOk_of k2.ifs.2.1 k2.small.2.1 b4
  have u2f : SecOk L2.fin := secOk_of k2.ifs.2.2 k2.small.2.2 b5
  have lf : ∀ {ss : List Stm}, SecOk ss → deps ss ≤ 20 ∧ nLs ss ≤ 1000 := fun {ss} u => ⟨Nat.le_trans (deps_nIs ss) (by have := u.i; omega), Nat.le_trans (nLs_wts ss) (by have := u.w; omega)⟩
  obtain ⟨dx1, d1, ar1, kp1, v11, v12, v13, i1, hn, _, _, _, _, hr1, hrk1⟩ := id hL1
  obtain ⟨dx2, d2, ar2, kp2, v21, v22, v23, i2, _, _, _, _, _, hr2, hrk2⟩ := id hL2
  obtain ⟨dn, cc, ff, td, dd, ru, fa, pa, p0, j0, jr⟩ := id hn
  refine ⟨_, rfl, _, _, dx1, _, _, rfl, i1, T.c_Loop, T.n_Loop_names, rfl, _, rfl, _, _, dx2, _, _, rfl, i2, T.c_Loop, T.n_Loop_names, rfl, nm, nm, dn, dn, _, _, rfl, rfl, j0, j0, ⟨nm, rfl, hn, true, rfl, _, rfl, iteF ?_⟩⟩
  -- the check
  refine ⟨_, rfl, _, rfl, (by show 2 ≤ sizeLine; decide), fun q1 hq1 => ?_⟩
  have e1 := Same.new (o := .lst [.ref o1, .ref o2]) hq1
  refine ⟨q1, o1, o2, nm, L1, L2, R1, R2, rfl, upd_same, hL1.up e1, hL2.up e1, lf u1t, lf u2t, fun H2 s2 => ?_⟩
  have e2 := e1.trans s2
  -- the names
  refine ⟨_, rfl, _, _, dx1, _, _, rfl, e2 _ _ i1, T.c_Loop, T.n_Loop_names, rfl, _, dn, _, rfl, e2 _ _ j0, rfl, nm, rfl, hn.up e2, fun l1 H3 s3 f3 g3 => ?_⟩
  have e3 := e2.trans s3
  refine ⟨_, rfl, _, dx1, _, rfl, e3 _ _ i1, rfl, o1, nm, L1, R1, rfl, hL1.up e3, fun l2 f4 => ?_⟩
  have s4 := Same.new (o := .lst (R1.map V.str)) f4
  have rl1 := rg_len k1.rg
  have rl2 := rg_len k2.rg
  refine ⟨l1, l2, _, _, rfl, rfl, s4 _ _ g3, upd_same, Nat.le_trans (by show 7 + (R1.map V.str).length ≤ 1000; rw [List.length_map]; omega) (by decide), fun l3 f5 => ?_⟩
  have s5 := Same.new (o := .lst (used.map V.str ++ R1.map V.str)) f5
  have e5 := e3.trans (s4.trans s5)
  refine ⟨_, rfl, _, dx2, _, rfl, e5 _ _ i2, rfl, o2, nm, L2, R2, rfl, hL2.up e5, fun l4 f6 => ?_⟩
  have s6 := Same.new (o := .lst (R2.map V.str)) f6
  have e6 := e5.trans s6
  refine ⟨_, _, rfl, .inl ⟨_, SqL.of upd_same, rfl⟩, _, _, rfl, rfl, ?_⟩
  refine ⟨l3, used ++ R1, R2.length + 2, ?_, ?_, sp_free k1.rg, by omega, fun l5 H7 s7 f7 g7 => ?_⟩
  · show [V.ref l3, V.int (((R2.map V.str).length : Nat) + 2)] = _
    rw [List.length_map]
    rfl
  · rw [List.map_append]
    exact s6 _ _ upd_same
  have e7 := e6.trans s7
  -- the first turner
  refine fun d3 f8 => ?_
  have s8 := Same.new (o := .dK []) f8
  have e8 := e7.trans s8
  refine ⟨_, rfl, _, rfl, _, rfl, _, _, _, _, rfl, rfl, SqL.of (s8 _ _ g7), (nm_at k2.rg).1, o1, nm, L1, R1, _, rfl, hL1.up e8, (lf u1t).1, (lf u1t).2, fun vf1 H9 s9 fl1 => ?_⟩
  refine fun t1 dt1 ft1 fdt1 nt1 => ⟨t1, d3, dt1, vf1, rfl, upd_same, fun H10 hh10 o10 => ⟨rfl, ?_⟩⟩
  have s10 : Same H9 H10 := make_same ft1 fdt1 hh10
  have e10 := e8.trans (s9.trans s10)
  have T1 : TurnAt K H10 t1 (tn1 L1 R2) := ⟨dt1, d3, vf1, o10, (s9.trans s10) _ _ upd_same, fl1.up s10⟩
  -- the second
  refine ⟨_, rfl, _, dx2, _, rfl, e10 _ _ i2, rfl, o2, nm, L2, R2, rfl, hL2.up e10, fun l6 f11 => ?_⟩
  have s11 := Same.new (o := .lst (R2.map V.str)) f11
  have e11 := e10.trans s11
  have g11 := (s8.trans (s9.trans (s10.trans s11))) _ _ g7
  refine ⟨_, rfl, l6, l5, R2.map (fun x => (Sum.inr x : Key)), (spares.take (R2.length + 2)).map V.str, rfl, ?_, SqL.of g11, fun d4 f12 => ?_⟩
  · rw [keysV]
    exact SqL.of upd_same
  rw [zip_ren k2.rg]
  have s12 := Same.new (o := .dK (renK (R2.zip spares))) f12
  have e12 := e11.trans s12
  refine ⟨_, rfl, _, rfl, _, rfl, _, _, _, _, rfl, rfl, SqL.of (s12 _ _ g11), (nm_at k2.rg).2, o2, nm, L2, R2, _, rfl, hL2.up e12, (lf u2t).1, (lf u2t).2, fun vf2 H13 s13 fl2 => ?_⟩
  refine fun t2 dt2 ft2 fdt2 nt2 => ⟨t2, d4, dt2, vf2, rfl, upd_same, fun H14 hh14 o14 => ⟨rfl, ?_⟩⟩
  have s14 : Same H13 H14 := make_same ft2 fdt2 hh14
  have s1014 := s11.trans (s12.trans (s13.trans s14))
  have e14 := e10.trans s1014
  have T2 : TurnAt K H14 t2 (tn2 L2 R2) := ⟨dt2, d4, vf2, o14, (s13.trans s14) _ _ upd_same, fl2.up s14⟩
  have T1' := T1.up s1014
  have fl1' : ∀ {ss : List Stm}, ss = L1.turn → nLs ss = 0 ∨ ∃ f, (tn1 L1 R2).flag = some f := fun e => by
    rw [e]
    exact flag_has L1 _
  have fl2' : ∀ {ss : List Stm}, ss = L2.turn → nLs ss = 0 ∨ ∃ f, (tn2 L2 R2).flag = some f := fun e => by
    rw [e]
    exact flag_has L2 _
  -- start
  obtain ⟨dxd101, dad101, vad101, id101, _⟩ := id T1'
  refine ⟨_, rfl, _, dxd101, _, rfl, id101, rfl, t1, _, rfl, T1', fun m102 H103 x104 s105 f106 a107 b108 => ?_⟩
  have lex104 : x104.length ≤ 1 := by
    rw [dpa_len b108, encL_map, List.length_map]
    unfold raise
    split <;> simp
  obtain ⟨dxd109, dad109, vad109, id109, _⟩ := id (T2.up s105)
  refine ⟨_, rfl, _, dxd109, _, rfl, id109, rfl, t2, _, rfl, (T2.up s105), fun m110 H111 x112 s113 f114 a115 b116 => ?_⟩
  have lex112 : x112.length ≤ 1 := by
    rw [dpa_len b116, encL_map, List.length_map]
    unfold raise
    split <;> simp
  refine ⟨m102, m110, _, _, rfl, rfl, (s113 _ _ a107), a115, Nat.le_trans (by first | omega | (simp only [List.length_append]; omega) : _ ≤ 3000) (by decide), fun m117 f118 => ?_⟩
  have s119 := Same.new (o := .lst (x104 ++ x112)) f118
  have dp120 := dpa_app (b108.up s113) b116
  obtain ⟨dxd122, dad122, vad122, id122, _⟩ := id (T1'.up (s105.trans (s113.trans s119)))
  refine ⟨_, rfl, _, dxd122, _, rfl, id122, rfl, _, rfl, _, dx1, _, rfl, (e14.trans (s105.trans (s113.trans s119))) _ _ i1, rfl, o1, nm, L1, R1, "start", L1.start, rfl, hL1.up (e14.trans (s105.trans (s113.trans s119))), rfl, fun m123 x124 f125 b126 => ?_⟩
  have s127 := Same.new (o := .lst x124) f125
  refine ⟨t1, tn1 L1 R2, .ref m123, L1.start, rfl, (T1'.up (s105.trans (s113.trans (s119.trans s127)))), .lst (SqL.of upd_same) (b126.up s127), u1s.i, by omega, (.inl k1.noL.1), (Nat.le_trans u1s.w (by omega)), u1s.m, fun m128 H129 x130 s131 f132 a133 b134 => ?_⟩
  have lex130 : x130.length ≤ 500 := by
    rw [dpa_len b134, encL_map, List.length_map]
    have q := (tn_size (tn1 L1 R2) 20 L1.start).1
    have q2 := u1s.w
    omega
  refine ⟨m117, m128, _, _, rfl, rfl, ((s127.trans s131) _ _ upd_same), a133, Nat.le_trans (by first | omega | (simp only [List.length_append]; omega) : _ ≤ 3000) (by decide), fun m135 f136 => ?_⟩
  have s137 := Same.new (o := .lst ((x104 ++ x112) ++ x130)) f136
  have dp138 := dpa_app ((dp120.up s119).up (s127.trans s131)) b134
  obtain ⟨dxd140, dad140, vad140, id140, _⟩ := id (T2.up (s105.trans (s113.trans (s119.trans (s127.trans (s131.trans s137))))))
  refine ⟨_, rfl, _, rfl, _, dxd140, _, rfl, id140, rfl, _, rfl, _, dx2, _, rfl, (e14.trans (s105.trans (s113.trans (s119.trans (s127.trans (s131.trans s137)))))) _ _ i2, rfl, o2, nm, L2, R2, "start", L2.start, rfl, hL2.up (e14.trans (s105.trans (s113.trans (s119.trans (s127.trans (s131.trans s137)))))), rfl, fun m141 x142 f143 b144 => ?_⟩
  have s145 := Same.new (o := .lst x142) f143
  refine ⟨t2, tn2 L2 R2, .ref m141, L2.start, rfl, (T2.up (s105.trans (s113.trans (s119.trans (s127.trans (s131.trans (s137.trans s145))))))), .lst (SqL.of upd_same) (b144.up s145), u2s.i, by omega, (.inl k2.noL.1), (Nat.le_trans u2s.w (by omega)), u2s.m, fun m146 H147 x148 s149 f150 a151 b152 => ?_⟩
  have lex148 : x148.length ≤ 500 := by
    rw [dpa_len b152, encL_map, List.length_map]
    have q := (tn_size (tn2 L2 R2) 20 L2.start).1
    have q2 := u2s.w
    omega
  refine ⟨m135, m146, _, _, rfl, rfl, ((s145.trans s149) _ _ upd_same), a151, Nat.le_trans (by first | omega | (simp only [List.length_append]; omega) : _ ≤ 3000) (by decide), fun m153 f154 => ?_⟩
  have s155 := Same.new (o := .lst (((x104 ++ x112) ++ x130) ++ x148)) f154
  have dp156 := dpa_app ((dp138.up s137).up (s145.trans s149)) b152
  -- turn
  obtain ⟨dxd158, dad158, vad158, id158, _⟩ := id (T1'.up (s105.trans (s113.trans (s119.trans (s127.trans (s131.trans (s137.trans (s145.trans (s149.trans s155)))))))))
  refine ⟨_, rfl, _, dxd158, _, rfl, id158, rfl, _, rfl, _, dx1, _, rfl, (e14.trans (s105.trans (s113.trans (s119.trans (s127.trans (s131.trans (s137.trans (s145.trans (s149.trans s155))))))))) _ _ i1, rfl, o1, nm, L1, R1, "turn", L1.turn, rfl, hL1.up (e14.trans (s105.trans (s113.trans (s119.trans (s127.trans (s131.trans (s137.trans (s145.trans (s149.trans s155))))))))), rfl, fun m159 x160 f161 b162 => ?_⟩
  have s163 := Same.new (o := .lst x160) f161
  refine ⟨t1, tn1 L1 R2, .ref m159, L1.turn, rfl, (T1'.up (s105.trans (s113.trans (s119.trans (s127.trans (s131.trans (s137.trans (s145.trans (s149.trans (s155.trans s163)))))))))), .lst (SqL.of upd_same) (b162.up s163), u1t.i, by omega, (fl1' rfl), (Nat.le_trans u1t.w (by omega)), u1t.m, fun m164 H165 x166 s167 f168 a169 b170 => ?_⟩
  have lex166 : x166.length ≤ 500 := by
    rw [dpa_len b170, encL_map, List.length_map]
    have q := (tn_size (tn1 L1 R2) 20 L1.turn).1
    have q2 := u1t.w
    unfold Tn.guard
    split
    · omega
    · split <;> simp
  obtain ⟨dxd171, dad171, vad171, id171, _⟩ := id (T2.up (s105.trans (s113.trans (s119.trans (s127.trans (s131.trans (s137.trans (s145.trans (s149.trans (s155.trans (s163.trans s167)))))))))))
  refine ⟨_, rfl, _, dxd171, _, rfl, id171, rfl, _, rfl, _, dx2, _, rfl, (e14.trans (s105.trans (s113.trans (s119.trans (s127.trans (s131.trans (s137.trans (s145.trans (s149.trans (s155.trans (s163.trans s167))))))))))) _ _ i2, rfl, o2, nm, L2, R2, "turn", L2.turn, rfl, hL2.up (e14.trans (s105.trans (s113.trans (s119.trans (s127.trans (s131.trans (s137.trans (s145.trans (s149.trans (s155.trans (s163.trans s167))))))))))), rfl, fun m172 x173 f174 b175 => ?_⟩
  have s176 := Same.new (o := .lst x173) f174
  refine ⟨t2, tn2 L2 R2, .ref m172, L2.turn, rfl, (T2.up (s105.trans (s113.trans (s119.trans (s127.trans (s131.trans (s137.trans (s145.trans (s149.trans (s155.trans (s163.trans (s167.trans s176)))))))))))), .lst (SqL.of upd_same) (b175.up s176), u2t.i, by omega, (fl2' rfl), (Nat.le_trans u2t.w (by omega)), u2t.m, fun m177 H178 x179 s180 f181 a182 b183 => ?_⟩
  have lex179 : x179.length ≤ 500 := by
    rw [dpa_len b183, encL_map, List.length_map]
    have q := (tn_size (tn2 L2 R2) 20 L2.turn).1
    have q2 := u2t.w
    unfold Tn.guard
    split
    · omega
    · split <;> simp
  refine ⟨m164, m177, _, _, rfl, rfl, ((s176.trans s180) _ _ a169), a182, Nat.le_trans (by first | omega | (simp only [List.length_append]; omega) : _ ≤ 3000) (by decide), fun m184 f185 => ?_⟩
  have s186 := Same.new (o := .lst (x166 ++ x179)) f185
  have dp187 := dpa_app (b170.up (s176.trans s180)) b183
  -- end
  have i1c := (e14.trans (s105.trans (s113.trans (s119.trans (s127.trans (s131.trans (s137.trans (s145.trans (s149.trans (s155.trans (s163.trans (s167.trans (s176.trans (s180.trans s186)))))))))))))) _ _ i1
  obtain ⟨dxd189, dad189, vad189, id189, _⟩ := id (T1'.up (s105.trans (s113.trans (s119.trans (s127.trans (s131.trans (s137.trans (s145.trans (s149.trans (s155.trans (s163.trans (s167.trans (s176.trans (s180.trans s186))))))))))))))
  refine ⟨_, rfl, _, _, dx1, _, _, rfl, i1c, T.c_Loop, T.n_Loop_names, rfl, _, rfl, _, rfl, _, rfl, _, dxd189, _, rfl, id189, rfl, _, rfl, _, dx1, _, rfl, (e14.trans (s105.trans (s113.trans (s119.trans (s127.trans (s131.trans (s137.trans (s145.trans (s149.trans (s155.trans (s163.trans (s167.trans (s176.trans (s180.trans s186)))))))))))))) _ _ i1, rfl, o1, nm, L1, R1, "end", L1.fin, rfl, hL1.up (e14.trans (s105.trans (s113.trans (s119.trans (s127.trans (s131.trans (s137.trans (s145.trans (s149.trans (s155.trans (s163.trans (s167.trans (s176.trans (s180.trans s186)))))))))))))), rfl, fun m190 x191 f192 b193 => ?_⟩
  have s194 := Same.new (o := .lst x191) f192
  refine ⟨t1, tn1 L1 R2, .ref m190, L1.fin, rfl, (T1'.up (s105.trans (s113.trans (s119.trans (s127.trans (s131.trans (s137.trans (s145.trans (s149.trans (s155.trans (s163.trans (s167.trans (s176.trans (s180.trans (s186.trans s194))))))))))))))), .lst (SqL.of upd_same) (b193.up s194), u1f.i, by omega, (.inl k1.noL.2), (Nat.le_trans u1f.w (by omega)), u1f.m, fun m195 H196 x197 s198 f199 a200 b201 => ?_⟩
  have lex197 : x197.length ≤ 500 := by
    rw [dpa_len b201, encL_map, List.length_map]
    have q := (tn_size (tn1 L1 R2) 20 L1.fin).1
    have q2 := u1f.w
    omega
  obtain ⟨dxd202, dad202, vad202, id202, _⟩ := id (T2.up (s105.trans (s113.trans (s119.trans (s127.trans (s131.trans (s137.trans (s145.trans (s149.trans (s155.trans (s163.trans (s167.trans (s176.trans (s180.trans (s186.trans (s194.trans s198))))))))))))))))
  refine ⟨_, rfl, _, dxd202, _, rfl, id202, rfl, _, rfl, _, dx2, _, rfl, (e14.trans (s105.trans (s113.trans (s119.trans (s127.trans (s131.trans (s137.trans (s145.trans (s149.trans (s155.trans (s163.trans (s167.trans (s176.trans (s180.trans (s186.trans (s194.trans s198)))))))))))))))) _ _ i2, rfl, o2, nm, L2, R2, "end", L2.fin, rfl, hL2.up (e14.trans (s105.trans (s113.trans (s119.trans (s127.trans (s131.trans (s137.trans (s145.trans (s149.trans (s155.trans (s163.trans (s167.trans (s176.trans (s180.trans (s186.trans (s194.trans s198)))))))))))))))), rfl, fun m203 x204 f205 b206 => ?_⟩
  have s207 := Same.new (o := .lst x204) f205
  refine ⟨t2, tn2 L2 R2, .ref m203, L2.fin, rfl, (T2.up (s105.trans (s113.trans (s119.trans (s127.trans (s131.trans (s137.trans (s145.trans (s149.trans (s155.trans (s163.trans (s167.trans (s176.trans (s180.trans (s186.trans (s194.trans (s198.trans s207))))))))))))))))), .lst (SqL.of upd_same) (b206.up s207), u2f.i, by omega, (.inl k2.noL.2), (Nat.le_trans u2f.w (by omega)), u2f.m, fun m208 H209 x210 s211 f212 a213 b214 => ?_⟩
  have lex210 : x210.length ≤ 500 := by
    rw [dpa_len b214, encL_map, List.length_map]
    have q := (tn_size (tn2 L2 R2) 20 L2.fin).1
    have q2 := u2f.w
    omega
  refine ⟨m195, m208, _, _, rfl, rfl, ((s207.trans s211) _ _ a200), a213, Nat.le_trans (by first | omega | (simp only [List.length_append]; omega) : _ ≤ 3000) (by decide), fun m215 f216 => ?_⟩
  have s217 := Same.new (o := .lst (x197 ++ x210)) f216
  have dp218 := dpa_app (b201.up (s207.trans s211)) b214
  have sAll := (e14.trans (s105.trans (s113.trans (s119.trans (s127.trans (s131.trans (s137.trans (s145.trans (s149.trans (s155.trans (s163.trans (s167.trans (s176.trans (s180.trans (s186.trans (s194.trans (s198.trans (s207.trans (s211.trans s217)))))))))))))))))))
  have stA := ((s163.trans (s167.trans (s176.trans (s180.trans (s186.trans (s194.trans (s198.trans (s207.trans (s211.trans s217))))))))) _ _ upd_same)
  have tuA := ((s194.trans (s198.trans (s207.trans (s211.trans s217)))) _ _ upd_same)
  have fiA := (True.intro)
  have stD := ((dp156.up s155).up (s163.trans (s167.trans (s176.trans (s180.trans (s186.trans (s194.trans (s198.trans (s207.trans (s211.trans s217))))))))))
  have tuD := ((dp187.up s186).up (s194.trans (s198.trans (s207.trans (s211.trans s217)))))
  have fiD := (dp218.up s217)
  refine fun o dxo fo fdxo nxo => ?_
  obtain ⟨⟨pc, qc1, qc2, ck1, ck2, ck3⟩, ls1, ls2, ls3⟩ := told_chk k1 k2
  obtain ⟨z1, z2, z3⟩ := told_size k1 k2
  have sMk : ∀ (X : Hp), X o = none → X dxo = none → Same X (hid o (upd (upd X dxo (.own o)) o (.ins (He.ga K "Loop") dxo []))) := fun X h1 h2 => by
    rw [hid_upd]
    exact hid_of h1 (Same.new h2)
  have sM := sMk _ fo fdxo
  refine ⟨o, nm, dxo, _, _, _, told L1 L2 R2, pc, qc1, qc2, rfl, upd_same, hn.up (sAll.trans sM), ?_, ?_, ?_, ⟨z1.1, z2.1, z3.1⟩, ⟨ls1, ls2, ls3⟩, ⟨z1.2, z2.2, z3.2⟩, ⟨ck1, ck2, ck3⟩, by omega, fun H' hs hL => ⟨rfl, k o H' _ (sAll.trans (sM.trans (hs.trans hid_in))) hL⟩⟩
  · refine .lst ((sM).seq (SqL.of stA)) ?_
    have q := stD.up sM
    rw [show encL false (told L1 L2 R2).start = ((encL false (raise (tn1 L1 R2)) ++ encL false (raise (tn2 L2 R2))) ++ encL false ((tn1 L1 R2).all 20 L1.start)) ++ encL false ((tn2 L2 R2).all 20 L2.start) by
      simp only [encL_map, told, List.map_append, List.append_assoc]]
    exact q
  · refine .lst ((sM).seq (SqL.of tuA)) ?_
    have q := tuD.up sM
    rw [show encL false (told L1 L2 R2).turn = encL false ((tn1 L1 R2).guard 20 L1.turn) ++ encL false ((tn2 L2 R2).guard 20 L2.turn) by
      simp only [encL_map, told, List.map_append]]
    exact q
  · refine .lst ((sM).seq (SqL.of upd_same)) ?_
    have q := fiD.up sM
    rw [show encL false (told L1 L2 R2).fin = encL false ((tn1 L1 R2).all 20 L1.fin) ++ encL false ((tn2 L2 R2).all 20 L2.fin) by
      simp only [encL_map, told, List.map_append]]
    exact q
end
end K21
set_option Elab.async false
set_option linter.all false
set_option maxRecDepth 100000
set_option maxHeartbeats 1000000
namespace K21
open PySem PySem.Spec PyProof.Rows L2
section
variable {X : Cx}
/-- dicts of unlike sizes -/
def rLenD (b : Bool) : R2 := fun x y H Q => ∃ a c ks ls, x = .ref a ∧ y = .ref c ∧ H a = some (.dK ks) ∧ H c = some (.dK ls) ∧ ks.length ≠ ls.length ∧ Q (.bl b) H
theorem op_neLen (hu : X.A.units < cLine) : OpR X (compareOp .NotEq) (rLenD true) := by
  intro pins s σ H x y v u Q I rx ry h
  obtain ⟨a, b, ks, ls, rfl, rfl, ea, eb, hlen, q⟩ := h
  obtain rfl : v = Value.ref a := rx
  obtain rfl : u = Value.ref b := ry
  obtain ⟨_, ya, va, ra, da⟩ := (show ObjOk X.prog X.w H s.heap a (.dK ks) from I.hok a _ ea)
  obtain ⟨_, yb, vb, rb, db⟩ := (show ObjOk X.prog X.w H s.heap b (.dK ls) from I.hok b _ eb)
  have hl : va.length ≠ vb.length := by rw [← ra.length, ← rb.length]; exact hlen
  exact PySem.W.keq_ne (knd := mixKind X.prog X.w) (r := true) ya yb da db hu (fun z => absurd z hl) (fin_bl I q (by simp [hl]))
theorem op_eqLen (hu : X.A.units < cLine) : OpR X (compareOp .Eq) (rLenD false) := by
  intro pins s σ H x y v u Q I rx ry h
  obtain ⟨a, b, ks, ls, rfl, rfl, ea, eb, hlen, q⟩ := h
  obtain rfl : v = Value.ref a := rx
  obtain rfl : u = Value.ref b := ry
  obtain ⟨_, ya, va, ra, da⟩ := (show ObjOk X.prog X.w H s.heap a (.dK ks) from I.hok a _ ea)
  obtain ⟨_, yb, vb, rb, db⟩ := (show ObjOk X.prog X.w H s.heap b (.dK ls) from I.hok b _ eb)
  have hl : va.length ≠ vb.length := by rw [← ra.length, ← rb.length]; exact hlen
  exact PySem.W.keq_eq (knd := mixKind X.prog X.w) (r := true) ya yb da db hu (fun z => absurd z hl) (fin_bl I q (by simp [hl]))
end
def spCellL (K : PySem.W.Frag) : Sp := fun vs H Q _ => ∃ (a : Addr) (ns : List Int) (k : Nat), vs = [.ref a, .int k] ∧ SqL K H a (ns.map V.int) ∧ ∀ c, Q (.int c) H
def Rows (ns : List Int) (sizes : List Int) : Prop := ns.length = sizes.length ∧ ∀ (i : Nat) (s n : Int), sizes[i]? = some s → ns[i]? = some n → 0 ≤ n ∧ n < s
def spRowL (K : PySem.W.Frag) : Sp := fun vs H Q _ => ∃ (c : Int) (a : Addr) (sizes : List Int), vs = [.int c, .ref a] ∧ H a = some (.lst (sizes.map V.int)) ∧ (∀ s ∈ sizes, 0 < s ∧ s < 1000) ∧ sizes.length ≤ 200 ∧ ∀ l H' ns, Same H H' → H l = none → H' l = some (.lst (List.map V.int ns)) → Rows ns sizes → Q (.ref l) H'
def spSrcL (K : PySem.W.Frag) : Sp := fun vs H Q _ => ∃ (d : Int) (a : Addr) (srcs : List Str), vs = [.int d, .ref a] ∧ H a = some (.lst (srcs.map V.str)) ∧ srcs ≠ [] ∧ ∀ x ∈ srcs, Q (.str x) H
theorem at_mod {α : Type} {xs : List α} (d : Int) (h : xs ≠ []) : ∃ x ∈ xs, atI xs (d % ((xs.length : Nat) : Int)) = some x := by
  have hl : 0 < xs.length := Nat.pos_of_ne_zero (fun z => h (List.length_eq_zero_iff.mp z))
  have h1 : 0 ≤ d % ((xs.length : Nat) : Int) := Int.emod_nonneg _ (by omega)
  have h2 : d % ((xs.length : Nat) : Int) < xs.length := Int.emod_lt_of_pos _ (by omega)
  obtain ⟨j, hj⟩ := Int.eq_ofNat_of_zero_le h1
  rw [hj] at h2 ⊢
  have h3 : j < xs.length := by omega
  exact ⟨xs[j], List.getElem_mem h3, atI_nat (List.getElem?_eq_getElem h3)⟩
section
variable {P : Program} {w : World} {K : PySem.W.Frag} {mg : Str → Option Value} {base : Heap}
theorem sc_law_cell : FnScope ["_law_script", "_law_k"] ["_law_script", "_law_k"] (defScope s_law_cell) := ⟨rfl, rfl, rfl, by decide +kernel, rfl, by decide +kernel, by decide +kernel⟩
theorem ok_law_cell (T : Txt K mg) : Cal P w K mg base (1) "_law_cell" (spCellL K) := by
  refine cal_of T.d_law_cell T.g_law_cell sc_law_cell (fun _ _ _ _ _ _ us hl => match us, hl with | [_, _], _ => rfl) (fun vs H Q E h => ?_) (fun cdv A outer s H vs Q E hr h => ?_)
  · obtain ⟨a, ns, k, rfl, ha, q⟩ := h
    rfl
  obtain ⟨a, ns, k, rfl, ha, q⟩ := h
  have sc := sc_law_cell
  have hu := hu_of hr
  refine ⟨_, (pss_cons (ps_if (pt_cmpR op_lt (pv 1) (pb call_len T.b_len v_len (pa_cons (pv 0) pa_nil)) (nomark _)) (pss_one (ps_ret (pe_ix ix_list (pv 0) (pv 1) (fun _ _ => rfl)))) pss_nil)
      (pss_one (ps_ret pe_int))), ?_⟩
  refine ⟨_, rfl, _, rfl, _, _, rfl, .inl ⟨_, ha, rfl⟩, _, _, rfl, rfl, _, rfl, ?_⟩
  refine ite2 (fun e => ?_) (fun e => q 0)
  have e := of_decide_eq_true e
  rw [List.length_map] at e
  have hk : k < ns.length := by omega
  exact ⟨_, rfl, _, rfl, _, _, _, _, rfl, rfl, ha, atI_nat (by rw [List.getElem?_map, List.getElem?_eq_getElem hk]; rfl), q _⟩
theorem sc_law_source : FnScope ["_law_draw", "_law_sources"] ["_law_draw", "_law_sources"] (defScope s_law_source) := ⟨rfl, rfl, rfl, by decide +kernel, rfl, by decide +kernel, by decide +kernel⟩
theorem ok_law_source (T : Txt K mg) : Cal P w K mg base (1) "_law_source" (spSrcL K) := by
  refine cal_of T.d_law_source T.g_law_source sc_law_source (fun _ _ _ _ _ _ us hl => match us, hl with | [_, _], _ => rfl) (fun vs H Q E h => ?_) (fun cdv A outer s H vs Q E hr h => ?_)
  · obtain ⟨d, a, srcs, rfl, ha, hne, q⟩ := h
    rfl
  obtain ⟨d, a, srcs, rfl, ha, hne, q⟩ := h
  have sc := sc_law_source
  have hu := hu_of hr
  refine ⟨_, (pss_one (ps_ret (pe_ix ix_list (pv 1) (pe_op op_mod (pbt call_int1 T.b_int v_int (pa_cons (pv 0) pa_nil)) (pb call_len T.b_len v_len (pa_cons (pv 1) pa_nil))) (fun _ _ => rfl)))), ?_⟩
  have hne' : srcs.map V.str ≠ [] := fun z => hne (List.map_eq_nil_iff.mp z)
  have hl : 0 < (srcs.map V.str).length := Nat.pos_of_ne_zero (fun z => hne' (List.length_eq_zero_iff.mp z))
  obtain ⟨v, hv, hat⟩ := at_mod d hne'
  obtain ⟨x, hx, rfl⟩ := List.mem_map.mp hv
  refine ⟨_, rfl, _, rfl, .inl ⟨_, rfl, _, rfl, _, _, rfl, .inl ⟨_, SqL.of ha, rfl⟩, _, _, rfl, rfl, by omega, _, _, _, _, rfl, rfl, SqL.of ha, hat, q x hx⟩⟩
theorem rows_step {ns sizes : List Int} {i : Nat} {s n : Int} (h : ns.length = i) (hr : ∀ (j : Nat) (s n : Int), sizes[j]? = some s → ns[j]? = some n → 0 ≤ n ∧ n < s) (hs : sizes[i]? = some s) (hn : 0 ≤ n ∧ n < s) : (ns ++ [n]).length = i + 1 ∧ ∀ (j : Nat) (s n' : Int), sizes[j]? = some s → (ns ++ [n])[j]? = some n' → 0 ≤ n' ∧ n' < s := by
  refine ⟨by rw [List.length_append, h]; rfl, fun j s' n' h1 h2 => ?_⟩
  by_cases hj : j < ns.length
  · rw [List.getElem?_append_left hj] at h2
    exact hr j s' n' h1 h2
  · rw [List.getElem?_append_right (Nat.le_of_not_lt hj)] at h2
    have e0 : j - ns.length = 0 := by
      cases z : j - ns.length with
      | zero => rfl
      | succ k =>
        rw [z] at h2
        simp at h2
    rw [e0] at h2
    have ej : j = i := by omega
    subst ej
    rw [hs] at h1
    cases h1
    have : n' = n := by simpa using h2.symm
    rw [this]
    exact hn
theorem sc_law_row : FnScope ["_law_cell_here", "_law_sizes", "_law_out", "_law_size_here", "_law_seed", "_law_k", "_law_mixed"] ["_law_cell_here", "_law_sizes"] (defScope s_law_row) := ⟨rfl, rfl, rfl, by decide +kernel, rfl, by decide +kernel, by decide +kernel⟩
theorem ok_law_row (T : Txt K mg) : Cal P w K mg base (1) "_law_row" (spRowL K) := by
  refine cal_of T.d_law_row T.g_law_row sc_law_row (fun _ _ _ _ _ _ us hl => match us, hl with | [_, _], _ => rfl) (fun vs H Q E h => ?_) (fun cdv A outer s H vs Q E hr h => ?_)
  · obtain ⟨c, a, sizes, rfl, ha, hsz, hlen, k⟩ := h
    rfl
  obtain ⟨c, a, sizes, rfl, ha, hsz, hlen, k⟩ := h
  have sc := sc_law_row
  have hu := hu_of hr
  refine ⟨_, (pss_cons (pset 2 sc.nd (pe_lst pa_nil))
      (pss_cons (ps_if (pt_cmpR op_ge (pv 0) (pe_op op_pow pe_int pe_int) (nomark _)) (pss_cons (ps_for PassesOwn.never rfl (pi_list (pv 1)) (pgn 3 sc.nd)
          (pss_cons (ps_expr (pe_bm PySem.F.plainAttrs_list PySem.F.slot_list_append PySem.F.type_list_append mt_append (pv 2) (pa_cons (pe_op op_mod (pbt call_int1 T.b_int v_int (pa_cons (pv 0) pa_nil)) (pv 3)) pa_nil)))
          (pss_one (pset 0 sc.nd (pe_op op_fdiv (pv 0) (pv 3))))))
        (pss_one (ps_ret (pv 2)))) pss_nil)
      (pss_cons (pset 4 sc.nd (pe_op op_mod (pbt call_int1 T.b_int v_int (pa_cons (pv 0) pa_nil)) pe_int))
      (pss_cons (ps_for PassesOwn.never rfl (pi_range1 rfl T.b_range (pa_cons (pb call_len T.b_len v_len (pa_cons (pv 1) pa_nil)) pa_nil)) (pgn 5 sc.nd)
        (pss_cons (pset 6 sc.nd (pe_op op_add (pe_op op_mod (pbt call_int1 T.b_int v_int (pa_cons (pe_op op_pow (pe_op op_add (pe_op op_add (pv 4) (pe_op op_mul pe_int (pv 5))) pe_int) pe_int) pa_nil)) pe_int) (pv 5)))
        (pss_one (ps_expr (pe_bm PySem.F.plainAttrs_list PySem.F.slot_list_append PySem.F.type_list_append mt_append (pv 2) (pa_cons (pe_op op_mod (pbt call_int1 T.b_int v_int (pa_cons (pe_op op_mod (pbt call_int1 T.b_int v_int (pa_cons (pe_op op_mul (pv 6) pe_int) pa_nil)) pe_int) pa_nil)) (pe_ix ix_list (pv 1) (pv 5) (fun _ _ => rfl))) pa_nil))))))
      (pss_one (ps_ret (pv 2))))))), ?_⟩
  refine ⟨(by show 0 ≤ sizeLine; decide), fun l e1 => ?_⟩
  have nal : a ≠ l := ne_of_none ha e1
  have s1 : Same H (hid l (upd H l (.lst []))) := by
    rw [hid_upd]
    exact hid_of e1 (Same.refl _)
  have ll : ∀ z : Nat, z ≤ 200 → z < sizeLine := fun z h => Nat.lt_of_le_of_lt h (by decide)
  refine ⟨_, rfl, _, _, rfl, rfl, ⟨by decide, by decide, by decide⟩, _, _, rfl, rfl, _, rfl, ?_⟩
  refine ite2 (fun _ => ?_) (fun _ => ?_)
  · refine ⟨_, rfl, a, rfl, ⟨_, SqL.of ((s1.trans hid_in) _ _ ha)⟩, ?_⟩
    refine for_it (walk_list (xs := sizes.map V.int)) (fun i σ H7 => ∃ (c' : Int) (x3 : Option V) (ns : List Int), σ = [some (.int c'), some (.ref a), some (.ref l), x3, none, none, none] ∧ Same H (hid l H7) ∧ H7 l = some (.lst (ns.map V.int)) ∧ ns.length = i ∧ ∀ (j : Nat) (s n : Int), sizes[j]? = some s → ns[j]? = some n → 0 ≤ n ∧ n < s) ⟨c, _, [], rfl, s1, upd_same, rfl, fun j s n _ h => by simp at h⟩ (fun i σ H7 _ ⟨_, _, _, _, s7, _⟩ => SqL.of ((s7.trans hid_in) _ _ ha)) ?_ ?_
    · rintro i x σ H7 H8 hi ⟨c', x3, ns, rfl, s7, l7, n7, r7⟩ ⟨rfl, hx⟩
      have hi' : i < sizes.length := by rwa [List.length_map] at hi
      have hsi : sizes[i]? = some sizes[i] := List.getElem?_eq_getElem hi'
      have hx' : x = .int sizes[i] := by
        rw [List.getElem?_map, hsi] at hx
        exact (Option.some.inj hx).symm
      subst hx'
      obtain ⟨z1, z2⟩ := hsz _ (List.getElem_mem hi')
      refine ⟨_, rfl, .inl ⟨rfl, _, SqL.of l7⟩, _, rfl, .inl ⟨_, rfl, _, rfl, _, _, rfl, rfl, z1, l, _, _, rfl, rfl, l7, ?_, ?_⟩⟩
      · rw [List.length_map]
        exact ll _ (by omega)
      · obtain ⟨w1, w2⟩ := rows_step n7 r7 hsi ⟨Int.emod_nonneg c' (by omega), Int.emod_lt_of_pos c' z1⟩
        refine ⟨_, rfl, _, rfl, _, _, rfl, rfl, ⟨z1, by omega⟩, _, _, ns ++ [c' % sizes[i]], rfl, ?_, ?_, w1, w2⟩
        · rw [hid_upd]
          exact s7
        · rw [upd_same, List.map_append]
          rfl
    · rintro σ H7 ⟨c', x3, ns, rfl, s7, l7, n7, r7⟩
      exact ⟨_, rfl, k l H7 ns (s7.trans hid_in) e1 l7 ⟨by rw [n7, List.length_map], r7⟩⟩
  · refine ⟨_, rfl, .inl ⟨_, rfl, _, _, rfl, rfl, (by show (0 : Int) < 2147483647; omega), ?_⟩⟩
    have ha1 := (s1.trans hid_in) _ _ ha
    obtain ⟨sd, hsd⟩ : ∃ sd, sd = c % 2147483647 := ⟨_, rfl⟩
    have hs0 : 0 ≤ sd := by rw [hsd]; exact Int.emod_nonneg c (by omega)
    have hs1 : sd < 2147483647 := by rw [hsd]; exact Int.emod_lt_of_pos c (by omega)
    refine ⟨_, rfl, _, _, rfl, .inl ⟨_, SqL.of ha1, rfl⟩, _, rfl, ?_, ?_, ?_⟩
    · omega
    · rw [List.length_map]
      have : (2 : Int) ^ 62 = 4611686018427387904 := by decide
      omega
    rw [show ((((sizes.map V.int).length : Nat) : Int)).toNat = sizes.length by rw [List.length_map, Int.toNat_natCast]]
    refine for_it (walk_range (lo := 0) (n := sizes.length)) (fun i σ H7 => ∃ (x5 x6 : Option V) (ns : List Int), σ = [some (.int c), some (.ref a), some (.ref l), none, some (.int sd), x5, x6] ∧ Same H (hid l H7) ∧ H7 l = some (.lst (ns.map V.int)) ∧ ns.length = i ∧ ∀ (j : Nat) (s n : Int), sizes[j]? = some s → ns[j]? = some n → 0 ≤ n ∧ n < s) ⟨_, _, [], (by rw [hsd]; rfl), s1, upd_same, rfl, fun j s n _ h => by simp at h⟩ (fun _ _ _ _ _ => trivial) ?_ ?_
    · rintro i x σ H7 H8 hi ⟨x5, x6, ns, rfl, s7, l7, n7, r7⟩ ⟨rfl, rfl⟩
      have hsi : sizes[i]? = some sizes[i] := List.getElem?_eq_getElem hi
      obtain ⟨z1, z2⟩ := hsz _ (List.getElem_mem hi)
      have hii : (i : Int) < 200 := by omega
      have p64 : (2 : Int) ^ 64 = 18446744073709551616 := by decide
      have p64n : 2 ^ 64 = 18446744073709551616 := by decide
      refine ⟨_, rfl, _, rfl, _, _, rfl, rfl, .inl ⟨by omega, by omega⟩, _, _, rfl, rfl, _, _, rfl, rfl, _, _, rfl, rfl, ⟨by omega, by omega, by omega⟩, .inl ⟨_, rfl, _, _, rfl, rfl, (by show (0 : Int) < 2147483647; omega), _, rfl, _, _, rfl, rfl, ?_⟩⟩
      obtain ⟨pw, hm⟩ : ∃ pw, pw = (sd + 7919 * (0 + (i : Int)) + 104729) ^ (5 : Int).toNat := ⟨_, rfl⟩
      have hm0 : 0 ≤ pw % 2147483647 := Int.emod_nonneg pw (by omega)
      have hm1 : pw % 2147483647 < 2147483647 := Int.emod_lt_of_pos pw (by omega)
      refine ⟨_, rfl, .inl ⟨rfl, _, SqL.of l7⟩, _, rfl, _, _, rfl, rfl, .inl ⟨by rw [← hm]; omega, by rw [← hm]; omega⟩, .inl ⟨_, rfl, _, _, rfl, rfl, (by show (0 : Int) < 2147483629; omega), .inl ⟨_, rfl, _, rfl, _, rfl, _, _, _, _, rfl, rfl, SqL.of ((s7.trans hid_in) _ _ ha), ?_, _, _, rfl, rfl, z1, l, _, _, rfl, rfl, l7, ?_, ?_⟩⟩⟩
      · rw [Int.zero_add]
        exact atI_nat (by rw [List.getElem?_map, hsi]; rfl)
      · rw [List.length_map]
        exact ll _ (by omega)
      · obtain ⟨mx, hmx⟩ : ∃ mx, mx = (pw % 2147483647 + (0 + (i : Int))) * 40692 % 2147483629 := ⟨_, rfl⟩
        obtain ⟨w1, w2⟩ := rows_step n7 r7 hsi ⟨Int.emod_nonneg mx (by omega), Int.emod_lt_of_pos mx z1⟩
        refine ⟨_, _, ns ++ [mx % sizes[i]], rfl, ?_, ?_, w1, w2⟩
        · rw [hid_upd]
          exact s7
        · rw [upd_same, List.map_append, hmx, hm]
          rfl
    · rintro σ H7 ⟨x5, x6, ns, rfl, s7, l7, n7, r7⟩
      exact ⟨_, rfl, k l H7 ns (s7.trans hid_in) e1 l7 ⟨n7, r7⟩⟩
end
end K21
set_option Elab.async false
set_option linter.all false
set_option maxRecDepth 100000
set_option maxHeartbeats 1000000
namespace K21
open PySem PySem.Spec PyProof.Rows L2
def VocAt (K : PySem.W.Frag) (H : Hp) (a : Addr) : Prop := ∃ c f t d r x y : Addr, SqT K H a [.ref c, .ref f, .ref t, .ref d, .ref r, .ref x, .ref y] ∧ H c = some (.lst [.str "a", .str "b"]) ∧ H f = some (.dK dF) ∧ H t = some (.dK dT) ∧ H d = some (.dK dD) ∧ H r = some (.dK []) ∧ H x = some (.lst []) ∧ H y = some (.lst [])
theorem VocAt.up {K : PySem.W.Frag} {H H' : Hp} {a : Addr} (h : VocAt K H a) (e : Same H H') : VocAt K H' a := by
  obtain ⟨c, f, t, d, r, x, y, h0, h1, h2, h3, h4, h5, h6, h7⟩ := h
  exact ⟨c, f, t, d, r, x, y, e.tup h0, e _ _ h1, e _ _ h2, e _ _ h3, e _ _ h4, e _ _ h5, e _ _ h6, e _ _ h7⟩
def plainIn (srcs regs : List Str) : Stm → Prop
  | .put x y => x ∈ regs ∧ y ∈ srcs
  | .call x f ys => x ∈ regs ∧ ariF f = some ys.length ∧ ∀ y ∈ ys, y ∈ srcs
  | .act x d ys => (∀ z, x = some z → z ∈ regs) ∧ ariD d = some ys.length ∧ ∀ y ∈ ys, y ∈ srcs
  | _ => False
def tstSrc (srcs : List Str) : Tst → Prop
  | .same y z => y ∈ srcs ∧ z ∈ srcs
  | .ask p ys => ariT p = some ys.length ∧ ∀ y ∈ ys, y ∈ srcs
def optV : Option Str → V
  | none => .non
  | some z => .str z
def spStm (K : PySem.W.Frag) : Sp := fun vs H Q _ => ∃ (dl va sl rl : Addr) (ns : List Int) (srcs regs : List Str), vs = [.ref dl, .ref va, .ref sl, .ref rl] ∧ H dl = some (.lst (ns.map V.int)) ∧ 5 ≤ ns.length ∧ VocAt K H va ∧ H sl = some (.lst (srcs.map V.str)) ∧ srcs ≠ [] ∧ H rl = some (.lst (regs.map V.str)) ∧ regs ≠ [] ∧
  ∀ v H' s, Same H H' → Dp K H' v (enc true s) → plainIn srcs regs s → Q v H'
def spTstL (K : PySem.W.Frag) : Sp := fun vs H Q _ => ∃ (dl va sl : Addr) (ns : List Int) (srcs : List Str), vs = [.ref dl, .ref va, .ref sl] ∧ H dl = some (.lst (ns.map V.int)) ∧ 3 ≤ ns.length ∧ VocAt K H va ∧ H sl = some (.lst (srcs.map V.str)) ∧ srcs ≠ [] ∧
  ∀ v H' t, Same H H' → Dp K H' v (encT t) → tstSrc srcs t → Q v H'
theorem cut_mid (xs : List V) (a b : Nat) (h1 : a ≤ b) (h2 : b ≤ xs.length) : cutV xs (some (a : Int)) (some (b : Int)) = (xs.drop a).take (b - a) := by
  unfold cutV
  rw [HT.sIx_nat, HT.sIx_nat, Nat.min_eq_left h2, Nat.min_eq_left (Nat.le_trans h1 h2)]
theorem strs_of {srcs : List Str} : ∀ ys : List V, (∀ y ∈ ys, ∃ z ∈ srcs, y = .str z) → ∃ zs : List Str, ys = zs.map V.str ∧ ∀ z ∈ zs, z ∈ srcs
  | [], _ => ⟨[], rfl, fun z h => by cases h⟩
  | y :: r, h => by
    obtain ⟨z, hz, e⟩ := h y List.mem_cons_self
    obtain ⟨zs, e2, h2⟩ := strs_of r fun y hy => h y (List.mem_cons_of_mem _ hy)
    refine ⟨z :: zs, by rw [e, e2]; rfl, fun x hx => ?_⟩
    rcases List.mem_cons.mp hx with q | q
    · rw [q]; exact hz
    · exact h2 x q
section
variable {P : Program} {w : World} {K : PySem.W.Frag} {mg : Str → Option Value} {base : Heap}
theorem sc_law_statement : FnScope ["_law_draws", "_law_vocabulary_here", "_law_sources", "_law_registers", "_law_functions", "_law_acts", "_law_target", "_law_way", "_law_some", "_law_name", "_law_draw"] ["_law_draws", "_law_vocabulary_here", "_law_sources", "_law_registers"] (defScope s_law_statement) := ⟨rfl, rfl, rfl, by decide +kernel, rfl, by decide +kernel, by decide +kernel⟩
theorem ok_law_statement (T : Txt K mg) : Cal P w K mg base (2) "_law_statement" (spStm K) := by
  refine cal_of T.d_law_statement T.g_law_statement sc_law_statement (fun _ _ _ _ _ _ us hl => match us, hl with | [_, _, _, _], _ => rfl) (fun vs H Q E h => ?_) (fun cdv A outer s H vs Q E hr h => ?_)
  · obtain ⟨dl, va, sl, rl, ns, srcs, regs, rfl, hdl, hns, hv, hsl, hsn, hrl, hrn, k⟩ := h
    rfl
  obtain ⟨dl, va, sl, rl, ns, srcs, regs, rfl, hdl, hns, hv, hsl, hsn, hrl, hrn, k⟩ := h
  have c_law_source := ok_law_source (P := P) (w := w) (base := base) T
  have sc := sc_law_statement
  have hu := hu_of hr
  refine ⟨_, (pss_cons (ps_par (i := 4) (j := 5) rfl sc.nd rfl rfl (by decide) rfl rfl (pa_cons (pe_ix ix_tup (pv 1) pe_int (fun _ _ => rfl)) (pa_cons (pe_ix ix_tup (pv 1) pe_int (fun _ _ => rfl)) pa_nil)) rfl)
      (pss_cons (pset 6 sc.nd (pe_ix ix_list (pv 3) (pe_op op_mod (pbt call_int1 T.b_int v_int (pa_cons (pe_ix ix_list (pv 0) pe_int (fun _ _ => rfl)) pa_nil)) (pb call_len T.b_len v_len (pa_cons (pv 3) pa_nil))) (fun _ _ => rfl)))
      (pss_cons (ps_par (i := 7) (j := 8) rfl sc.nd rfl rfl (by decide) rfl rfl (pa_cons (pe_op op_mod (pbt call_int1 T.b_int v_int (pa_cons (pe_ix ix_list (pv 0) pe_int (fun _ _ => rfl)) pa_nil)) pe_int) (pa_cons (pe_lc (own := [("_law_draw", 10)]) (g := gName 10) (tt := tYes) rfl sc.nd (pi_list (pe_slice sl_list (pv 0) (po_some pe_int) (po_some pe_int))) (blkOk_by (N := ["_law_draws", "_law_vocabulary_here", "_law_sources", "_law_registers", "_law_functions", "_law_acts", "_law_target", "_law_way", "_law_some", "_law_name", "_law_draw"]) (sc := defScope s_law_statement) (by decide +kernel)) (fun _ _ _ _ _ => (pgn 10 sc.nd)) (fun _ _ _ _ _ => pts_nil) (fun _ _ _ _ _ => (pc c_law_source hr (by decide) (pa_cons (pv 10) (pa_cons (pv 2) pa_nil))))) pa_nil)) rfl)
      (pss_cons (ps_if (PW.pt (pw_and (pt_cmpR op_lt (pv 7) pe_int (nomark _)) (pw_and1 (pt_cmpR (op_neLen hr.units0) (pv 4) pe_dnewK (nomark _))))) (pss_cons (pset 9 sc.nd (pe_ix ix_list (pbt (call_list_dK rfl) T.b_list v_list (pa_cons (pv 4) pa_nil)) (pe_op op_mod (pbt call_int1 T.b_int v_int (pa_cons (pe_ix ix_list (pv 0) pe_int (fun _ _ => rfl)) pa_nil)) (pb call_lenD T.b_len v_len (pa_cons (pv 4) pa_nil))) (fun _ _ => rfl)))
        (pss_one (ps_ret (pe_op op_catT (pe_tup (pa_cons pe_str (pa_cons (pv 6) (pa_cons (pv 9) pa_nil)))) (pbt call_tuple_of T.b_tuple v_tuple (pa_cons (pe_slice sl_list (pv 8) po_none (po_some (pe_dget hu (pv 4) (pv 9) (fun _ _ => rfl)))) pa_nil)))))) pss_nil)
      (pss_cons (ps_if (pt_cmpR op_lt (pv 7) pe_int (nomark _)) (pss_cons (pset 9 sc.nd (pe_ix ix_list (pbt (call_list_dK rfl) T.b_list v_list (pa_cons (pv 5) pa_nil)) (pe_op op_mod (pbt call_int1 T.b_int v_int (pa_cons (pe_ix ix_list (pv 0) pe_int (fun _ _ => rfl)) pa_nil)) (pb call_lenD T.b_len v_len (pa_cons (pv 5) pa_nil))) (fun _ _ => rfl)))
        (pss_one (ps_ret (pe_op op_catT (pe_tup (pa_cons pe_str (pa_cons (pe_ix ix_list (pe_lst (pa_cons pe_non (pa_cons (pv 6) pa_nil))) (pe_op op_mod (pe_op op_fdiv (pbt call_int1 T.b_int v_int (pa_cons (pe_ix ix_list (pv 0) pe_int (fun _ _ => rfl)) pa_nil)) pe_int) pe_int) (fun _ _ => rfl)) (pa_cons (pv 9) pa_nil)))) (pbt call_tuple_of T.b_tuple v_tuple (pa_cons (pe_slice sl_list (pv 8) po_none (po_some (pe_dget hu (pv 5) (pv 9) (fun _ _ => rfl)))) pa_nil)))))) pss_nil)
      (pss_one (ps_ret (pe_tup (pa_cons pe_str (pa_cons (pv 6) (pa_cons (pe_ix ix_list (pv 8) pe_int (fun _ _ => rfl)) pa_nil))))))))))), ?_⟩
  obtain ⟨c, f, t, d, r, x, y, g0, g1, g2, g3, g4, g5, g6, g7⟩ := id hv
  have ati : ∀ (i : Nat), i < ns.length → ∃ m : Int, atI (ns.map V.int) (i : Int) = some (.int m) := fun i hi => ⟨ns[i], atI_nat (by rw [List.getElem?_map, List.getElem?_eq_getElem hi]; rfl)⟩
  obtain ⟨m0, a0⟩ := ati 0 (by omega)
  obtain ⟨m1, a1⟩ := ati 1 (by omega)
  obtain ⟨m2, a2⟩ := ati 2 (by omega)
  have rne : regs.map V.str ≠ [] := fun z => hrn (List.map_eq_nil_iff.mp z)
  have rl0 : 0 < (regs.map V.str).length := Nat.pos_of_ne_zero (fun z => rne (List.length_eq_zero_iff.mp z))
  obtain ⟨tv, htv, hat⟩ := at_mod m1 rne
  obtain ⟨tg, htg, rfl⟩ := List.mem_map.mp htv
  refine ⟨_, rfl, _, _, _, _, rfl, rfl, g0, rfl, _, rfl, _, _, _, _, rfl, rfl, g0, rfl, _, _, rfl, ?_⟩
  refine ⟨_, rfl, _, rfl, _, _, _, _, rfl, rfl, SqL.of hdl, a1, .inl ⟨_, rfl, _, rfl, _, _, rfl, .inl ⟨_, SqL.of hrl, rfl⟩, _, _, rfl, rfl, by omega, _, _, _, _, rfl, rfl, SqL.of hrl, hat, ?_⟩⟩
  refine ⟨_, rfl, _, _, _, _, rfl, rfl, SqL.of hdl, a0, .inl ⟨_, rfl, _, _, rfl, rfl, (by show (0 : Int) < 8; omega), ?_⟩⟩
  refine ⟨_, rfl, _, rfl, _, rfl, dl, _, rfl, SqL.of hdl, fun p1 hp1 => ?_⟩
  have s1 := Same.new (o := .lst (cutV (ns.map V.int) (some 3) (some 5))) hp1
  have ecut : cutV (ns.map V.int) (some 3) (some 5) = ((ns.drop 3).take 2).map V.int := by
    rw [List.map_take, List.map_drop]
    exact cut_mid (ns.map V.int) 3 5 (by omega) (by rw [List.length_map]; exact hns)
  rw [ecut] at s1 ⊢
  have lcut : (((ns.drop 3).take 2).map V.int).length = 2 := by
    rw [List.length_map, List.length_take, List.length_drop]
    omega
  refine ⟨p1, rfl, ⟨_, SqL.of upd_same⟩, fun D hD => ?_⟩
  refine lc_rel (walk_list (xs := ((ns.drop 3).take 2).map V.int)) hD (by omega) (fun i v _ => ∃ z ∈ srcs, v = .str z) (fun _ _ _ _ _ h => h) (fun X e => e.seq (SqL.of upd_same)) ?_ ?_
  · rintro i v H3 H4 hi e3 _ ⟨rfl, hx⟩ R kR
    obtain ⟨m, rfl⟩ : ∃ m : Int, v = .int m := by
      rw [List.getElem?_map] at hx
      cases q : ((ns.drop 3).take 2)[i]? with
      | none => rw [q] at hx; cases hx
      | some m => rw [q] at hx; exact ⟨m, (Option.some.inj hx).symm⟩
    exact ⟨rfl, _, rfl, _, rfl, m, sl, srcs, rfl, (s1.trans e3) _ _ hsl, hsn, fun z hz => kR _ _ (Same.refl _) ⟨z, hz, rfl⟩⟩
  intro H3 ys0 e3 hD3 hlen hp
  obtain ⟨zs, rfl, hzs⟩ := strs_of ys0 fun y hy => by
    obtain ⟨i, hi, e⟩ := List.mem_iff_getElem.mp hy
    exact hp i y (by rw [List.getElem?_eq_getElem hi, e])
  rw [lcut, List.length_map] at hlen
  have E3 : Same H H3 := s1.trans (e3.trans hid_in)
  obtain ⟨z0, z1, rfl⟩ : ∃ a b, zs = [a, b] := by
    match zs, hlen with
    | [a, b], _ => exact ⟨a, b, rfl⟩
  have hz0 := hzs z0 (by simp)
  have hz1 := hzs z1 (by simp)
  refine ⟨_, _, rfl, ?_⟩
  refine ⟨_, rfl, _, _, rfl, rfl, _, rfl, ?_⟩
  apply use_rest (fun H4 => Same H3 H4)
  · intro go
    refine ite2 (fun _ => ?_) (fun _ => iteF (go H3 (Same.refl _)))
    refine ⟨_, rfl, fun p2 hp2 => ⟨f, p2, dF, [], rfl, rfl, (Same.new hp2) _ _ (E3 _ _ g2), upd_same, by decide, _, rfl, iteT ?_⟩⟩
    have HB : Same H3 (upd H3 p2 (.dK [])) := Same.new hp2
    have HS := E3.trans HB
    have HD3 := HB _ _ hD3
    obtain ⟨nv, hnv, natt⟩ := at_mod m2 (show (dF.map fun kv => kV kv.1) ≠ [] by decide)
    obtain ⟨nm, rfl, ar⟩ : ∃ nm : Str, nv = .str nm ∧ ∃ n : Nat, ariF nm = some n ∧ (n = 1 ∨ n = 2) ∧ valV dF (.inr nm) = some (.int n) := by
      have : nv = .str "f" ∨ nv = .str "g" := by simpa [dF, kV] using hnv
      rcases this with rfl | rfl
      · exact ⟨_, rfl, 1, rfl, .inl rfl, rfl⟩
      · exact ⟨_, rfl, 2, rfl, .inr rfl, rfl⟩
    obtain ⟨n, ar1, ar2, ar3⟩ := ar
    refine ⟨_, rfl, _, _, rfl, HS _ _ g2, fun q1 hq1 => ?_⟩
    have S1 := HS.trans (Same.new (o := .lst (dF.map fun kv => kV kv.1)) hq1)
    refine ⟨_, rfl, _, _, _, _, rfl, rfl, SqL.of (S1 _ _ hdl), a2, .inl ⟨_, rfl, _, rfl, f, _, rfl, S1 _ _ g2, _, _, rfl, rfl, (by show (0 : Int) < 2; omega), _, _, _, _, rfl, rfl, SqL.of upd_same, natt, ?_⟩⟩
    have hDs := (Same.new (o := .lst (dF.map fun kv => kV kv.1)) hq1) _ _ HD3
    refine ⟨_, rfl, _, rfl, (by show 3 ≤ sizeLine; decide), fun q2 hq2 => ?_⟩
    have S2 := S1.trans (Same.new (o := .tup [.str "call", .str tg, .str nm]) hq2)
    have hDs2 := (Same.new (o := .tup [.str "call", .str tg, .str nm]) hq2) _ _ hDs
    refine ⟨_, rfl, _, rfl, _, rfl, f, _, rfl, .inl ⟨dF, .inr nm, .inl (S2 _ _ g2), rfl, ar3.symm⟩, _, rfl, D, _, rfl, SqL.of hDs2, fun q3 hq3 => ⟨q3, _, rfl, .inl ⟨SqL.of upd_same, fun q4 hq4 => ?_⟩⟩⟩
    have ec : cutV ([z0, z1].map V.str) none (some (n : Int)) = ([z0, z1].take n).map V.str := by
      rw [List.map_take]
      exact cut_to _ n (by rcases ar2 with rfl | rfl <;> simp)
    rw [ec] at hq4 ⊢
    have S3 := Same.new (o := .lst (([z0, z1].take n).map V.str)) hq3
    have S4 := Same.new (o := .tup (([z0, z1].take n).map V.str)) hq4
    have lt : ([z0, z1].take n).length = n := by rcases ar2 with rfl | rfl <;> rfl
    refine ⟨q2, q4, _, _, rfl, rfl, (S3.trans S4).tup (SqT.of upd_same), SqT.of upd_same, (fun z => by cases z), ?_, (fun z => ?_), fun _ q5 hq5 => ?_⟩
    · rw [List.length_map, lt]
      exact Nat.le_trans (by show 3 + n ≤ 5; omega) (by decide)
    · have := congrArg List.length z
      rw [List.length_map, lt] at this
      simp at this
      omega
    refine k _ _ (.call tg nm ([z0, z1].take n)) (S2.trans (S3.trans (S4.trans (Same.new hq5)))) ?_ ?_
    · rw [enc]
      refine .tup (SqT.of upd_same) (.cons (.str _) (.cons (.str _) (.cons (.str _) ?_)))
      exact dpAll_strs _
    · exact ⟨htg, by rw [lt]; exact ar1, fun y hy => hzs y (List.mem_of_mem_take hy)⟩
  · rintro H4 e4
    have HS := E3.trans e4
    have HD3 := e4 _ _ hD3
    refine ⟨_, rfl, _, _, rfl, rfl, _, rfl, ?_⟩
    refine ite2 (fun _ => ?_) (fun _ => ?_)
    · obtain ⟨nv, hnv, natt⟩ := at_mod m2 (show (dD.map fun kv => kV kv.1) ≠ [] by decide)
      obtain ⟨nm, rfl, ar⟩ : ∃ nm : Str, nv = .str nm ∧ ∃ n : Nat, ariD nm = some n ∧ (n = 1 ∨ n = 2) ∧ valV dD (.inr nm) = some (.int n) := by
        have : nv = .str "tell" ∨ nv = .str "show" := by simpa [dD, kV] using hnv
        rcases this with rfl | rfl
        · exact ⟨_, rfl, 1, rfl, .inl rfl, rfl⟩
        · exact ⟨_, rfl, 2, rfl, .inr rfl, rfl⟩
      obtain ⟨n, ar1, ar2, ar3⟩ := ar
      refine ⟨_, rfl, _, _, rfl, HS _ _ g4, fun q1 hq1 => ?_⟩
      have S1 := HS.trans (Same.new (o := .lst (dD.map fun kv => kV kv.1)) hq1)
      refine ⟨_, rfl, _, _, _, _, rfl, rfl, SqL.of (S1 _ _ hdl), a2, .inl ⟨_, rfl, _, rfl, d, _, rfl, S1 _ _ g4, _, _, rfl, rfl, (by show (0 : Int) < 2; omega), _, _, _, _, rfl, rfl, SqL.of upd_same, natt, ?_⟩⟩
      have hDs := (Same.new (o := .lst (dD.map fun kv => kV kv.1)) hq1) _ _ HD3
      obtain ⟨tgo, htgo, hreg, hatg⟩ : ∃ x : Option Str, (∀ z, x = some z → z ∈ regs) ∧ True ∧ ∃ v : V, atI [.non, .str tg] ((m1 / 4) % 2) = some v ∧ v = optV x := by
        obtain ⟨v, hv', hat'⟩ := at_mod (m1 / 4) (show ([.non, .str tg] : List V) ≠ [] by simp)
        have : v = .non ∨ v = .str tg := by simpa using hv'
        rcases this with rfl | rfl
        · exact ⟨none, (fun z hz => by cases hz), trivial, _, hat', rfl⟩
        · exact ⟨some tg, (fun z hz => by cases hz; exact htg), trivial, _, hat', rfl⟩
      obtain ⟨vo, hvo, rfl⟩ := hatg
      refine ⟨_, rfl, (by show 2 ≤ sizeLine; decide), fun q6 hq6 => ?_⟩
      have S6 := Same.new (o := .lst [.non, .str tg]) hq6
      refine ⟨_, rfl, _, _, _, _, rfl, rfl, SqL.of ((S1.trans S6) _ _ hdl), a1, .inl ⟨_, rfl, _, _, rfl, rfl, ⟨by decide, by decide⟩, _, _, rfl, rfl, (by show (0 : Int) < 2; omega), _, _, _, _, rfl, rfl, SqL.of upd_same, hvo, _, rfl, (by show 3 ≤ sizeLine; decide), fun q2 hq2 => ?_⟩⟩
      replace S1 := S1.trans S6
      replace hDs := S6 _ _ hDs
      have S2 := S1.trans (Same.new (o := .tup [.str "do", (optV tgo), .str nm]) hq2)
      have hDs2 := (Same.new (o := .tup [.str "do", (optV tgo), .str nm]) hq2) _ _ hDs
      refine ⟨_, rfl, _, rfl, _, rfl, d, _, rfl, .inl ⟨dD, .inr nm, .inl (S2 _ _ g4), rfl, ar3.symm⟩, _, rfl, D, _, rfl, SqL.of hDs2, fun q3 hq3 => ⟨q3, _, rfl, .inl ⟨SqL.of upd_same, fun q4 hq4 => ?_⟩⟩⟩
      have ec : cutV ([z0, z1].map V.str) none (some (n : Int)) = ([z0, z1].take n).map V.str := by
        rw [List.map_take]
        exact cut_to _ n (by rcases ar2 with rfl | rfl <;> simp)
      rw [ec] at hq4 ⊢
      have S3 := Same.new (o := .lst (([z0, z1].take n).map V.str)) hq3
      have S4 := Same.new (o := .tup (([z0, z1].take n).map V.str)) hq4
      have lt : ([z0, z1].take n).length = n := by rcases ar2 with rfl | rfl <;> rfl
      refine ⟨q2, q4, _, _, rfl, rfl, (S3.trans S4).tup (SqT.of upd_same), SqT.of upd_same, (fun z => by cases z), ?_, (fun z => ?_), fun _ q5 hq5 => ?_⟩
      · rw [List.length_map, lt]
        exact Nat.le_trans (by show 3 + n ≤ 5; omega) (by decide)
      · have := congrArg List.length z
        rw [List.length_map, lt] at this
        simp at this
        omega
      refine k _ _ (.act tgo nm ([z0, z1].take n)) (S2.trans (S3.trans (S4.trans (Same.new hq5)))) ?_ ?_
      · rw [enc]
        refine .tup (SqT.of upd_same) (.cons (.str _) (.cons (by cases tgo; exact .non; exact .str _) (.cons (.str _) ?_)))
        exact dpAll_strs _
      · exact ⟨htgo, by rw [lt]; exact ar1, fun y hy => hzs y (List.mem_of_mem_take hy)⟩
    · refine ⟨_, rfl, _, rfl, _, _, _, _, rfl, rfl, SqL.of HD3, rfl, (by show 3 ≤ sizeLine; decide), fun q1 hq1 => ?_⟩
      refine k _ _ (.put tg z0) (HS.trans (Same.new hq1)) ?_ ⟨htg, hz0⟩
      rw [enc]
      exact .tup (SqT.of upd_same) (.cons (.str _) (.cons (.str _) (.cons (.str _) .nil)))
theorem sc_law_test : FnScope ["_law_draws", "_law_vocabulary_here", "_law_sources", "_law_tests", "_law_some", "_law_name", "_law_draw"] ["_law_draws", "_law_vocabulary_here", "_law_sources"] (defScope s_law_test) := ⟨rfl, rfl, rfl, by decide +kernel, rfl, by decide +kernel, by decide +kernel⟩
theorem ok_law_test (T : Txt K mg) : Cal P w K mg base (2) "_law_test" (spTstL K) := by
  refine cal_of T.d_law_test T.g_law_test sc_law_test (fun _ _ _ _ _ _ us hl => match us, hl with | [_, _, _], _ => rfl) (fun vs H Q E h => ?_) (fun cdv A outer s H vs Q E hr h => ?_)
  · obtain ⟨dl, va, sl, ns, srcs, rfl, hdl, hns, hv, hsl, hsn, k⟩ := h
    rfl
  obtain ⟨dl, va, sl, ns, srcs, rfl, hdl, hns, hv, hsl, hsn, k⟩ := h
  have c_law_source := ok_law_source (P := P) (w := w) (base := base) T
  have sc := sc_law_test
  have hu := hu_of hr
  refine ⟨_, (pss_cons (ps_par (i := 3) (j := 4) rfl sc.nd rfl rfl (by decide) rfl rfl (pa_cons (pe_ix ix_tup (pv 1) pe_int (fun _ _ => rfl)) (pa_cons (pe_lc (own := [("_law_draw", 6)]) (g := gName 6) (tt := tYes) rfl sc.nd (pi_list (pe_slice sl_list (pv 0) (po_some pe_int) (po_some pe_int))) (blkOk_by (N := ["_law_draws", "_law_vocabulary_here", "_law_sources", "_law_tests", "_law_some", "_law_name", "_law_draw"]) (sc := defScope s_law_test) (by decide +kernel)) (fun _ _ _ _ _ => (pgn 6 sc.nd)) (fun _ _ _ _ _ => pts_nil) (fun _ _ _ _ _ => (pc c_law_source hr (by decide) (pa_cons (pv 6) (pa_cons (pv 2) pa_nil))))) pa_nil)) rfl)
      (pss_cons (ps_if (PW.pt (pw_or (pt_cmpR (op_eqLen hr.units0) (pv 3) pe_dnewK (nomark _)) (pw_or1 (pt_cmpR op_eq (pe_op op_mod (pbt call_int1 T.b_int v_int (pa_cons (pe_ix ix_list (pv 0) pe_int (fun _ _ => rfl)) pa_nil)) pe_int) pe_int (nomark _))))) (pss_one (ps_ret (pe_tup (pa_cons pe_str (pa_cons (pe_ix ix_list (pv 4) pe_int (fun _ _ => rfl)) (pa_cons (pe_ix ix_list (pv 4) pe_int (fun _ _ => rfl)) pa_nil)))))) pss_nil)
      (pss_cons (pset 5 sc.nd (pe_ix ix_list (pbt (call_list_dK rfl) T.b_list v_list (pa_cons (pv 3) pa_nil)) (pe_op op_mod (pe_op op_fdiv (pbt call_int1 T.b_int v_int (pa_cons (pe_ix ix_list (pv 0) pe_int (fun _ _ => rfl)) pa_nil)) pe_int) (pb call_lenD T.b_len v_len (pa_cons (pv 3) pa_nil))) (fun _ _ => rfl)))
      (pss_one (ps_ret (pe_op op_catT (pe_tup (pa_cons pe_str (pa_cons (pv 5) pa_nil))) (pbt call_tuple_of T.b_tuple v_tuple (pa_cons (pe_slice sl_list (pv 4) po_none (po_some (pe_dget hu (pv 3) (pv 5) (fun _ _ => rfl)))) pa_nil)))))))), ?_⟩
  obtain ⟨c, f, t, d, r, x, y, g0, g1, g2, g3, g4, g5, g6, g7⟩ := id hv
  have ati : ∀ (i : Nat), i < ns.length → ∃ m : Int, atI (ns.map V.int) (i : Int) = some (.int m) := fun i hi => ⟨ns[i], atI_nat (by rw [List.getElem?_map, List.getElem?_eq_getElem hi]; rfl)⟩
  obtain ⟨m0, a0⟩ := ati 0 (by omega)
  refine ⟨_, rfl, _, _, _, _, rfl, rfl, g0, rfl, _, rfl, _, rfl, _, rfl, dl, _, rfl, SqL.of hdl, fun p1 hp1 => ?_⟩
  have s1 := Same.new (o := .lst (cutV (ns.map V.int) (some 1) (some 3))) hp1
  have ecut : cutV (ns.map V.int) (some 1) (some 3) = ((ns.drop 1).take 2).map V.int := by
    rw [List.map_take, List.map_drop]
    exact cut_mid (ns.map V.int) 1 3 (by omega) (by rw [List.length_map]; exact hns)
  rw [ecut] at s1 ⊢
  have lcut : (((ns.drop 1).take 2).map V.int).length = 2 := by
    rw [List.length_map, List.length_take, List.length_drop]
    omega
  refine ⟨p1, rfl, ⟨_, SqL.of upd_same⟩, fun D hD => ?_⟩
  refine lc_rel (walk_list (xs := ((ns.drop 1).take 2).map V.int)) hD (by omega) (fun i v _ => ∃ z ∈ srcs, v = .str z) (fun _ _ _ _ _ h => h) (fun X e => e.seq (SqL.of upd_same)) ?_ ?_
  · rintro i v H3 H4 hi e3 _ ⟨rfl, hx⟩ R kR
    obtain ⟨m, rfl⟩ : ∃ m : Int, v = .int m := by
      rw [List.getElem?_map] at hx
      cases q : ((ns.drop 1).take 2)[i]? with
      | none => rw [q] at hx; cases hx
      | some m => rw [q] at hx; exact ⟨m, (Option.some.inj hx).symm⟩
    exact ⟨rfl, _, rfl, _, rfl, m, sl, srcs, rfl, (s1.trans e3) _ _ hsl, hsn, fun z hz => kR _ _ (Same.refl _) ⟨z, hz, rfl⟩⟩
  intro H3 ys0 e3 hD3 hlen hp
  obtain ⟨zs, rfl, hzs⟩ := strs_of ys0 fun y hy => by
    obtain ⟨i, hi, e⟩ := List.mem_iff_getElem.mp hy
    exact hp i y (by rw [List.getElem?_eq_getElem hi, e])
  rw [lcut, List.length_map] at hlen
  have E3 : Same H H3 := s1.trans (e3.trans hid_in)
  obtain ⟨z0, z1, rfl⟩ : ∃ a b, zs = [a, b] := by
    match zs, hlen with
    | [a, b], _ => exact ⟨a, b, rfl⟩
  have hz0 := hzs z0 (by simp)
  have hz1 := hzs z1 (by simp)
  refine ⟨_, _, rfl, ?_⟩
  refine ⟨_, rfl, fun p2 hp2 => ⟨t, p2, dT, [], rfl, rfl, (Same.new hp2) _ _ (E3 _ _ g3), upd_same, by decide, _, rfl, iteF ?_⟩⟩
  have HB : Same H3 (upd H3 p2 (.dK [])) := Same.new hp2
  have HS := E3.trans HB
  have HD3 := HB _ _ hD3
  refine ⟨_, rfl, _, _, _, _, rfl, rfl, SqL.of (HS _ _ hdl), a0, .inl ⟨_, rfl, _, _, rfl, rfl, (by show (0 : Int) < 2; omega), rfl, _, rfl, ?_⟩⟩
  refine ite2 (fun _ => ?_) (fun _ => ?_)
  · refine ⟨_, rfl, _, _, _, _, rfl, rfl, SqL.of HD3, rfl, _, rfl, _, _, _, _, rfl, rfl, SqL.of HD3, rfl, (by show 3 ≤ sizeLine; decide), fun q1 hq1 => ?_⟩
    refine k _ _ (.same z0 z1) (HS.trans (Same.new hq1)) ?_ ⟨hz0, hz1⟩
    rw [encT]
    exact .tup (SqT.of upd_same) (.cons (.str _) (.cons (.str _) (.cons (.str _) .nil)))
  · refine ⟨_, rfl, _, _, rfl, HS _ _ g3, fun q1 hq1 => ?_⟩
    have S1 := HS.trans (Same.new (o := .lst (dT.map fun kv => kV kv.1)) hq1)
    have hDs := (Same.new (o := .lst (dT.map fun kv => kV kv.1)) hq1) _ _ HD3
    have atp : atI (dT.map fun kv => kV kv.1) ((m0 / 2) % 1) = some (.str "p") := by
      rw [Int.emod_one]
      rfl
    refine ⟨_, rfl, _, _, _, _, rfl, rfl, SqL.of (S1 _ _ hdl), a0, .inl ⟨_, rfl, _, _, rfl, rfl, ⟨by decide, by decide⟩, _, rfl, t, _, rfl, S1 _ _ g3, _, _, rfl, rfl, (by show (0 : Int) < 1; omega), _, _, _, _, rfl, rfl, SqL.of upd_same, atp, ?_⟩⟩
    refine ⟨_, rfl, (by show 2 ≤ sizeLine; decide), fun q2 hq2 => ?_⟩
    have S2 := S1.trans (Same.new (o := .tup [.str "ask", .str "p"]) hq2)
    have hDs2 := (Same.new (o := .tup [.str "ask", .str "p"]) hq2) _ _ hDs
    refine ⟨_, rfl, _, rfl, _, rfl, t, _, rfl, .inl ⟨dT, .inr "p", .inl (S2 _ _ g3), rfl, rfl⟩, _, rfl, D, _, rfl, SqL.of hDs2, fun q3 hq3 => ⟨q3, _, rfl, .inl ⟨SqL.of upd_same, fun q4 hq4 => ?_⟩⟩⟩
    have S3 := Same.new (o := .lst [.str z0, .str z1]) hq3
    have S4 := Same.new (o := .tup [.str z0, .str z1]) hq4
    refine ⟨q2, q4, _, _, rfl, rfl, (S3.trans S4).tup (SqT.of upd_same), SqT.of upd_same, (fun z => by cases z), (by show 4 ≤ sizeLine; decide), (fun z => by cases z), fun _ q5 hq5 => ?_⟩
    refine k _ _ (.ask "p" [z0, z1]) (S2.trans (S3.trans (S4.trans (Same.new hq5)))) ?_ ⟨rfl, fun y hy => hzs y hy⟩
    rw [encT]
    exact .tup (SqT.of upd_same) (.cons (.str _) (.cons (.str _) (.cons (.str _) (.cons (.str _) .nil))))
end
end K21
set_option Elab.async false
set_option linter.all false
set_option maxRecDepth 100000
set_option maxHeartbeats 1000000
namespace K21
open PySem PySem.Spec PyProof.Rows L2
section
variable {X : Cx}
/-- xs != [] -/
def rNeNil (K : PySem.W.Frag) : R2 := fun x y H Q => ∃ a b xs, x = .ref a ∧ y = .ref b ∧ SqL K H a xs ∧ SqL K H b [] ∧ Q (.bl (!xs.isEmpty)) H
theorem op_neNil (hu : X.A.units < cLine) : OpR X (compareOp .NotEq) (rNeNil X.K) := by
  intro pins s σ H x y v u Q I rx ry h
  obtain ⟨a, b, xs, rfl, rfl, ea, eb, q⟩ := h
  obtain rfl : v = Value.ref a := rx
  obtain rfl : u = Value.ref b := ry
  obtain ⟨its, rv, p, _⟩ := I.list ea
  obtain ⟨its2, rv2, p2, _⟩ := I.list eb
  cases rv2
  show wpAny (model X.prog X.w) X.A (richCompare .NotEq (.ref a) (.ref b)) (EP X pins σ Q) X.xe s
  cases xs with
  | nil =>
    cases rv
    exact SeqAt.RcNeAt.lists (e := fun _ => true) p.isList p2.isList rfl hu (fun j h1 _ => absurd h1 (by simp)) X.prog X.w X.xe _ ⟨.bl false, H, I, rfl, q⟩
  | cons y ys =>
    cases rv with
    | cons r1 r2 =>
      exact SeqAt.RcNeAt.lists_lengths p.isList p2.isList (by simp) hu X.prog X.w X.xe _ ⟨.bl true, H, I, rfl, q⟩
end
def Leaf1 (srcs regs : List Str) (p : List Stm) : Prop := p.length ≤ 1 ∧ ∀ x ∈ p, plainIn srcs regs x
def blkIn (srcs regs : List Str) (dep : Nat) (ss : List Stm) : Prop := ∀ s ∈ ss, plainIn srcs regs s ∨ (0 < dep ∧ ∃ t p q, s = .ite t p q ∧ tstSrc srcs t ∧ Leaf1 srcs regs p ∧ Leaf1 srcs regs q)
def spBlk (K : PySem.W.Frag) (dep : Nat) : Sp := fun vs H Q _ => ∃ (dl va sl rl : Addr) (ns : List Int) (srcs regs : List Str) (m : Nat), vs = [.ref dl, .ref va, .ref sl, .ref rl, .int dep] ∧ H dl = some (.lst (ns.map V.int)) ∧ ns.length = 6 * m ∧ m ≤ 10 ∧ VocAt K H va ∧ H sl = some (.lst (srcs.map V.str)) ∧ srcs ≠ [] ∧ H rl = some (.lst (regs.map V.str)) ∧ regs ≠ [] ∧
  ∀ l H' xs ss, Same H H' → H l = none → H' l = some (.lst xs) → DpAll K (hid l H') xs (encL true ss) → blkIn srcs regs dep ss → wts ss ≤ m → (1 ≤ m → ss ≠ []) → Q (.ref l) H'
def spBlkO (K : PySem.W.Frag) : Nat → Sp
  | 0 => fun _ _ _ _ => False
  | _ + 1 => spBlk K 0
theorem rg6 : ∀ m : Fin 11, Builtin.Range.small 0 ((6 * m.val : Nat) : Int) 6 = true ∧ Builtin.Range.rangeSize 0 ((6 * m.val : Nat) : Int) 6 = m.val := by decide +kernel
theorem enc_plain {srcs regs : List Str} {s : Stm} (h : plainIn srcs regs s) (b : Bool) : enc b s = enc false s := by
  cases s with
  | put x y => rw [enc, enc]
  | call x f ys => rw [enc, enc]
  | act x d ys => rw [enc, enc]
  | leave => cases h
  | ite t p q => cases h
theorem encL_plain {srcs regs : List Str} (b : Bool) : ∀ {ss : List Stm}, (∀ s ∈ ss, plainIn srcs regs s) → encL b ss = encL false ss
  | [], _ => by rw [encL, encL]
  | s :: r, h => by rw [encL_cons, encL_cons, enc_plain (h s List.mem_cons_self), encL_plain b fun x hx => h x (List.mem_cons_of_mem _ hx)]
theorem plain_wt {srcs regs : List Str} {s : Stm} (h : plainIn srcs regs s) : s.wt = 1 := by
  cases s with
  | put x y => simp [Stm.wt]
  | call x f ys => simp [Stm.wt]
  | act x d ys => simp [Stm.wt]
  | leave => cases h
  | ite t p q => cases h
theorem plains_wt {srcs regs : List Str} : ∀ {ss : List Stm}, (∀ s ∈ ss, plainIn srcs regs s) → wts ss = ss.length
  | [], _ => by rw [wts]; rfl
  | s :: r, h => by
    rw [wts_cons, plain_wt (h s List.mem_cons_self), plains_wt fun x hx => h x (List.mem_cons_of_mem _ hx), List.length_cons]
    omega
/-- rows of six -/
def RowV (H : Hp) (v : V) : Prop := ∃ (a : Addr) (r : List Int), v = .ref a ∧ H a = some (.lst (r.map V.int)) ∧ r.length = 6
theorem RowV.up {H H' : Hp} {v : V} (h : RowV H v) (e : Same H H') : RowV H' v := by
  obtain ⟨a, r, h1, h2, h3⟩ := h
  exact ⟨a, r, h1, e _ _ h2, h3⟩
theorem cut_take (xs : List V) (k : Nat) : cutV xs none (some (k : Int)) = xs.take k := by
  unfold cutV
  rw [HT.sIx_nat, HT.sIx_none, List.drop_zero, Nat.sub_zero]
  by_cases h : k ≤ xs.length
  · rw [Nat.min_eq_left h]
  · rw [Nat.min_eq_right (by omega), List.take_length, List.take_of_length_le (by omega)]
theorem plains_of {srcs regs : List Str} {ss : List Stm} (h : blkIn srcs regs 0 ss) : ∀ x ∈ ss, plainIn srcs regs x := fun x hx => by
  rcases h x hx with q | q
  · exact q
  · exact absurd q.1 (Nat.lt_irrefl _)
theorem seq0 (n : Nat) : seqIndex? 0 (n + 1) = some 0 := by
  unfold seqIndex?
  simp
section
variable {P : Program} {w : World} {K : PySem.W.Frag} {mg : Str → Option Value} {base : Heap}
theorem sc_law_block : FnScope ["_law_draws", "_law_vocabulary_here", "_law_sources", "_law_registers", "_law_depth", "_law_out", "_law_left", "_law_row_here", "_law_first", "_law_second", "_law_k"] ["_law_draws", "_law_vocabulary_here", "_law_sources", "_law_registers", "_law_depth"] (defScope s_law_block) := ⟨rfl, rfl, rfl, by decide +kernel, rfl, by decide +kernel, by decide +kernel⟩
theorem ok_law_block (T : Txt K mg) : ∀ n : Nat, (Cal P w K mg base (n + 2) "_law_block" (spBlkO K n)) → Cal P w K mg base (n+3) "_law_block" (spBlk K n) := by
  intro n
  intro c_law_block
  refine cal_of T.d_law_block T.g_law_block sc_law_block (fun _ _ _ _ _ _ us hl => match us, hl with | [_, _, _, _, _], _ => rfl) (fun vs H Q E h => ?_) (fun cdv A outer s H vs Q E hr h => ?_)
  · obtain ⟨dl, va, sl, rl, ns, srcs, regs, m, rfl, hdl, hns, hm, hv, hsl, hsn, hrl, hrn, k⟩ := h
    rfl
  obtain ⟨dl, va, sl, rl, ns, srcs, regs, m, rfl, hdl, hns, hm, hv, hsl, hsn, hrl, hrn, k⟩ := h
  have c_law_test := ok_law_test (P := P) (w := w) (base := base) T
  have c_law_statement := ok_law_statement (P := P) (w := w) (base := base) T
  have sc := sc_law_block
  have hu := hu_of hr
  refine ⟨_, (pss_cons (ps_par (i := 5) (j := 6) rfl sc.nd rfl rfl (by decide) rfl rfl (pa_cons (pe_lst pa_nil) (pa_cons (pe_lc (own := [("_law_k", 10)]) (g := gName 10) (tt := tYes) rfl sc.nd (pi_range3 rfl T.b_range (pa_cons pe_int (pa_cons (pb call_len T.b_len v_len (pa_cons (pv 0) pa_nil)) (pa_cons pe_int pa_nil)))) (blkOk_by (N := ["_law_draws", "_law_vocabulary_here", "_law_sources", "_law_registers", "_law_depth", "_law_out", "_law_left", "_law_row_here", "_law_first", "_law_second", "_law_k"]) (sc := defScope s_law_block) (by decide +kernel)) (fun _ _ _ _ _ => (pgn 10 sc.nd)) (fun _ _ _ _ _ => pts_nil) (fun _ _ _ _ _ => (pe_slice (show SlR _ (rSlL K) from sl_list) (pv 0) (po_some (pv 10)) (po_some (pe_op op_add (pv 10) pe_int))))) pa_nil)) rfl)
      (pss_cons (ps_while PassesOwn.never (pt_cmpR (op_neNil hr.units0) (pv 6) (pe_lst pa_nil) (nomark _)) (pss_cons (pset 7 sc.nd (pe_bm PySem.F.plainAttrs_list PySem.F.slot_list_pop PySem.F.type_list_pop mt_popAt (pv 6) (pa_cons pe_int pa_nil)))
        (pss_one (ps_if (PW.pt (pw_and (pt_cmpR op_eq (pe_op op_mod (pe_ix ix_list (pv 7) pe_int (fun _ _ => rfl)) pe_int) pe_int (nomark _)) (pw_and (pt_cmpR op_gt (pv 4) pe_int (nomark _)) (pw_and1 (pt_cmpR op_gt (pb call_len T.b_len v_len (pa_cons (pv 6) pa_nil)) pe_int (nomark _)))))) (pss_cons (pset 8 sc.nd (pc c_law_block hr (by omega) (pa_cons (pe_bm PySem.F.plainAttrs_list PySem.F.slot_list_pop PySem.F.type_list_pop mt_popAt (pv 6) (pa_cons pe_int pa_nil)) (pa_cons (pv 1) (pa_cons (pv 2) (pa_cons (pv 3) (pa_cons pe_int pa_nil)))))))
          (pss_cons (pset 9 sc.nd (pc c_law_block hr (by omega) (pa_cons (pe_bm PySem.F.plainAttrs_list PySem.F.slot_list_pop PySem.F.type_list_pop mt_popAt (pv 6) (pa_cons pe_int pa_nil)) (pa_cons (pv 1) (pa_cons (pv 2) (pa_cons (pv 3) (pa_cons pe_int pa_nil)))))))
          (pss_one (ps_expr (pe_bm PySem.F.plainAttrs_list PySem.F.slot_list_append PySem.F.type_list_append mt_append (pv 5) (pa_cons (pe_tup (pa_cons pe_str (pa_cons (pc c_law_test hr (by omega) (pa_cons (pv 7) (pa_cons (pv 1) (pa_cons (pv 2) pa_nil)))) (pa_cons (pv 8) (pa_cons (pe_slice sl_list (pv 9) po_none (po_some (pe_op op_mod (pe_ix ix_list (pv 7) pe_int (fun _ _ => rfl)) pe_int))) pa_nil))))) pa_nil)))))) (pss_one (ps_expr (pe_bm PySem.F.plainAttrs_list PySem.F.slot_list_append PySem.F.type_list_append mt_append (pv 5) (pa_cons (pc c_law_statement hr (by omega) (pa_cons (pv 7) (pa_cons (pv 1) (pa_cons (pv 2) (pa_cons (pv 3) pa_nil))))) pa_nil))))))))
      (pss_one (ps_ret (pv 5))))), ?_⟩
  refine ⟨(by show 0 ≤ sizeLine; decide), fun lo elo => ?_⟩
  have s1 := Same.new (o := .lst []) elo
  have hl6 : (((ns.map V.int).length : Nat) : Int) = ((6 * m : Nat) : Int) := by rw [List.length_map, hns]
  refine ⟨_, rfl, _, _, rfl, .inl ⟨_, SqL.of (s1 _ _ hdl), rfl⟩, 0, _, 6, m, rfl, ⟨by decide, by decide, ?_, ?_⟩, fun ll ell => ?_⟩
  · rw [hl6]
    exact (rg6 ⟨m, by omega⟩).1
  · rw [hl6]
    exact (rg6 ⟨m, by omega⟩).2
  have nlo : lo ≠ ll := ne_of_none upd_same ell
  refine lc_rel walk_rangeC ell (by omega) (fun i v H9 => RowV H9 v) (fun i v H1 H2 e h => h.up e) (fun _ _ => trivial) ?_ ?_
  · rintro i x H3 H4 hi e3 ⟨ys, hys⟩ ⟨rfl, rfl⟩ R kR
    refine ⟨rfl, _, rfl, _, rfl, _, rfl, _, rfl, _, _, rfl, rfl, _, rfl, dl, _, rfl, SqL.of ((s1.trans e3) _ _ hdl), fun p hp => ?_⟩
    have ec : cutV (ns.map V.int) (some (0 + (i : Int) * 6)) (some (0 + (i : Int) * 6 + 6)) = ((ns.drop (6 * i)).take 6).map V.int := by
      rw [List.map_take, List.map_drop]
      have q := cut_mid (ns.map V.int) (6 * i) (6 * i + 6) (by omega) (by rw [List.length_map]; omega)
      rw [show 6 * i + 6 - 6 * i = 6 by omega] at q
      rw [← q]
      congr 2 <;> (congr 1; omega)
    rw [ec]
    refine kR _ _ (Same.new hp) ⟨p, (ns.drop (6 * i)).take 6, rfl, ?_, ?_⟩
    · rw [hid_ne (nh hys hp), upd_same]
    · rw [List.length_take, List.length_drop]
      omega
  intro H3 rows e3 hll hlen hrows
  refine ⟨_, _, rfl, ?_⟩
  have E3 : Same H (hid lo (hid ll H3)) := hid_of elo (s1.trans e3)
  have lo3 : H3 lo = some (.lst []) := hid_in _ _ (e3 _ _ upd_same)
  have hd1 : ∀ (X : Hp) (o : HO), hid lo (hid ll (upd X lo o)) = hid lo (hid ll X) := fun X o => by
    funext b
    by_cases z : b = lo
    · rw [z, hid_at, hid_at]
    · rw [hid_ne z, hid_ne z]
      by_cases y : b = ll
      · rw [y, hid_at, hid_at]
      · rw [hid_ne y, hid_ne y, upd_ne z]
  have hd2 : ∀ (X : Hp) (o : HO), hid lo (hid ll (upd X ll o)) = hid lo (hid ll X) := fun X o => by rw [hid_upd]
  have hds : ∀ {X Y : Hp}, Same X Y → Same (hid lo (hid ll X)) (hid lo (hid ll Y)) := fun e => e.hid.hid
  have hdi : ∀ {X : Hp}, Same (hid lo (hid ll X)) X := hid_in.trans hid_in
  refine ⟨fun j σ H7 => ∃ (x7 x8 x9 : Option V) (rows zs : List V) (ss : List Stm), σ = [some (.ref dl), some (.ref va), some (.ref sl), some (.ref rl), some (.int n), some (.ref lo), some (.ref ll), x7, x8, x9, none] ∧ Same H (hid lo (hid ll H7)) ∧ H7 lo = some (.lst zs) ∧ H7 ll = some (.lst rows) ∧ rows.length = j ∧ (∀ v ∈ rows, RowV (hid lo (hid ll H7)) v) ∧ DpAll K (hid lo (hid ll H7)) zs (encL true ss) ∧ blkIn srcs regs n ss ∧ wts ss + j ≤ m ∧ (j < m → ss ≠ []), ⟨m, ?_⟩, ?_⟩
  · refine ⟨_, _, _, rows, [], [], rfl, E3, lo3, hll, hlen, fun v hv2 => ?_, by rw [encL]; exact .nil, (fun s hs => by cases hs), (by rw [wts]; omega), fun h => absurd h (Nat.lt_irrefl _)⟩
    obtain ⟨i, hi, e⟩ := List.mem_iff_getElem.mp hv2
    obtain ⟨a, r, q1, q2, q3⟩ := hrows i v (by rw [List.getElem?_eq_getElem hi, e])
    refine ⟨a, r, q1, ?_, q3⟩
    rw [hid_ne (fun z => ?_)]
    · exact q2
    · have q4 := hid_in _ _ q2
      rw [z, lo3] at q4
      have := congrArg (fun o => match o with | some (HO.lst xs) => xs.length | _ => 0) q4
      simp [q3] at this
  · rintro j σ H7 ⟨x7, x8, x9, rows, zs, ss, rfl, s7, lo7, ll7, n7, r7, d7, b7, w7, ne7⟩
    refine ⟨_, rfl, (by show 0 ≤ sizeLine; decide), fun q hq => ⟨ll, q, rows, rfl, rfl, SqL.of ((Same.new hq) _ _ ll7), SqL.of upd_same, _, rfl, ?_⟩⟩
    have s8 := Same.new (o := .lst []) hq
    have lo8 := s8 _ _ lo7
    have ll8 := s8 _ _ ll7
    have S8 : Same H (hid lo (hid ll (upd H7 q (.lst [])))) := s7.trans (hds s8)
    have D8 := d7.up (hds s8)
    have R8 : ∀ v ∈ rows, RowV (hid lo (hid ll (upd H7 q (.lst [])))) v := fun v hv => (r7 v hv).up (hds s8)
    generalize upd H7 q (.lst []) = H8 at *
    cases rows with
    | nil =>
      have j0 : j = 0 := n7.symm
      subst j0
      refine iteF ⟨_, rfl, k lo H8 zs ss (S8.trans hdi) elo lo8 (D8.up hid_in.hid) b7 (by omega) (fun h => ne7 (by omega))⟩
    | cons y rows' =>
      have hj : j = rows'.length + 1 := n7.symm
      subst hj
      obtain ⟨ya, yr, rfl, hya, hyl⟩ := R8 y List.mem_cons_self
      refine iteT ⟨_, fun σ' H' h => h, ?_⟩
      refine ⟨_, rfl, .inl ⟨rfl, _, SqL.of ll8⟩, ll, _, 0, 0, _, rfl, rfl, ll8, by decide, by decide, ?_, rfl, ?_⟩
      · exact seq0 _
      have nll : lo ≠ ll := nlo
      have S9 : Same H (hid lo (hid ll (upd H8 ll (.lst ((V.ref ya :: rows').eraseIdx 0))))) := by rw [hd2]; exact S8
      have D9 : DpAll K (hid lo (hid ll (upd H8 ll (.lst ((V.ref ya :: rows').eraseIdx 0))))) zs (encL true ss) := by rw [hd2]; exact D8
      have R9 : ∀ v ∈ rows', RowV (hid lo (hid ll (upd H8 ll (.lst ((V.ref ya :: rows').eraseIdx 0))))) v := fun v hv => by rw [hd2]; exact R8 v (List.mem_cons_of_mem _ hv)
      have ya9 : hid lo (hid ll (upd H8 ll (.lst ((V.ref ya :: rows').eraseIdx 0)))) ya = some (.lst (yr.map V.int)) := by rw [hd2]; exact hya
      have lo9 : upd H8 ll (.lst ((V.ref ya :: rows').eraseIdx 0)) lo = some (.lst zs) := (upd_ne nlo).trans lo8
      have ll9 : upd H8 ll (.lst ((V.ref ya :: rows').eraseIdx 0)) ll = some (.lst rows') := upd_same
      generalize upd H8 ll (.lst ((V.ref ya :: rows').eraseIdx 0)) = H9 at *
      have ati : ∀ (i : Nat), i < 6 → ∃ m : Int, atI (yr.map V.int) (i : Int) = some (.int m) := fun i hi => ⟨yr[i], atI_nat (by rw [List.getElem?_map, List.getElem?_eq_getElem (by omega)]; rfl)⟩
      obtain ⟨m5, a5⟩ := ati 5 (by omega)
      obtain ⟨m4, a4⟩ := ati 4 (by omega)
      apply use_rest (fun H10 => H10 = H9)
      · intro go
        refine ⟨_, rfl, _, _, _, _, rfl, rfl, SqL.of (hdi _ _ ya9), a5, _, _, rfl, rfl, (by show (0 : Int) < 3; omega), rfl, _, rfl, ?_⟩
        refine ite2 (fun _ => ?_) (fun _ => iteF (go H9 rfl))
        refine ⟨_, rfl, _, _, rfl, rfl, _, rfl, ?_⟩
        refine ite2 (fun hn => ?_) (fun _ => iteF (go H9 rfl))
        refine ⟨_, rfl, _, _, rfl, .inl ⟨_, SqL.of ll9, rfl⟩, _, _, rfl, rfl, _, rfl, ?_⟩
        refine ite2 (fun hl => ?_) (fun _ => go H9 rfl)
        have hl' := of_decide_eq_true hl
        obtain ⟨n', rfl⟩ : ∃ n', n = n' + 1 := ⟨n - 1, by have := of_decide_eq_true hn; omega⟩
        obtain ⟨y1, y2, rows2, rfl⟩ : ∃ a b c, rows' = a :: b :: c := by
          match rows', hl' with
          | [], h => simp at h
          | [_], h => simp at h
          | a :: b :: c, _ => exact ⟨a, b, c, rfl⟩
        obtain ⟨z1, r1, rfl, hz1, hr1⟩ := R9 y1 List.mem_cons_self
        obtain ⟨z2, r2, rfl, hz2, hr2⟩ := R9 y2 (List.mem_cons_of_mem _ List.mem_cons_self)
        have R9' : ∀ v ∈ rows2, RowV (hid lo (hid ll H9)) v := fun v hv => R9 v (List.mem_cons_of_mem _ (List.mem_cons_of_mem _ hv))
        have ups : ∀ {X : Hp}, hid lo (hid ll X) = hid lo (hid ll H9) → Same (hid lo (hid ll H9)) X := fun e => by rw [← e]; exact hdi
        -- first
        refine ⟨_, rfl, .inl ⟨rfl, _, SqL.of ll9⟩, ll, _, 0, 0, _, rfl, rfl, ll9, by decide, by decide, seq0 _, rfl, _, rfl, _, rfl, _, rfl, ?_⟩
        have q10 : hid lo (hid ll (upd H9 ll (.lst ((V.ref z1 :: V.ref z2 :: rows2).eraseIdx 0)))) = hid lo (hid ll H9) := hd2 _ _
        have u10 := ups q10
        have lo10 : upd H9 ll (.lst ((V.ref z1 :: V.ref z2 :: rows2).eraseIdx 0)) lo = some (.lst zs) := (upd_ne nlo).trans lo9
        have ll10 : upd H9 ll (.lst ((V.ref z1 :: V.ref z2 :: rows2).eraseIdx 0)) ll = some (.lst (V.ref z2 :: rows2)) := upd_same
        generalize upd H9 ll (.lst ((V.ref z1 :: V.ref z2 :: rows2).eraseIdx 0)) = H10 at *
        have Hu10 : Same H H10 := S9.trans u10
        refine ⟨z1, va, sl, rl, r1, srcs, regs, 1, rfl, u10 _ _ hz1, by omega, by omega, hv.up Hu10, Hu10 _ _ hsl, hsn, Hu10 _ _ hrl, hrn, fun l1 H11 xs1 ss1 s11 f11 a11 d11 b11 w11 ne11 => ?_⟩
        have lo11 := s11 _ _ lo10
        have ll11 := s11 _ _ ll10
        have q11 : Same (hid lo (hid ll H9)) (hid lo (hid ll H11)) := by rw [← q10]; exact hds s11
        -- second
        refine ⟨_, rfl, .inl ⟨rfl, _, SqL.of ll11⟩, ll, _, 0, 0, _, rfl, rfl, ll11, by decide, by decide, seq0 _, rfl, _, rfl, _, rfl, _, rfl, ?_⟩
        have q12 : hid lo (hid ll (upd H11 ll (.lst ((V.ref z2 :: rows2).eraseIdx 0)))) = hid lo (hid ll H11) := hd2 _ _
        have u12 : Same (hid lo (hid ll H9)) (upd H11 ll (.lst ((V.ref z2 :: rows2).eraseIdx 0))) := (q11.trans (by rw [q12]; exact Same.refl _ : Same (hid lo (hid ll H11)) (hid lo (hid ll (upd H11 ll (.lst ((V.ref z2 :: rows2).eraseIdx 0))))))).trans hdi
        have lo12 : upd H11 ll (.lst ((V.ref z2 :: rows2).eraseIdx 0)) lo = some (.lst zs) := (upd_ne nlo).trans lo11
        have ll12 : upd H11 ll (.lst ((V.ref z2 :: rows2).eraseIdx 0)) ll = some (.lst rows2) := upd_same
        have n1lo : l1 ≠ lo := nh lo10 f11
        have n1ll : l1 ≠ ll := nh ll10 f11
        have a12 : upd H11 ll (.lst ((V.ref z2 :: rows2).eraseIdx 0)) l1 = some (.lst xs1) := (upd_ne n1ll).trans a11
        have d12 : DpAll K (hid lo (hid ll H11)) xs1 (encL true ss1) := by
          have pl := plains_of b11
          rw [encL_plain true pl] at d11 ⊢
          refine dpAll_hid (ys := zs) (by rw [hid_ne nlo]; exact lo11) _ _ (pnl_encL _) (dpAll_hid ll11 _ _ (pnl_encL _) (d11.up hid_in))
        rw [← q12] at d12 q11
        generalize upd H11 ll (.lst ((V.ref z2 :: rows2).eraseIdx 0)) = H12 at *
        have Hu12 : Same H H12 := S9.trans u12
        refine ⟨z2, va, sl, rl, r2, srcs, regs, 1, rfl, u12 _ _ hz2, by omega, by omega, hv.up Hu12, Hu12 _ _ hsl, hsn, Hu12 _ _ hrl, hrn, fun l2 H13 xs2 ss2 s13 f13 a13 d13 b13 w13 ne13 => ?_⟩
        have lo13 := s13 _ _ lo12
        have ll13 := s13 _ _ ll12
        have u13 := u12.trans s13
        have Hu13 : Same H H13 := S9.trans u13
        have n2lo : l2 ≠ lo := nh lo12 f13
        have n2ll : l2 ≠ ll := nh ll12 f13
        have pl2 := plains_of b13
        have d13' : DpAll K H13 xs2 (encL true ss2) := d13.up hid_in
        -- the statement
        refine ⟨_, rfl, .inl ⟨rfl, _, SqL.of lo13⟩, _, rfl, _, rfl, _, rfl, ya, va, sl, yr, srcs, rfl, u13 _ _ ya9, by omega, hv.up Hu13, Hu13 _ _ hsl, hsn, fun vt H14 tt s14 dt htt => ?_⟩
        have s1314 := s14
        have u14 := u13.trans s14
        have cm : 0 ≤ m4 % 2 := Int.emod_nonneg m4 (by omega)
        obtain ⟨c4, hc4⟩ := Int.eq_ofNat_of_zero_le cm
        refine ⟨_, rfl, _, rfl, _, rfl, _, _, _, _, rfl, rfl, SqL.of (u14 _ _ ya9), a4, _, _, rfl, rfl, (by show (0 : Int) < 2; omega), _, rfl, l2, _, rfl, SqL.of (s14 _ _ a13), fun q hq => ⟨(by show 4 ≤ sizeLine; decide), fun p hp => ?_⟩⟩
        have hcut : cutV xs2 none (some (m4 % 2)) = xs2.take c4 := by rw [hc4]; exact cut_take xs2 c4
        rw [hcut] at hp ⊢
        have s15 := Same.new (o := .lst (xs2.take c4)) hq
        have s16 := Same.new (o := .tup [.str "if", vt, .ref l1, .ref q]) hp
        have s1316 := s14.trans (s15.trans s16)
        have lo16 := s1316 _ _ lo13
        have ll16 := s1316 _ _ ll13
        have q16 : Same (hid lo (hid ll H9)) (hid lo (hid ll (upd (upd H14 q (.lst (xs2.take c4))) p (.tup [.str "if", vt, .ref l1, .ref q])))) := q11.trans (hds (s13.trans s1316))
        have nqlo : q ≠ lo := nh (s14 _ _ lo13) hq
        have nqll : q ≠ ll := nh (s14 _ _ ll13) hq
        have aq : upd (upd H14 q (.lst (xs2.take c4))) p (.tup [.str "if", vt, .ref l1, .ref q]) q = some (.lst (xs2.take c4)) := s16 _ _ upd_same
        have al1 := (s13.trans s1316) _ _ a12
        have tp : upd (upd H14 q (.lst (xs2.take c4))) p (.tup [.str "if", vt, .ref l1, .ref q]) p = some (.tup [.str "if", vt, .ref l1, .ref q]) := upd_same
        have dt16 := dt.up (s15.trans s16)
        have d1_16 := d12.up (hds (s13.trans s1316))
        have d2_16 : DpAll K (upd (upd H14 q (.lst (xs2.take c4))) p (.tup [.str "if", vt, .ref l1, .ref q])) (xs2.take c4) (encL true (ss2.take c4)) := by
          have z := (dpa_take c4 d13').up s1316
          rw [encL_map, ← List.map_take, ← encL_map] at z
          exact z
        generalize upd (upd H14 q (.lst (xs2.take c4))) p (.tup [.str "if", vt, .ref l1, .ref q]) = H16 at *
        have loh : hid ll H16 lo = some (.lst zs) := by rw [hid_ne nlo]; exact lo16
        have pl1 := plains_of b11
        have plt : ∀ x ∈ ss2.take c4, plainIn srcs regs x := fun x hx => pl2 x (List.mem_of_mem_take hx)
        have hnew : Dp K (hid lo (hid ll H16)) (.ref p) (enc true (.ite tt ss1 (ss2.take c4))) := by
          rw [enc]
          refine .tup (sqT_hid loh (sqT_hid ll16 (SqT.of tp))) (.cons (.str _) (.cons ?_ (.cons ?_ (.cons ?_ .nil))))
          · exact dp_hid loh _ _ (pnl_encT _) (dp_hid ll16 _ _ (pnl_encT _) dt16)
          · refine .lst (SqL.of ?_) d1_16
            rw [hid_ne n1lo, hid_ne n1ll]
            exact al1
          · refine .lst (SqL.of (xs := xs2.take c4) ?_) ?_
            · rw [hid_ne nqlo, hid_ne nqll]
              exact aq
            · rw [encL_plain true plt] at d2_16 ⊢
              exact dpAll_hid loh _ _ (pnl_encL _) (dpAll_hid ll16 _ _ (pnl_encL _) d2_16)
        have lz : zs.length ≤ 10 := by
          rw [dpa_len D9, encL_map, List.length_map]
          have := len_wts ss
          omega
        have len1 : ss1.length ≤ 1 := by
          have := plains_wt pl1
          omega
        have len2 : (ss2.take c4).length ≤ 1 := by
          have h2 := plains_wt pl2
          have := List.length_take_le' c4 ss2
          omega
        refine ⟨lo, _, _, rfl, rfl, lo16, Nat.lt_of_le_of_lt lz (by decide), rows2.length, (by show rows2.length < rows2.length + 1 + 1 + 1; omega), _, _, _, rows2, zs ++ [.ref p], ss ++ [.ite tt ss1 (ss2.take c4)], rfl, ?_, upd_same, ?_, rfl, ?_, ?_, ?_, ?_, fun _ => by simp⟩
        · rw [hd1]
          exact S9.trans q16
        · rw [upd_ne (Ne.symm nlo)]
          exact ll16
        · intro v hv'
          rw [hd1]
          exact (R9' v hv').up q16
        · rw [hd1, encL_map, List.map_append, ← encL_map]
          exact dpa_app (D9.up q16) (.cons hnew .nil)
        · intro x hx
          rcases List.mem_append.mp hx with z | z
          · exact b7 x z
          · have : x = .ite tt ss1 (ss2.take c4) := by simpa using z
            rw [this]
            exact .inr ⟨Nat.succ_pos _, tt, ss1, ss2.take c4, rfl, htt, ⟨len1, pl1⟩, ⟨len2, plt⟩⟩
        · have e1 := plains_wt pl1
          have e2 := plains_wt plt
          have ew : (Stm.ite tt ss1 (ss2.take c4)).wt = 1 + (wts ss1 + wts (ss2.take c4)) := by rw [Stm.wt]
          rw [wts_app, wts_cons, ew, wts, e1, e2]
          simp only [List.length_cons] at w7
          omega
      · rintro H9 rfl
        have u9 := hdi (X := H9)
        have Hu : Same H H9 := S9.trans u9
        refine ⟨_, rfl, .inl ⟨rfl, _, SqL.of lo9⟩, _, rfl, _, rfl, _, rfl, _, rfl, ya, va, sl, rl, yr, srcs, regs, rfl, u9 _ _ ya9, by omega, hv.up Hu, Hu _ _ hsl, hsn, Hu _ _ hrl, hrn, fun v' H10 st s10 dv hp => ?_⟩
        have lo10 := s10 _ _ lo9
        have ll10 := s10 _ _ ll9
        have lz : zs.length ≤ 10 := by
          rw [dpa_len D9, encL_map, List.length_map]
          have := len_wts ss
          omega
        refine ⟨lo, _, _, rfl, rfl, lo10, Nat.lt_of_le_of_lt lz (by decide), rows'.length, Nat.lt_succ_self _, _, _, _, rows', zs ++ [v'], ss ++ [st], rfl, ?_, upd_same, ?_, rfl, ?_, ?_, ?_, ?_, fun _ => by simp⟩
        · rw [hd1]
          exact S9.trans (hds s10)
        · rw [upd_ne (Ne.symm nlo)]
          exact ll10
        · intro v hv'
          rw [hd1]
          exact (R9 v hv').up (hds s10)
        · rw [hd1, encL_map, List.map_append, ← encL_map]
          refine dpa_app (D9.up (hds s10)) (.cons ?_ .nil)
          rw [enc_plain hp] at dv ⊢
          refine dp_hid (ys := zs) ?_ _ _ (pnl_enc _) (dp_hid ll10 _ _ (pnl_enc _) dv)
          rw [hid_ne nlo]
          exact lo10
        · intro x hx
          rcases List.mem_append.mp hx with q | q
          · exact b7 x q
          · have : x = st := by simpa using q
            rw [this]
            exact .inl hp
        · rw [wts_app, wts_cons, plain_wt hp, wts]
          omega
theorem ok_block0 (T : Txt K mg) : Cal P w K mg base 3 "_law_block" (spBlk K 0) :=
  ok_law_block T 0 (cal_of T.d_law_block T.g_law_block sc_law_block (fun _ _ _ _ _ _ us hl => match us, hl with | [_, _, _, _, _], _ => rfl) (fun vs H Q E h => h.elim) (fun cdv A outer s H vs Q E hr h => h.elim))
theorem ok_block1 (T : Txt K mg) : Cal P w K mg base 4 "_law_block" (spBlk K 1) := ok_law_block T 1 (ok_block0 T)
end
end K21
set_option Elab.async false
set_option linter.all false
set_option maxRecDepth 100000
set_option maxHeartbeats 1000000
namespace K21
open PySem PySem.Spec PyProof.Rows L2
def lSt (t : Tst) : List (List Stm) := [[], [.call (.ofString "s") (.ofString "f") [.ofString "r"]], [.act (some (.ofString "s")) (.ofString "tell") [.ofString "r"]], [.ite t [.put (.ofString "s") (.ofString "r")] []]]
/-- what the law's start is -/
def startOk (ss : List Stm) : Prop := ∃ (y z : Str) (t : Tst) (rest : List Stm), ss = .put (.ofString "r") y :: .put (.ofString "s") z :: rest ∧ y ∈ [Str.ofString "a", Str.ofString "b"] ∧ z ∈ [Str.ofString "a", Str.ofString "b"] ∧ rest ∈ lSt t ∧ tstSrc [.ofString "a", .ofString "b", .ofString "r"] t
def srcT : List Str := [.ofString "item", .ofString "a", .ofString "b", .ofString "r", .ofString "s"]
def srcE : List Str := [.ofString "a", .ofString "b", .ofString "r", .ofString "s"]
def regRS : List Str := [.ofString "r", .ofString "s"]
def LawLp (K : PySem.W.Frag) (H : Hp) (d : Addr) (ss st se : List Stm) : Prop := ∃ (ls lt le : Addr) (xs xt xe : List V), H d = some (.dK [(.inr (.ofString "start"), .ref ls), (.inr (.ofString "turn"), .ref lt), (.inr (.ofString "end"), .ref le)]) ∧ H ls = some (.lst xs) ∧ H lt = some (.lst xt) ∧ H le = some (.lst xe) ∧ DpAll K H xs (encL true ss) ∧ DpAll K H xt (encL true st) ∧ DpAll K H xe (encL true se)
theorem at_ab (m : Int) : ∃ y ∈ [Str.ofString "a", Str.ofString "b"], atI [V.str (.ofString "a"), V.str (.ofString "b")] (m % 2) = some (.str y) := by
  obtain ⟨y, hy, t⟩ := at_mod (xs := [V.str (.ofString "a"), V.str (.ofString "b")]) m (by simp)
  rcases List.mem_cons.mp hy with e | hy
  · subst e
    exact ⟨_, List.mem_cons_self, t⟩
  · rcases List.mem_cons.mp hy with e | hy
    · subst e
      exact ⟨_, List.mem_cons_of_mem _ List.mem_cons_self, t⟩
    · cases hy
theorem st_app {K : PySem.W.Frag} {H6 H7 H8 : Hp} {lo : Addr} {xs : List V} {ds : List PyData} {v : V} {dd : PyData} (s : Same H6 (hid lo H7)) (d : DpAll K (hid lo H7) xs ds) (e : Same (hid lo H7) (hid lo H8)) (dn : Dp K (hid lo H8) v dd) :
    Same H6 (hid lo (upd H8 lo (.lst (xs ++ [v])))) ∧ DpAll K (hid lo (upd H8 lo (.lst (xs ++ [v])))) (xs ++ [v]) (ds ++ [dd]) := by
  rw [hid_upd]
  exact ⟨s.trans e, dpa_app (d.up e) (.cons dn .nil)⟩
theorem wts_take : ∀ (n : Nat) (ss : List Stm), wts (ss.take n) ≤ wts ss
  | 0, ss => by rw [List.take_zero, wts]; exact Nat.zero_le _
  | _ + 1, [] => by rw [List.take_nil]; exact Nat.le_refl _
  | n + 1, s :: r => by
    rw [List.take_succ_cons, wts_cons, wts_cons]
    exact Nat.add_le_add_left (wts_take n r) _
def szs : List Int := [5, 8, 3, 4, 3, 8, 9, 5, 60, 60, 4, 8, 9, 5, 60, 60, 4, 8, 9, 5, 60, 60, 4, 8, 9, 5, 60, 60, 4, 8, 9, 5, 60, 60, 4, 8, 9, 5, 60, 60, 4, 8, 9, 5, 60, 60, 4]
def spLpL (K : PySem.W.Frag) : Sp := fun vs H Q _ => ∃ (c : Int) (va : Addr), vs = [.int c, .ref va, .int 3] ∧ VocAt K H va ∧
  ∀ d H' ss st se, Same H H' → LawLp K H' d ss st se → startOk ss → blkIn srcT regRS 1 st → wts st ≤ 3 → st ≠ [] → blkIn srcE regRS 1 se → wts se ≤ 3 → Q (.ref d) H'
section
variable {P : Program} {w : World} {K : PySem.W.Frag} {mg : Str → Option Value} {base : Heap}
theorem sc_law_loop : FnScope ["_law_cell_here", "_law_vocabulary_here", "_law_many", "_law_row_here", "_law_constants", "_law_start", "_law_sources", "_law_size_here", "_law_turn", "_law_end"] ["_law_cell_here", "_law_vocabulary_here", "_law_many"] (defScope s_law_loop) := ⟨rfl, rfl, rfl, by decide +kernel, rfl, by decide +kernel, by decide +kernel⟩
theorem ok_law_loop (T : Txt K mg) : Cal P w K mg base (5) "_law_loop" (spLpL K) := by
  refine cal_of T.d_law_loop T.g_law_loop sc_law_loop (fun _ _ _ _ _ _ us hl => match us, hl with | [_, _, _], _ => rfl) (fun vs H Q E h => ?_) (fun cdv A outer s H vs Q E hr h => ?_)
  · obtain ⟨cc, va, rfl, hv, k⟩ := h
    rfl
  obtain ⟨cc, va, rfl, hv, k⟩ := h
  have c_law_row := ok_law_row (P := P) (w := w) (base := base) T
  have c_law_test := ok_law_test (P := P) (w := w) (base := base) T
  have c_law_block := ok_block1 (P := P) (w := w) (base := base) T
  have sc := sc_law_loop
  have hu := hu_of hr
  refine ⟨_, (pss_cons (pset 3 sc.nd (pc c_law_row hr (by decide) (pa_cons (pv 0) (pa_cons (pe_op op_cat (pe_lst (pa_cons pe_int (pa_cons pe_int (pa_cons pe_int (pa_cons pe_int (pa_cons pe_int pa_nil)))))) (pe_op op_rep (pe_lst (pa_cons pe_int (pa_cons pe_int (pa_cons pe_int (pa_cons pe_int (pa_cons pe_int (pa_cons pe_int pa_nil))))))) (pe_op op_add (pv 2) pe_int))) pa_nil))))
      (pss_cons (pset 4 sc.nd (pe_ix ix_tup (pv 1) pe_int (fun _ _ => rfl)))
      (pss_cons (pset 5 sc.nd (pe_lst (pa_cons (pe_tup (pa_cons pe_str (pa_cons pe_str (pa_cons (pe_ix ix_list (pv 4) (pe_op op_mod (pe_ix ix_list (pv 3) pe_int (fun _ _ => rfl)) (pb call_len T.b_len v_len (pa_cons (pv 4) pa_nil))) (fun _ _ => rfl)) pa_nil)))) (pa_cons (pe_tup (pa_cons pe_str (pa_cons pe_str (pa_cons (pe_ix ix_list (pv 4) (pe_op op_mod (pe_ix ix_list (pv 3) pe_int (fun _ _ => rfl)) (pb call_len T.b_len v_len (pa_cons (pv 4) pa_nil))) (fun _ _ => rfl)) pa_nil)))) pa_nil))))
      (pss_cons (ps_if (PW.pt (pw_and (pt_cmpR op_eq (pe_ix ix_list (pv 3) pe_int (fun _ _ => rfl)) pe_int (nomark _)) (pw_and1 (pt_cmp (pc_din hu pe_str (pe_ix ix_tup (pv 1) pe_int (fun _ _ => rfl))))))) (pss_one (ps_expr (pe_bm PySem.F.plainAttrs_list PySem.F.slot_list_append PySem.F.type_list_append mt_append (pv 5) (pa_cons (pe_tup (pa_cons pe_str (pa_cons pe_str (pa_cons pe_str (pa_cons pe_str pa_nil))))) pa_nil)))) pss_nil)
      (pss_cons (ps_if (pt_cmpR op_eq (pe_ix ix_list (pv 3) pe_int (fun _ _ => rfl)) pe_int (nomark _)) (pss_one (ps_expr (pe_bm PySem.F.plainAttrs_list PySem.F.slot_list_append PySem.F.type_list_append mt_append (pv 5) (pa_cons (pe_tup (pa_cons pe_str (pa_cons pe_str (pa_cons pe_str (pa_cons pe_str pa_nil))))) pa_nil)))) pss_nil)
      (pss_cons (ps_if (pt_cmpR op_eq (pe_ix ix_list (pv 3) pe_int (fun _ _ => rfl)) pe_int (nomark _)) (pss_one (ps_expr (pe_bm PySem.F.plainAttrs_list PySem.F.slot_list_append PySem.F.type_list_append mt_append (pv 5) (pa_cons (pe_tup (pa_cons pe_str (pa_cons (pc c_law_test hr (by decide) (pa_cons (pe_slice sl_list (pv 3) (po_some pe_int) (po_some pe_int)) (pa_cons (pv 1) (pa_cons (pe_op op_cat (pv 4) (pe_lst (pa_cons pe_str pa_nil))) pa_nil)))) (pa_cons (pe_lst (pa_cons (pe_tup (pa_cons pe_str (pa_cons pe_str (pa_cons pe_str pa_nil)))) pa_nil)) (pa_cons (pe_lst pa_nil) pa_nil))))) pa_nil)))) pss_nil)
      (pss_cons (ps_par (i := 6) (j := 7) rfl sc.nd rfl rfl (by decide) rfl rfl (pa_cons (pe_op op_cat (pv 4) (pe_lst (pa_cons pe_str (pa_cons pe_str pa_nil)))) (pa_cons (pe_op op_mul pe_int (pe_op op_add pe_int (pe_op op_mod (pe_ix ix_list (pv 3) pe_int (fun _ _ => rfl)) (pv 2)))) pa_nil)) rfl)
      (pss_cons (pset 8 sc.nd (pc c_law_block hr (by decide) (pa_cons (pe_slice sl_list (pv 3) (po_some pe_int) (po_some (pe_op op_add pe_int (pv 7)))) (pa_cons (pv 1) (pa_cons (pe_op op_cat (pe_lst (pa_cons pe_str pa_nil)) (pv 6)) (pa_cons (pe_lst (pa_cons pe_str (pa_cons pe_str pa_nil))) (pa_cons pe_int pa_nil)))))))
      (pss_cons (pset 9 sc.nd (pc c_law_block hr (by decide) (pa_cons (pe_slice sl_list (pv 3) (po_some (pe_op op_add pe_int (pe_op op_mul pe_int (pv 2)))) (po_some (pe_op op_add pe_int (pe_op op_mul pe_int (pv 2))))) (pa_cons (pv 1) (pa_cons (pv 6) (pa_cons (pe_lst (pa_cons pe_str (pa_cons pe_str pa_nil))) (pa_cons pe_int pa_nil)))))))
      (pss_one (ps_ret (pe_disp (pps_cons pe_str (pv 5) (pps_cons pe_str (pv 8) (pps_cons pe_str (pe_slice sl_list (pv 9) po_none (po_some (pe_ix ix_list (pv 3) pe_int (fun _ _ => rfl)))) pps_nil))) (by rfl) (by rfl) (fun z => by cases z) (by decide))))))))))))), ?_⟩
  obtain ⟨c', f, t, d, r, x, y, g0, g1, g2, g3, g4, g5, g6, g7⟩ := id hv
  refine ⟨_, rfl, (by show 5 ≤ sizeLine; decide), fun p1 h1 => ⟨(by show 6 ≤ sizeLine; decide), fun p2 h2 => ?_⟩⟩
  refine ⟨_, rfl, _, _, rfl, rfl, p2, 7, _, rfl, rfl, upd_same, by decide, by decide, (by show 42 ≤ sizeLine; decide), fun p3 h3 => ?_⟩
  refine ⟨p1, p3, _, _, rfl, rfl, (Same.new h3) _ _ ((Same.new h2) _ _ upd_same), upd_same, (by show 47 ≤ sizeLine; decide), fun p4 h4 => ?_⟩
  refine ⟨cc, p4, szs, rfl, upd_same, by decide, by decide, fun lr H1 ns e1 f1 hlr hrow => ?_⟩
  have S1 : Same H H1 := (Same.new h1).trans ((Same.new h2).trans ((Same.new h3).trans ((Same.new h4).trans e1)))
  obtain ⟨nl, nb⟩ := hrow
  replace nl : ns.length = 47 := nl
  have ati : ∀ (i : Nat), i < 47 → ∃ m : Int, atI (ns.map V.int) (i : Int) = some (.int m) ∧ ∀ s, szs[i]? = some s → 0 ≤ m ∧ m < s := fun i hi => by
    have hi' : i < ns.length := by omega
    exact ⟨ns[i], atI_nat (by rw [List.getElem?_map, List.getElem?_eq_getElem hi']; rfl), fun s hs => nb i s _ hs (List.getElem?_eq_getElem hi')⟩
  obtain ⟨m0, a0, b0⟩ := ati 0 (by omega)
  obtain ⟨m1, a1, b1⟩ := ati 1 (by omega)
  obtain ⟨m2, a2, b2⟩ := ati 2 (by omega)
  obtain ⟨m3, a3, b3⟩ := ati 3 (by omega)
  obtain ⟨m4, a4, b4⟩ := ati 4 (by omega)
  have hc1 := S1 _ _ g1
  obtain ⟨y1, hy1, t1⟩ := at_ab m1
  obtain ⟨y2, hy2, t2⟩ := at_ab m2
  refine ⟨_, rfl, _, _, _, _, rfl, rfl, S1.tup g0, rfl, ?_⟩
  refine ⟨_, rfl, _, rfl, _, _, _, _, rfl, rfl, SqL.of hlr, a1, _, rfl, _, _, rfl, .inl ⟨_, SqL.of hc1, rfl⟩, _, _, rfl, rfl, (by show (0:Int) < 2; omega), _, _, _, _, rfl, rfl, SqL.of hc1, t1, (by show 3 ≤ sizeLine; decide), fun p5 h5 => ?_⟩
  have s5 := S1.trans (Same.new (o := .tup [.str (.ofString "put"), .str (.ofString "r"), .str y1]) h5)
  refine ⟨_, rfl, _, rfl, _, _, _, _, rfl, rfl, SqL.of ((Same.new h5) _ _ hlr), a2, _, rfl, _, _, rfl, .inl ⟨_, SqL.of (s5 _ _ g1), rfl⟩, _, _, rfl, rfl, (by show (0:Int) < 2; omega), _, _, _, _, rfl, rfl, SqL.of (s5 _ _ g1), t2, (by show 3 ≤ sizeLine; decide), fun p6 h6 => ⟨(by show 2 ≤ sizeLine; decide), fun lo hlo => ?_⟩⟩
  have s6 : Same H1 (upd (upd H1 p5 (.tup [.str (.ofString "put"), .str (.ofString "r"), .str y1])) p6 (.tup [.str (.ofString "put"), .str (.ofString "s"), .str y2])) := (Same.new h5).trans (Same.new h6)
  have q5 : upd (upd H1 p5 (.tup [.str (.ofString "put"), .str (.ofString "r"), .str y1])) p6 (.tup [.str (.ofString "put"), .str (.ofString "s"), .str y2]) p5 = some (.tup [.str (.ofString "put"), .str (.ofString "r"), .str y1]) := (Same.new h6) _ _ upd_same
  have q6 : upd (upd H1 p5 (.tup [.str (.ofString "put"), .str (.ofString "r"), .str y1])) p6 (.tup [.str (.ofString "put"), .str (.ofString "s"), .str y2]) p6 = some (.tup [.str (.ofString "put"), .str (.ofString "s"), .str y2]) := upd_same
  generalize upd (upd H1 p5 (.tup [.str (.ofString "put"), .str (.ofString "r"), .str y1])) p6 (.tup [.str (.ofString "put"), .str (.ofString "s"), .str y2]) = H6 at *
  have S6 := S1.trans s6
  have hlr6 := s6 _ _ hlr
  have d6 : DpAll K H6 [.ref p5, .ref p6] (encL true [.put (.ofString "r") y1, .put (.ofString "s") y2]) := by
    rw [encL_cons, encL_cons, encL, enc, enc]
    exact .cons (.tup (SqT.of q5) (.cons (.str _) (.cons (.str _) (.cons (.str _) .nil)))) (.cons (.tup (SqT.of q6) (.cons (.str _) (.cons (.str _) (.cons (.str _) .nil)))) .nil)
  let StN : Nat → Hp → Prop := fun n H2 => ∃ (xs : List V) (t : Tst) (rest : List Stm), H2 lo = some (.lst xs) ∧ Same H6 (hid lo H2) ∧ xs.length ≤ 3 ∧ DpAll K (hid lo H2) xs (encL true (.put (.ofString "r") y1 :: .put (.ofString "s") y2 :: rest)) ∧ rest ∈ lSt t ∧ tstSrc [.ofString "a", .ofString "b", .ofString "r"] t ∧ ((rest = [] ∧ xs.length = 2) ∨ m0 < n)
  have st0 : StN 0 (upd H6 lo (.lst [.ref p5, .ref p6])) := by
    have e := hid_of hlo (Same.new (o := .lst [.ref p5, .ref p6]) hlo)
    exact ⟨_, .same (.ofString "a") (.ofString "a"), [], upd_same, e, (by show 2 ≤ 3; omega), d6.up e, List.mem_cons_self, ⟨List.mem_cons_self, List.mem_cons_self⟩, .inl ⟨rfl, rfl⟩⟩
  apply use_rest (StN 1)
  · intro go
    have e0 := hid_of hlo (Same.new (o := .lst [.ref p5, .ref p6]) hlo)
    have lr7 : upd H6 lo (.lst [.ref p5, .ref p6]) lr = some (.lst (ns.map V.int)) := Same.new hlo _ _ hlr6
    refine ⟨_, rfl, _, _, _, _, rfl, rfl, SqL.of lr7, a0, rfl, _, rfl, ?_⟩
    refine ite2 (fun hb => ?_) (fun _ => iteF (go _ ?_))
    · have em : m0 = 0 := by simpa [eqV] using hb
      refine ⟨_, rfl, _, _, _, _, rfl, rfl, (S6.trans (Same.new hlo)).tup g0, rfl, f, _, rfl, .inl ⟨dF, .inr "f", .inl (Same.new hlo _ _ (S6 _ _ g2)), rfl, rfl⟩, _, rfl, iteT ?_⟩
      refine ⟨_, rfl, .inl ⟨rfl, _, SqL.of upd_same⟩, (by show 4 ≤ sizeLine; decide), fun p hp => ⟨lo, _, _, rfl, rfl, (Same.new hp) _ _ upd_same, (by show 2 < sizeLine; decide), go _ ?_⟩⟩
      obtain ⟨z1, z2⟩ := st_app (H7 := upd H6 lo (.lst [.ref p5, .ref p6])) (H8 := upd (upd H6 lo (.lst [.ref p5, .ref p6])) p (.tup [.str (.ofString "call"), .str (.ofString "s"), .str (.ofString "f"), .str (.ofString "r")])) (v := .ref p) (dd := enc true (.call (.ofString "s") (.ofString "f") [.ofString "r"])) e0 (d6.up e0) (Same.new hp).hid (by
        rw [enc]
        exact .tup (SqT.of (by rw [hid_ne (ne_of_none upd_same hp).symm]; exact upd_same)) (.cons (.str _) (.cons (.str _) (.cons (.str _) (.cons (.str _) .nil)))))
      exact ⟨_, .same (.ofString "a") (.ofString "a"), [.call (.ofString "s") (.ofString "f") [.ofString "r"]], upd_same, z1, (by show 3 ≤ 3; omega), (by rw [encL_cons, encL_cons, encL_cons, encL] at *; exact z2), List.mem_cons_of_mem _ List.mem_cons_self, ⟨List.mem_cons_self, List.mem_cons_self⟩, .inr (by rw [em]; decide)⟩
    · obtain ⟨a, b, c, d1, d2, d3, d4, d5, d6, d7⟩ := st0
      exact ⟨a, b, c, d1, d2, d3, d4, d5, d6, d7.imp id fun z => Int.lt_trans z (by omega)⟩
  rintro H7 ⟨xs7, t7, r7, l7, s7, n7, d7, hr7, ht7, f7⟩
  have lr7 : H7 lr = some (.lst (ns.map V.int)) := (s7.trans hid_in) _ _ hlr6
  apply use_rest (StN 2)
  · intro go
    refine ⟨_, rfl, _, _, _, _, rfl, rfl, SqL.of lr7, a0, rfl, _, rfl, ?_⟩
    refine ite2 (fun hb => ?_) (fun _ => go _ ⟨xs7, t7, r7, l7, s7, n7, d7, hr7, ht7, f7.imp id fun z => Int.lt_trans z (by omega)⟩)
    have em : m0 = 1 := by simpa [eqV] using hb
    obtain ⟨rfl, x2⟩ : r7 = [] ∧ xs7.length = 2 := by
      rcases f7 with z | z
      · exact z
      · omega
    refine ⟨_, rfl, .inl ⟨rfl, _, SqL.of l7⟩, (by show 4 ≤ sizeLine; decide), fun p hp => ⟨lo, _, _, rfl, rfl, (Same.new hp) _ _ l7, (by rw [x2]; decide), go _ ?_⟩⟩
    obtain ⟨z1, z2⟩ := st_app (H8 := upd H7 p (.tup [.str (.ofString "do"), .str (.ofString "s"), .str (.ofString "tell"), .str (.ofString "r")])) (v := .ref p) (dd := enc true (.act (some (.ofString "s")) (.ofString "tell") [.ofString "r"])) s7 d7 (Same.new hp).hid (by
      rw [enc]
      exact .tup (SqT.of (by rw [hid_ne (ne_of_none l7 hp).symm]; exact upd_same)) (.cons (.str _) (.cons (.str _) (.cons (.str _) (.cons (.str _) .nil)))))
    exact ⟨_, .same (.ofString "a") (.ofString "a"), [.act (some (.ofString "s")) (.ofString "tell") [.ofString "r"]], upd_same, z1, (by rw [List.length_append, x2]; show 3 ≤ 3; omega), (by rw [encL_cons, encL_cons, encL_cons, encL] at *; exact z2), List.mem_cons_of_mem _ (List.mem_cons_of_mem _ List.mem_cons_self), ⟨List.mem_cons_self, List.mem_cons_self⟩, .inr (by rw [em]; decide)⟩
  rintro H8 ⟨xs8, t8, r8, l8, s8, n8, d8, hr8, ht8, f8⟩
  have lr8 : H8 lr = some (.lst (ns.map V.int)) := (s8.trans hid_in) _ _ hlr6
  have S8 : Same H H8 := S6.trans (s8.trans hid_in)
  apply use_rest (StN 3)
  · intro go
    refine ⟨_, rfl, _, _, _, _, rfl, rfl, SqL.of lr8, a0, rfl, _, rfl, ?_⟩
    refine ite2 (fun hb => ?_) (fun _ => go _ ⟨xs8, t8, r8, l8, s8, n8, d8, hr8, ht8, f8.imp id fun z => Int.lt_trans z (by omega)⟩)
    have em : m0 = 2 := by simpa [eqV] using hb
    obtain ⟨rfl, x2⟩ : r8 = [] ∧ xs8.length = 2 := by
      rcases f8 with z | z
      · exact z
      · omega
    refine ⟨_, rfl, .inl ⟨rfl, _, SqL.of l8⟩, _, rfl, _, rfl, _, rfl, lr, _, rfl, SqL.of lr8, fun q1 k1 => ?_⟩
    have ec : cutV (ns.map V.int) (some 5) (some 8) = ((ns.drop 5).take 3).map V.int := by
      rw [List.map_take, List.map_drop]
      exact cut_mid (ns.map V.int) 5 8 (by omega) (by rw [List.length_map]; omega)
    rw [ec]
    have u1 := Same.new (o := .lst (((ns.drop 5).take 3).map V.int)) k1
    refine ⟨_, rfl, _, rfl, (by show 1 ≤ sizeLine; decide), fun q2 k2 => ⟨c', q2, _, _, rfl, rfl, (u1.trans (Same.new k2)) _ _ (S8 _ _ g1), upd_same, (by show 3 ≤ sizeLine; decide), fun q3 k3 => ?_⟩⟩
    have u3 := u1.trans ((Same.new k2).trans (Same.new (o := .lst [.str (.ofString "a"), .str (.ofString "b"), .str (.ofString "r")]) k3))
    refine ⟨q1, va, q3, (ns.drop 5).take 3, [.ofString "a", .ofString "b", .ofString "r"], rfl, ((Same.new k2).trans (Same.new (o := .lst [.str (.ofString "a"), .str (.ofString "b"), .str (.ofString "r")]) k3)) _ _ upd_same, (by rw [List.length_take, List.length_drop]; omega), hv.up (S8.trans u3), upd_same, (by simp), fun vt H10 tt s10 dt htt => ?_⟩
    have u10 := u3.trans s10
    refine ⟨(by show 3 ≤ sizeLine; decide), fun q4 k4 => ⟨(by show 1 ≤ sizeLine; decide), fun q5 k5 => ⟨(by show 0 ≤ sizeLine; decide), fun q6 k6 => ⟨(by show 4 ≤ sizeLine; decide), fun p hp => ?_⟩⟩⟩⟩
    have v4 := Same.new (o := .tup [.str (.ofString "put"), .str (.ofString "s"), .str (.ofString "r")]) k4
    have v5 := Same.new (o := .lst [.ref q4]) k5
    have v6 := Same.new (o := .lst []) k6
    have v7 := Same.new (o := .tup [.str (.ofString "if"), vt, .ref q5, .ref q6]) hp
    have w4 := (v5.trans (v6.trans v7)) _ _ upd_same
    have w5 := (v6.trans v7) _ _ upd_same
    have w6 := v7 _ _ upd_same
    have w7 : upd (upd (upd (upd H10 q4 (.tup [.str (.ofString "put"), .str (.ofString "s"), .str (.ofString "r")])) q5 (.lst [.ref q4])) q6 (.lst [])) p (.tup [.str (.ofString "if"), vt, .ref q5, .ref q6]) p = some (.tup [.str (.ofString "if"), vt, .ref q5, .ref q6]) := upd_same
    have u11 := u10.trans (v4.trans (v5.trans (v6.trans v7)))
    have s1011 := v4.trans (v5.trans (v6.trans v7))
    have n5 : q5 ≠ lo := (ne_of_none ((u10.trans v4) _ _ l8) k5).symm
    have n6 : q6 ≠ lo := (ne_of_none ((u10.trans (v4.trans v5)) _ _ l8) k6).symm
    generalize upd (upd (upd (upd H10 q4 (.tup [.str (.ofString "put"), .str (.ofString "s"), .str (.ofString "r")])) q5 (.lst [.ref q4])) q6 (.lst [])) p (.tup [.str (.ofString "if"), vt, .ref q5, .ref q6]) = H11 at *
    refine ⟨lo, _, _, rfl, rfl, u11 _ _ l8, (by rw [x2]; decide), go _ ?_⟩
    have l11 := u11 _ _ l8
    obtain ⟨z1, z2⟩ := st_app (H8 := H11) (v := .ref p) (dd := enc true (.ite tt [.put (.ofString "s") (.ofString "r")] [])) s8 d8 u11.hid (by
      rw [enc, encL_cons, encL, enc]
      refine .tup (sqT_hid l11 (SqT.of w7)) (.cons (.str _) (.cons (dp_hid l11 _ _ (pnl_encT _) (dt.up s1011)) (.cons (.lst (SqL.of (xs := [.ref q4]) ?_) (.cons (.tup (sqT_hid l11 (SqT.of w4)) (.cons (.str _) (.cons (.str _) (.cons (.str _) .nil)))) .nil)) (.cons (.lst (SqL.of (xs := []) ?_) .nil) .nil))))
      · rw [hid_ne n5]; exact w5
      · rw [hid_ne n6]; exact w6)
    exact ⟨_, tt, [.ite tt [.put (.ofString "s") (.ofString "r")] []], upd_same, z1, (by rw [List.length_append, x2]; show 3 ≤ 3; omega), (by rw [encL_cons, encL_cons, encL_cons, encL] at *; exact z2), List.mem_cons_of_mem _ (List.mem_cons_of_mem _ (List.mem_cons_of_mem _ List.mem_cons_self)), htt, .inr (by rw [em]; decide)⟩
  rintro H9 ⟨xs9, t9, r9, l9, s9, n9, d9, hr9, ht9, f9⟩
  have lr9 : H9 lr = some (.lst (ns.map V.int)) := (s9.trans hid_in) _ _ hlr6
  have S9 : Same H H9 := S6.trans (s9.trans hid_in)
  have c0 : 0 ≤ m3 % 3 := Int.emod_nonneg m3 (by omega)
  have c1 : m3 % 3 < 3 := Int.emod_lt_of_pos m3 (by omega)
  obtain ⟨kk, hk⟩ := Int.eq_ofNat_of_zero_le c0
  refine ⟨_, rfl, (by show 2 ≤ sizeLine; decide), fun q1 k1 => ⟨c', q1, _, _, rfl, rfl, (Same.new k1) _ _ (S9 _ _ g1), upd_same, (by show 4 ≤ sizeLine; decide), fun q2 k2 => ?_⟩⟩
  have u2 := (Same.new k1).trans (Same.new (o := .lst ([V.str (.ofString "a"), .str (.ofString "b")] ++ [V.str (.ofString "r"), .str (.ofString "s")])) k2)
  refine ⟨_, rfl, _, _, _, _, rfl, rfl, SqL.of (u2 _ _ lr9), a3, _, rfl, _, _, rfl, rfl, (by show (0:Int) < 3; omega), _, _, rfl, rfl, _, _, rfl, rfl, .inl ⟨by omega, by omega⟩, _, _, rfl, ?_⟩
  have u2b := u2
  have x2c : upd (upd H9 q1 (.lst [.str (.ofString "r"), .str (.ofString "s")])) q2 (.lst ([V.str (.ofString "a"), .str (.ofString "b")] ++ [V.str (.ofString "r"), .str (.ofString "s")])) q2 = some (.lst (srcE.map V.str)) := upd_same
  generalize upd (upd H9 q1 (.lst [.str (.ofString "r"), .str (.ofString "s")])) q2 (.lst ([V.str (.ofString "a"), .str (.ofString "b")] ++ [V.str (.ofString "r"), .str (.ofString "s")])) = H10 at *
  refine ⟨_, rfl, _, rfl, _, rfl, _, _, rfl, rfl, _, rfl, lr, _, rfl, SqL.of (u2 _ _ lr9), fun q3 k3 => ?_⟩
  have ec : cutV (ns.map V.int) (some 5) (some (5 + 6 * (1 + m3 % 3))) = ((ns.drop 5).take (6 * (1 + kk))).map V.int := by
    rw [List.map_take, List.map_drop]
    have z := cut_mid (ns.map V.int) 5 (5 + 6 * (1 + kk)) (by omega) (by rw [List.length_map]; omega)
    rw [show 5 + 6 * (1 + kk) - 5 = 6 * (1 + kk) by omega] at z
    rw [← z]
    congr 2
    omega
  rw [ec]
  have u3 := Same.new (o := .lst (((ns.drop 5).take (6 * (1 + kk))).map V.int)) k3
  refine ⟨_, rfl, (by show 1 ≤ sizeLine; decide), fun q4 k4 => ⟨_, rfl, q4, q2, _, _, rfl, rfl, upd_same, (Same.new k4) _ _ (u3 _ _ x2c), (by show 5 ≤ sizeLine; decide), fun q5 k5 => ⟨(by show 2 ≤ sizeLine; decide), fun q6 k6 => ?_⟩⟩⟩
  refine ⟨q3, va, q5, q6, (ns.drop 5).take (6 * (1 + kk)), srcT, regRS, 1 + kk, rfl, (Same.new k6) _ _ ((Same.new k5) _ _ ((Same.new k4) _ _ upd_same)), (by rw [List.length_take, List.length_drop]; omega), by omega, hv.up (S9.trans (u2.trans (u3.trans ((Same.new k4).trans ((Same.new k5).trans (Same.new k6)))))), (Same.new k6) _ _ upd_same, by simp [srcT], upd_same, by simp [regRS], fun lt H11 xt st s11 f11 a11 d11 b11 w11 ne11 => ?_⟩
  have S11 : Same H10 H11 := u3.trans ((Same.new k4).trans ((Same.new k5).trans ((Same.new k6).trans s11)))
  refine ⟨_, rfl, _, rfl, _, _, rfl, rfl, .inl ⟨by omega, by omega⟩, _, _, rfl, rfl, _, rfl, _, rfl, _, _, rfl, rfl, .inl ⟨by omega, by omega⟩, _, _, rfl, rfl, _, rfl, lr, _, rfl, SqL.of (S11 _ _ (u2 _ _ lr9)), fun o3 j3 => ?_⟩
  have ec2 : cutV (ns.map V.int) (some 23) (some 41) = ((ns.drop 23).take 18).map V.int := by
    rw [List.map_take, List.map_drop]
    exact cut_mid (ns.map V.int) 23 41 (by omega) (by rw [List.length_map]; omega)
  refine ⟨_, rfl, _, rfl, (by show 2 ≤ sizeLine; decide), fun o6 j6 => ?_⟩
  have t11 := S11 _ _ x2c
  refine ⟨o3, va, q2, o6, (ns.drop 23).take 18, srcE, regRS, 3, rfl, (Same.new j6) _ _ (upd_same.trans (congrArg (fun z => some (HO.lst z)) ec2)), (by rw [List.length_take, List.length_drop]; omega), by omega, hv.up (S9.trans (u2.trans (S11.trans ((Same.new j3).trans (Same.new j6))))), (Same.new j6) _ _ ((Same.new j3) _ _ t11), by simp [srcE], upd_same, by simp [regRS], fun le H12 xe se s12 f12 a12 d12 b12 w12 ne12 => ?_⟩
  have S12 : Same H11 H12 := (Same.new j3).trans ((Same.new j6).trans s12)
  obtain ⟨c4, hc4⟩ := Int.eq_ofNat_of_zero_le (b4 3 rfl).1
  intro p hp
  have vp := Same.new (o := .dK []) hp
  refine ⟨_, rfl, _, rfl, _, rfl, _, rfl, _, _, _, _, rfl, rfl, SqL.of ((S12.trans vp) _ _ (S11 _ _ (u2 _ _ lr9))), a4, _, rfl, le, _, rfl, SqL.of (vp _ _ a12), fun o7 j7 => ⟨Same.new j7 _ _ upd_same, [(.inr (.ofString "start"), .ref lo), (.inr (.ofString "turn"), .ref lt), (.inr (.ofString "end"), .ref o7)], rfl, (by show 3 ≤ 15; omega), ?_⟩⟩
  have hcut : cutV xe none (some m4) = xe.take c4 := by rw [hc4]; exact cut_take xe c4
  rw [hcut]
  have S13 : Same H12 (upd (upd (upd H12 p (.dK [])) o7 (.lst (xe.take c4))) p (.dK (mergeK [] [(.inr (.ofString "start"), .ref lo), (.inr (.ofString "turn"), .ref lt), (.inr (.ofString "end"), .ref o7)]))) := fun a o h => by
    have e := (vp.trans (Same.new (o := .lst (xe.take c4)) j7)) a o h
    rw [upd_ne (ne_of_none h hp)]
    exact e
  have n7 : o7 ≠ p := (ne_of_none upd_same j7).symm
  refine k p _ (.put (.ofString "r") y1 :: .put (.ofString "s") y2 :: r9) st (se.take c4) (S9.trans (u2.trans (S11.trans (S12.trans S13)))) ⟨lo, lt, o7, xs9, xt, xe.take c4, upd_same, (u2.trans (S11.trans (S12.trans S13))) _ _ l9, (S12.trans S13) _ _ a11, ?_, d9.up (hid_in.trans (u2.trans (S11.trans (S12.trans S13)))), d11.up (hid_in.trans (S12.trans S13)), ?_⟩ ⟨y1, y2, t9, r9, rfl, hy1, hy2, hr9, ht9⟩ b11 (by omega) (ne11 (by omega)) (fun x hx => b12 x (List.mem_of_mem_take hx)) ?_
  · rw [upd_ne n7]
    exact upd_same
  · have z := (dpa_take c4 d12).up (hid_in.trans S13)
    rw [encL_map, ← List.map_take, ← encL_map] at z
    exact z
  · exact Nat.le_trans (wts_take c4 se) w12
end
end K21
set_option Elab.async false
set_option linter.all false
set_option maxRecDepth 100000
set_option maxHeartbeats 1000000
namespace K21
open PySem PySem.Spec PyProof.Rows L2
def irs : List Str := [.ofString "item", .ofString "r", .ofString "s"]
/-- the turn with leaves laid in -/
def WlIn (y z : Str) (h l : Stm) (st st' : List Stm) : Prop := st' = st ∨ st' = st.take (st.length - 1) ++ [.ite (.same y z) [h, .leave] []] ++ st.drop (st.length - 1) ∨ st' = .ite (.same y z) [.ite (.same (.ofString "item") (.ofString "s")) [] [.leave], l] [h] :: st ∨
  st' = (.ite (.same y z) [.leave] [.put (.ofString "t") (.ofString "item")] :: st) ++ [.act none (.ofString "tell") [.ofString "t"]]
def WlOk (st st' : List Stm) : Prop := ∃ (y z : Str) (h l : Stm), y ∈ irs ∧ z ∈ irs ∧ h ∈ st ∧ l ∈ st ∧ WlIn y z h l st st'
def spWlL (K : PySem.W.Frag) : Sp := fun vs H Q _ => ∃ (d dl : Addr) (ns : List Int) (ss st se : List Stm), vs = [.ref d, .ref dl] ∧ H dl = some (.lst (ns.map V.int)) ∧ ns.length = 3 ∧ LawLp K H d ss st se ∧ st ≠ [] ∧ st.length ≤ 3 ∧
  ∀ d' H' st', Same H H' → LawLp K H' d' ss st' se → WlOk st st' → Q (.ref d') H'
theorem at_irs (m : Int) : ∃ y ∈ irs, atI [V.str (.ofString "item"), V.str (.ofString "r"), V.str (.ofString "s")] (m % 3) = some (.str y) := by
  obtain ⟨y, hy, t⟩ := at_mod (xs := [V.str (.ofString "item"), V.str (.ofString "r"), V.str (.ofString "s")]) m (by simp)
  have : y = V.str (.ofString "item") ∨ y = V.str (.ofString "r") ∨ y = V.str (.ofString "s") := by simpa using hy
  rcases this with e | e | e <;> subst e <;> exact ⟨_, by simp [irs], t⟩
section
variable {P : Program} {w : World} {K : PySem.W.Frag} {mg : Str → Option Value} {base : Heap}
theorem sc_law_with_leaves : FnScope ["_law_loop_here", "_law_draws", "_law_turn", "_law_sources", "_law_test_here"] ["_law_loop_here", "_law_draws"] (defScope s_law_with_leaves) := ⟨rfl, rfl, rfl, by decide +kernel, rfl, by decide +kernel, by decide +kernel⟩
theorem ok_law_with_leaves (T : Txt K mg) : Cal P w K mg base (1) "_law_with_leaves" (spWlL K) := by
  refine cal_of T.d_law_with_leaves T.g_law_with_leaves sc_law_with_leaves (fun _ _ _ _ _ _ us hl => match us, hl with | [_, _], _ => rfl) (fun vs H Q E h => ?_) (fun cdv A outer s H vs Q E hr h => ?_)
  · obtain ⟨d, dl, ns, ss, st, se, rfl, hdl, hns, hL, hst, hst3, k⟩ := h
    rfl
  obtain ⟨d, dl, ns, ss, st, se, rfl, hdl, hns, hL, hst, hst3, k⟩ := h
  have sc := sc_law_with_leaves
  have hu := hu_of hr
  refine ⟨_, (pss_cons (ps_par (i := 2) (j := 3) rfl sc.nd rfl rfl (by decide) rfl rfl (pa_cons (pbt call_list_of T.b_list v_list (pa_cons (pe_dget hu (pv 0) pe_str (fun _ _ => rfl)) pa_nil)) (pa_cons (pe_lst (pa_cons pe_str (pa_cons pe_str (pa_cons pe_str pa_nil)))) pa_nil)) rfl)
      (pss_cons (pset 4 sc.nd (pe_tup (pa_cons pe_str (pa_cons (pe_ix ix_list (pv 3) (pe_op op_mod (pbt call_int1 T.b_int v_int (pa_cons (pe_ix ix_list (pv 1) pe_int (fun _ _ => rfl)) pa_nil)) pe_int) (fun _ _ => rfl)) (pa_cons (pe_ix ix_list (pv 3) (pe_op op_mod (pbt call_int1 T.b_int v_int (pa_cons (pe_ix ix_list (pv 1) pe_int (fun _ _ => rfl)) pa_nil)) pe_int) (fun _ _ => rfl)) pa_nil)))))
      (pss_cons (ps_if (pt_cmpR op_eq (pe_op op_mod (pe_ix ix_list (pv 1) pe_int (fun _ _ => rfl)) pe_int) pe_int (nomark _)) (pss_one (ps_expr (pe_bm PySem.F.plainAttrs_list PySem.F.slot_list_insert PySem.F.type_list_insert mt_insert (pv 2) (pa_cons (pe_op op_sub (pb call_len T.b_len v_len (pa_cons (pv 2) pa_nil)) pe_int) (pa_cons (pe_tup (pa_cons pe_str (pa_cons (pv 4) (pa_cons (pe_lst (pa_cons (pe_ix ix_list (pv 2) pe_int (fun _ _ => rfl)) (pa_cons (pe_tup (pa_cons pe_str pa_nil)) pa_nil))) (pa_cons (pe_lst pa_nil) pa_nil))))) pa_nil))))) pss_nil)
      (pss_cons (ps_if (pt_cmpR op_eq (pe_op op_mod (pe_ix ix_list (pv 1) pe_int (fun _ _ => rfl)) pe_int) pe_int (nomark _)) (pss_one (ps_expr (pe_bm PySem.F.plainAttrs_list PySem.F.slot_list_insert PySem.F.type_list_insert mt_insert (pv 2) (pa_cons pe_int (pa_cons (pe_tup (pa_cons pe_str (pa_cons (pv 4) (pa_cons (pe_lst (pa_cons (pe_tup (pa_cons pe_str (pa_cons (pe_tup (pa_cons pe_str (pa_cons pe_str (pa_cons pe_str pa_nil)))) (pa_cons (pe_lst pa_nil) (pa_cons (pe_lst (pa_cons (pe_tup (pa_cons pe_str pa_nil)) pa_nil)) pa_nil))))) (pa_cons (pe_ix ix_list (pv 2) (pe_un un_neg pe_int) (fun _ _ => rfl)) pa_nil))) (pa_cons (pe_lst (pa_cons (pe_ix ix_list (pv 2) pe_int (fun _ _ => rfl)) pa_nil)) pa_nil))))) pa_nil))))) pss_nil)
      (pss_cons (ps_if (pt_cmpR op_eq (pe_op op_mod (pe_ix ix_list (pv 1) pe_int (fun _ _ => rfl)) pe_int) pe_int (nomark _)) (pss_one (pset 2 sc.nd (pe_op op_cat (pe_op op_cat (pe_lst (pa_cons (pe_tup (pa_cons pe_str (pa_cons (pv 4) (pa_cons (pe_lst (pa_cons (pe_tup (pa_cons pe_str pa_nil)) pa_nil)) (pa_cons (pe_lst (pa_cons (pe_tup (pa_cons pe_str (pa_cons pe_str (pa_cons pe_str pa_nil)))) pa_nil)) pa_nil))))) pa_nil)) (pv 2)) (pe_lst (pa_cons (pe_tup (pa_cons pe_str (pa_cons pe_non (pa_cons pe_str (pa_cons pe_str pa_nil))))) pa_nil))))) pss_nil)
      (pss_one (ps_ret (pe_disp (pps_cons pe_str (pe_dget hu (pv 0) pe_str (fun _ _ => rfl)) (pps_cons pe_str (pv 2) (pps_cons pe_str (pe_dget hu (pv 0) pe_str (fun _ _ => rfl)) pps_nil))) (by rfl) (by rfl) (fun z => by cases z) (by decide))))))))), ?_⟩
  obtain ⟨ls, lt, le, xs, xt, xe, hd, h1, h2, h3, d1, d2, d3⟩ := hL
  have ati : ∀ (i : Nat), i < ns.length → ∃ m : Int, atI (ns.map V.int) (i : Int) = some (.int m) := fun i hi => ⟨ns[i], atI_nat (by rw [List.getElem?_map, List.getElem?_eq_getElem hi]; rfl)⟩
  obtain ⟨m0, a0⟩ := ati 0 (by omega)
  obtain ⟨m1, a1⟩ := ati 1 (by omega)
  obtain ⟨m2, a2⟩ := ati 2 (by omega)
  obtain ⟨y, hy, t1⟩ := at_irs m1
  obtain ⟨z, hz, t2⟩ := at_irs m2
  have hlen : xt.length = st.length := by rw [dpa_len d2, encL_map, List.length_map]
  obtain ⟨s0, sr, rfl⟩ : ∃ a b, st = a :: b := by
    cases st with
    | nil => exact absurd rfl hst
    | cons a b => exact ⟨a, b, rfl⟩
  obtain ⟨x0, xr, rfl⟩ : ∃ a b, xt = a :: b := by
    cases xt with
    | nil => cases hlen
    | cons a b => exact ⟨a, b, rfl⟩
  obtain ⟨sl, hsl⟩ : ∃ a, (s0 :: sr)[sr.length]? = some a := ⟨(s0 :: sr)[sr.length], List.getElem?_eq_getElem (by simp)⟩
  obtain ⟨xl, hxl⟩ : ∃ a, (x0 :: xr)[xr.length]? = some a := ⟨(x0 :: xr)[xr.length], List.getElem?_eq_getElem (by simp)⟩
  have hlr : xr.length = sr.length := by simpa using hlen
  have p63 : (2:Int) ^ 63 = 9223372036854775808 := by decide
  have len3 : (x0 :: xr).length ≤ 3 := by rw [hlen]; exact hst3
  have mem_l : sl ∈ s0 :: sr := List.mem_of_getElem? hsl
  have dp0 : Dp K H x0 (enc true s0) := dpAll_at (i := 0) d2 rfl (by rw [encL_cons]; rfl)
  have dpl : Dp K H xl (enc true sl) := dpAll_at (i := xr.length) d2 hxl (by rw [encL_map, List.getElem?_map, hlr, hsl]; rfl)
  refine ⟨_, rfl, d, _, rfl, .inl ⟨_, .inr "turn", .inl hd, rfl, rfl⟩, lt, _, rfl, .inl (SqL.of h2), fun lo hlo => ⟨(by show 3 ≤ sizeLine; decide), fun lw hlw => ?_⟩⟩
  have e1 := Same.new (o := .lst (x0 :: xr)) hlo
  have e2 := Same.new (o := .lst [V.str (.ofString "item"), V.str (.ofString "r"), V.str (.ofString "s")]) hlw
  have e12 := e1.trans e2
  refine ⟨_, _, rfl, _, rfl, _, rfl, _, _, _, _, rfl, rfl, SqL.of (e12 _ _ hdl), a1, .inl ⟨_, rfl, _, _, rfl, rfl, (by show (0:Int) < 3; omega), _, _, _, _, rfl, rfl, SqL.of upd_same, t1, ?_⟩⟩
  refine ⟨_, rfl, _, rfl, _, _, _, _, rfl, rfl, SqL.of (e12 _ _ hdl), a2, .inl ⟨_, rfl, _, _, rfl, rfl, (by show (0:Int) < 3; omega), _, _, _, _, rfl, rfl, SqL.of upd_same, t2, (by show 3 ≤ sizeLine; decide), fun pt hpt => ?_⟩⟩
  have e3 := Same.new (o := .tup [.str (.ofString "same"), .str y, .str z]) hpt
  have e13 := e12.trans e3
  have lo4 := (e2.trans e3) _ _ (upd_same : upd H lo (.lst (x0 :: xr)) lo = _)
  have pt4 : upd (upd (upd H lo (.lst (x0 :: xr))) lw (.lst [V.str (.ofString "item"), V.str (.ofString "r"), V.str (.ofString "s")])) pt (.tup [.str (.ofString "same"), .str y, .str z]) pt = some (.tup [.str (.ofString "same"), .str y, .str z]) := upd_same
  generalize upd (upd (upd H lo (.lst (x0 :: xr))) lw (.lst [V.str (.ofString "item"), V.str (.ofString "r"), V.str (.ofString "s")])) pt (.tup [.str (.ofString "same"), .str y, .str z]) = H4 at *
  have sHF : Same H (hid lo H4) := hid_of hlo e13
  have npt : pt ≠ lo := fun q => by rw [q, lo4] at pt4; cases pt4
  have dpt : Dp K (hid lo H4) (.ref pt) (encT (.same y z)) := by
    rw [encT]
    exact .tup (SqT.of (by rw [hid_ne npt]; exact pt4)) (.cons (.str _) (.cons (.str _) (.cons (.str _) .nil)))
  have Flo : hid lo H4 lo = none := hid_at
  have sF4 : Same (hid lo H4) H4 := hid_in
  generalize hid lo H4 = F at *
  let StN : Prop → Hp → Prop := fun n H2 => ∃ (ys : List V) (st' : List Stm), H2 lo = some (.lst ys) ∧ Same F H2 ∧ ys.length ≤ 5 ∧ DpAll K H2 ys (encL true st') ∧ ((ys = x0 :: xr ∧ st' = s0 :: sr) ∨ (n ∧ WlOk (s0 :: sr) st'))
  have st0 : ∀ n, StN n H4 := fun n => ⟨_, _, lo4, sF4, by simp at hlen hst3 ⊢; omega, (d2.up sHF).up sF4, .inl ⟨rfl, rfl⟩⟩
  apply use_rest (StN (m0 % 3 = 0))
  · intro go
    refine ⟨_, rfl, _, _, _, _, rfl, rfl, SqL.of (sF4 _ _ (sHF _ _ hdl)), a0, _, _, rfl, rfl, (by show (0:Int) < 3; omega), rfl, _, rfl, ?_⟩
    refine ite2 (fun hb => ?_) (fun _ => go _ (st0 _))
    have em : m0 % 3 = 0 := by simpa [eqV] using hb
    refine ⟨_, rfl, .inl ⟨rfl, _, SqL.of lo4⟩, _, rfl, _, _, rfl, .inl ⟨_, SqL.of lo4, rfl⟩, _, _, rfl, rfl, _, rfl, _, rfl, _, _, _, _, rfl, rfl, SqL.of lo4, atI_nat (j := 0) rfl, (by show 1 ≤ sizeLine; decide), fun q1 k1 => ⟨(by show 2 ≤ sizeLine; decide), fun q2 k2 => ⟨(by show 0 ≤ sizeLine; decide), fun q3 k3 => ⟨(by show 4 ≤ sizeLine; decide), fun q4 k4 => ?_⟩⟩⟩⟩
    have u1 := Same.new (o := .tup [.str (.ofString "leave")]) k1
    have u2 := Same.new (o := .lst [x0, .ref q1]) k2
    have u3 := Same.new (o := .lst []) k3
    have u4 := Same.new (o := .tup [.str (.ofString "if"), .ref pt, .ref q2, .ref q3]) k4
    have u14 := u1.trans (u2.trans (u3.trans u4))
    have w1 := (u2.trans (u3.trans u4)) _ _ upd_same
    have w2 := (u3.trans u4) _ _ upd_same
    have w3 := u4 _ _ upd_same
    have w4 : upd (upd (upd (upd H4 q1 (.tup [.str (.ofString "leave")])) q2 (.lst [x0, .ref q1])) q3 (.lst [])) q4 (.tup [.str (.ofString "if"), .ref pt, .ref q2, .ref q3]) q4 = some (.tup [.str (.ofString "if"), .ref pt, .ref q2, .ref q3]) := upd_same
    have n1 : q1 ≠ lo := nh lo4 k1
    have n2 : q2 ≠ lo := nh (u1 _ _ lo4) k2
    have n3 : q3 ≠ lo := nh ((u1.trans u2) _ _ lo4) k3
    have n4 : q4 ≠ lo := nh ((u1.trans (u2.trans u3)) _ _ lo4) k4
    generalize upd (upd (upd (upd H4 q1 (.tup [.str (.ofString "leave")])) q2 (.lst [x0, .ref q1])) q3 (.lst [])) q4 (.tup [.str (.ofString "if"), .ref pt, .ref q2, .ref q3]) = H5 at *
    refine ⟨lo, _, _, _, rfl, rfl, u14 _ _ lo4, Nat.lt_of_le_of_lt len3 (by decide), by rw [List.length_cons]; omega, by omega, go _ ?_⟩
    have sF5 : Same F (upd H5 lo (.lst ((x0 :: xr).take ((((x0 :: xr).length : Nat) : Int) - 1).toNat ++ [.ref q4] ++ (x0 :: xr).drop ((((x0 :: xr).length : Nat) : Int) - 1).toNat))) := (sF4.trans u14).mut Flo
    have en : ((((x0 :: xr).length : Nat) : Int) - 1).toNat = (s0 :: sr).length - 1 := by rw [hlen, List.length_cons]; omega
    have v1 := (upd_ne (H := H5) (o := .lst ((x0 :: xr).take ((((x0 :: xr).length : Nat) : Int) - 1).toNat ++ [.ref q4] ++ (x0 :: xr).drop ((((x0 :: xr).length : Nat) : Int) - 1).toNat)) n1).trans w1
    have v2 := (upd_ne (H := H5) (o := .lst ((x0 :: xr).take ((((x0 :: xr).length : Nat) : Int) - 1).toNat ++ [.ref q4] ++ (x0 :: xr).drop ((((x0 :: xr).length : Nat) : Int) - 1).toNat)) n2).trans w2
    have v3 := (upd_ne (H := H5) (o := .lst ((x0 :: xr).take ((((x0 :: xr).length : Nat) : Int) - 1).toNat ++ [.ref q4] ++ (x0 :: xr).drop ((((x0 :: xr).length : Nat) : Int) - 1).toNat)) n3).trans w3
    have v4 := (upd_ne (H := H5) (o := .lst ((x0 :: xr).take ((((x0 :: xr).length : Nat) : Int) - 1).toNat ++ [.ref q4] ++ (x0 :: xr).drop ((((x0 :: xr).length : Nat) : Int) - 1).toNat)) n4).trans w4
    have w5 : upd H5 lo (.lst ((x0 :: xr).take ((((x0 :: xr).length : Nat) : Int) - 1).toNat ++ [.ref q4] ++ (x0 :: xr).drop ((((x0 :: xr).length : Nat) : Int) - 1).toNat)) lo = some (.lst ((x0 :: xr).take ((((x0 :: xr).length : Nat) : Int) - 1).toNat ++ [.ref q4] ++ (x0 :: xr).drop ((((x0 :: xr).length : Nat) : Int) - 1).toNat)) := upd_same
    generalize upd H5 lo (.lst ((x0 :: xr).take ((((x0 :: xr).length : Nat) : Int) - 1).toNat ++ [.ref q4] ++ (x0 :: xr).drop ((((x0 :: xr).length : Nat) : Int) - 1).toNat)) = H6 at *
    rw [en] at w5
    refine ⟨_, (s0 :: sr).take ((s0 :: sr).length - 1) ++ [.ite (.same y z) [s0, .leave] []] ++ (s0 :: sr).drop ((s0 :: sr).length - 1), w5, sF5, ?_, ?_, .inr ⟨em, y, z, s0, sl, hy, hz, List.mem_cons_self, mem_l, .inr (.inl rfl)⟩⟩
    · simp only [List.length_append, List.length_take, List.length_drop, List.length_cons, List.length_nil] at hlen hst3 ⊢
      omega
    · have d6 := (d2.up sHF).up sF5
      rw [encL_map, List.map_append, List.map_append, List.map_take, List.map_drop, ← encL_map] at *
      refine dpa_app (dpa_app (dpa_take _ d6) (.cons ?_ .nil)) (dpa_drop _ d6)
      show Dp K H6 (.ref q4) (enc true (.ite (.same y z) [s0, .leave] []))
      rw [enc, encL_cons, encL_cons, encL, enc]
      exact .tup (SqT.of v4) (.cons (.str _) (.cons (dpt.up sF5) (.cons (.lst (SqL.of v2) (.cons ((dp0.up sHF).up sF5) (.cons (.tup (SqT.of v1) (.cons (.str _) .nil)) .nil))) (.cons (.lst (SqL.of v3) .nil) .nil))))
  have fin : ∀ (lo' : Addr) (H8 : Hp) (ys : List V) (st' : List Stm), Same H H8 → H8 lo' = some (.lst ys) → DpAll K H8 ys (encL true st') → WlOk (s0 :: sr) st' → ∀ p, H8 p = none →
      Q (.ref p) (upd (upd H8 p (.dK [])) p (.dK (mergeK [] [(.inr (.ofString "start"), .ref ls), (.inr (.ofString "turn"), .ref lo'), (.inr (.ofString "end"), .ref le)]))) := fun lo' H8 ys st' s8 l8 d8 w8 p hp => by
    have S : Same H8 (upd (upd H8 p (.dK [])) p (.dK (mergeK [] [(.inr (.ofString "start"), .ref ls), (.inr (.ofString "turn"), .ref lo'), (.inr (.ofString "end"), .ref le)]))) := fun a o h => by
      rw [upd_ne (ne_of_none h hp), upd_ne (ne_of_none h hp)]
      exact h
    exact k p _ st' (s8.trans S) ⟨ls, lo', le, xs, ys, xe, upd_same, (s8.trans S) _ _ h1, S _ _ l8, (s8.trans S) _ _ h3, d1.up (s8.trans S), d8.up S, d3.up (s8.trans S)⟩ w8
  rintro H7 ⟨ys7, st7, l7, s7, n7, d7, f7⟩
  have S7 : Same H H7 := sHF.trans s7
  apply use_rest (StN (m0 % 3 = 0 ∨ m0 % 6 = 1))
  · intro go
    refine ⟨_, rfl, _, _, _, _, rfl, rfl, SqL.of (S7 _ _ hdl), a0, _, _, rfl, rfl, (by show (0:Int) < 6; omega), rfl, _, rfl, ?_⟩
    refine ite2 (fun hb => ?_) (fun _ => go _ ⟨ys7, st7, l7, s7, n7, d7, f7.imp id (fun q => ⟨.inl q.1, q.2⟩)⟩)
    have em : m0 % 6 = 1 := by simpa [eqV] using hb
    obtain ⟨rfl, rfl⟩ : ys7 = x0 :: xr ∧ st7 = s0 :: sr := by
      rcases f7 with q | q
      · exact q
      · omega
    have atl : atI (x0 :: xr) (-1) = some xl := by
      have e : x0 :: xr = (x0 :: xr).take xr.length ++ [xl] := by
        have q := List.take_append_drop xr.length (x0 :: xr)
        have q2 : (x0 :: xr).drop xr.length = [xl] := by
          rw [List.drop_eq_getElem_cons (by simp), List.drop_eq_nil_of_le (by simp)]
          rw [List.getElem?_eq_getElem (by simp)] at hxl
          exact congrArg (· :: []) (Option.some.inj hxl)
        rw [q2] at q
        exact q.symm
      rw [e]
      exact atI_last _ _
    refine ⟨_, rfl, .inl ⟨rfl, _, SqL.of l7⟩, _, rfl, (by show 3 ≤ sizeLine; decide), fun q1 k1 => ⟨(by show 0 ≤ sizeLine; decide), fun q2 k2 => ⟨(by show 1 ≤ sizeLine; decide), fun q3 k3 => ⟨(by show 1 ≤ sizeLine; decide), fun q4 k4 => ⟨(by show 4 ≤ sizeLine; decide), fun q5 k5 => ?_⟩⟩⟩⟩⟩
    have u1 := Same.new (o := .tup [.str (.ofString "same"), .str (.ofString "item"), .str (.ofString "s")]) k1
    have u2 := Same.new (o := .lst []) k2
    have u3 := Same.new (o := .tup [.str (.ofString "leave")]) k3
    have u4 := Same.new (o := .lst [.ref q3]) k4
    have u5 := Same.new (o := .tup [.str (.ofString "if"), .ref q1, .ref q2, .ref q4]) k5
    have u15 := u1.trans (u2.trans (u3.trans (u4.trans u5)))
    refine ⟨_, rfl, _, rfl, _, _, _, _, rfl, rfl, SqL.of (u15 _ _ l7), atl, (by show 2 ≤ sizeLine; decide), fun q6 k6 => ?_⟩
    have u6 := Same.new (o := .lst [.ref q5, xl]) k6
    refine ⟨_, rfl, _, _, _, _, rfl, rfl, SqL.of ((u15.trans u6) _ _ l7), atI_nat (j := 0) rfl, (by show 1 ≤ sizeLine; decide), fun q7 k7 => ⟨(by show 4 ≤ sizeLine; decide), fun q8 k8 => ?_⟩⟩
    have u7 := Same.new (o := .lst [x0]) k7
    have u8 := Same.new (o := .tup [.str (.ofString "if"), .ref pt, .ref q6, .ref q7]) k8
    have u18 := u15.trans (u6.trans (u7.trans u8))
    have w1 := (u2.trans (u3.trans (u4.trans (u5.trans (u6.trans (u7.trans u8)))))) _ _ upd_same
    have w2 := (u3.trans (u4.trans (u5.trans (u6.trans (u7.trans u8))))) _ _ upd_same
    have w3 := (u4.trans (u5.trans (u6.trans (u7.trans u8)))) _ _ upd_same
    have w4 := (u5.trans (u6.trans (u7.trans u8))) _ _ upd_same
    have w5 := (u6.trans (u7.trans u8)) _ _ upd_same
    have w6 := (u7.trans u8) _ _ upd_same
    have w7 := u8 _ _ upd_same
    have w8 : upd (upd (upd (upd (upd (upd (upd (upd H7 q1 (.tup [.str (.ofString "same"), .str (.ofString "item"), .str (.ofString "s")])) q2 (.lst [])) q3 (.tup [.str (.ofString "leave")])) q4 (.lst [.ref q3])) q5 (.tup [.str (.ofString "if"), .ref q1, .ref q2, .ref q4])) q6 (.lst [.ref q5, xl])) q7 (.lst [x0])) q8 (.tup [.str (.ofString "if"), .ref pt, .ref q6, .ref q7]) q8 = some (.tup [.str (.ofString "if"), .ref pt, .ref q6, .ref q7]) := upd_same
    have n1 : q1 ≠ lo := nh l7 k1
    have n2 : q2 ≠ lo := nh (u1 _ _ l7) k2
    have n3 : q3 ≠ lo := nh ((u1.trans u2) _ _ l7) k3
    have n4 : q4 ≠ lo := nh ((u1.trans (u2.trans u3)) _ _ l7) k4
    have n5 : q5 ≠ lo := nh ((u1.trans (u2.trans (u3.trans u4))) _ _ l7) k5
    have n6 : q6 ≠ lo := nh (u15 _ _ l7) k6
    have n7 : q7 ≠ lo := nh ((u15.trans u6) _ _ l7) k7
    have n8 : q8 ≠ lo := nh ((u15.trans (u6.trans u7)) _ _ l7) k8
    generalize upd (upd (upd (upd (upd (upd (upd (upd H7 q1 (.tup [.str (.ofString "same"), .str (.ofString "item"), .str (.ofString "s")])) q2 (.lst [])) q3 (.tup [.str (.ofString "leave")])) q4 (.lst [.ref q3])) q5 (.tup [.str (.ofString "if"), .ref q1, .ref q2, .ref q4])) q6 (.lst [.ref q5, xl])) q7 (.lst [x0])) q8 (.tup [.str (.ofString "if"), .ref pt, .ref q6, .ref q7]) = H8 at *
    refine ⟨lo, _, _, _, rfl, rfl, u18 _ _ l7, Nat.lt_of_le_of_lt len3 (by decide), (by decide), (by decide), go _ ?_⟩
    have sF8 : Same F H8 := s7.trans u18
    have v : ∀ {q : Addr} {o : HO}, q ≠ lo → H8 q = some o → upd H8 lo (.lst ((x0 :: xr).take (0:Int).toNat ++ [V.ref q8] ++ (x0 :: xr).drop (0:Int).toNat)) q = some o := fun n h => (upd_ne n).trans h
    have sF9 : Same F (upd H8 lo (.lst ((x0 :: xr).take (0:Int).toNat ++ [V.ref q8] ++ (x0 :: xr).drop (0:Int).toNat))) := sF8.mut Flo
    replace w1 := v n1 w1
    replace w2 := v n2 w2
    replace w3 := v n3 w3
    replace w4 := v n4 w4
    replace w5 := v n5 w5
    replace w6 := v n6 w6
    replace w7 := v n7 w7
    replace w8 := v n8 w8
    have w9 : upd H8 lo (.lst ((x0 :: xr).take (0:Int).toNat ++ [V.ref q8] ++ (x0 :: xr).drop (0:Int).toNat)) lo = some (.lst (.ref q8 :: x0 :: xr)) := upd_same
    clear v
    generalize upd H8 lo (.lst ((x0 :: xr).take (0:Int).toNat ++ [V.ref q8] ++ (x0 :: xr).drop (0:Int).toNat)) = H9 at *
    refine ⟨_, .ite (.same y z) [.ite (.same (.ofString "item") (.ofString "s")) [] [.leave], sl] [s0] :: (s0 :: sr), w9, sF9, ?_, ?_, .inr ⟨.inr em, y, z, s0, sl, hy, hz, List.mem_cons_self, mem_l, .inr (.inr (.inl rfl))⟩⟩
    · simp only [List.length_cons] at len3 ⊢
      omega
    · rw [encL_cons]
      refine .cons ?_ ((d2.up sHF).up sF9)
      have dl := (dpl.up sHF).up sF9
      have d0 := (dp0.up sHF).up sF9
      have dt := dpt.up sF9
      have di : Dp K H9 (.ref q5) (enc true (.ite (.same (.ofString "item") (.ofString "s")) [] [.leave])) := by
        simp only [enc, encL, encT]
        exact .tup (SqT.of w5) (.cons (.str _) (.cons (.tup (SqT.of w1) (.cons (.str _) (.cons (.str _) (.cons (.str _) .nil)))) (.cons (.lst (SqL.of w2) .nil) (.cons (.lst (SqL.of w4) (.cons (.tup (SqT.of w3) (.cons (.str _) .nil)) .nil)) .nil))))
      rw [enc, encL_cons, encL_cons, encL_cons, encL]
      exact .tup (SqT.of w8) (.cons (.str _) (.cons dt (.cons (.lst (SqL.of w6) (.cons di (.cons dl .nil))) (.cons (.lst (SqL.of w7) (.cons d0 .nil)) .nil))))
  rintro H9 ⟨ys9, st9, l9, s9, n9, d9, f9⟩
  have S9 : Same H H9 := sHF.trans s9
  refine ⟨_, rfl, _, _, _, _, rfl, rfl, SqL.of (S9 _ _ hdl), a0, _, _, rfl, rfl, (by show (0:Int) < 6; omega), rfl, _, rfl, ?_⟩
  refine ite2 (fun hb => ?_) (fun _ => ?_)
  · have em : m0 % 6 = 2 := by simpa [eqV] using hb
    obtain ⟨rfl, rfl⟩ : ys9 = x0 :: xr ∧ st9 = s0 :: sr := by
      rcases f9 with q | q
      · exact q
      · omega
    refine ⟨_, rfl, (by show 1 ≤ sizeLine; decide), fun q1 k1 => ⟨(by show 1 ≤ sizeLine; decide), fun q2 k2 => ⟨(by show 3 ≤ sizeLine; decide), fun q3 k3 => ⟨(by show 1 ≤ sizeLine; decide), fun q4 k4 => ⟨(by show 4 ≤ sizeLine; decide), fun q5 k5 => ⟨(by show 1 ≤ sizeLine; decide), fun q6 k6 => ?_⟩⟩⟩⟩⟩⟩
    have u1 := Same.new (o := .tup [.str (.ofString "leave")]) k1
    have u2 := Same.new (o := .lst [.ref q1]) k2
    have u3 := Same.new (o := .tup [.str (.ofString "put"), .str (.ofString "t"), .str (.ofString "item")]) k3
    have u4 := Same.new (o := .lst [.ref q3]) k4
    have u5 := Same.new (o := .tup [.str (.ofString "if"), .ref pt, .ref q2, .ref q4]) k5
    have u6 := Same.new (o := .lst [.ref q5]) k6
    have u16 := u1.trans (u2.trans (u3.trans (u4.trans (u5.trans u6))))
    refine ⟨_, rfl, q6, lo, _, _, rfl, rfl, upd_same, u16 _ _ l9, Nat.le_trans (by show 1 + (x0 :: xr).length ≤ 10; omega) (by decide), fun q7 k7 => ?_⟩
    have u7 := Same.new (o := .lst ([V.ref q5] ++ (x0 :: xr))) k7
    refine ⟨(by show 4 ≤ sizeLine; decide), fun q8 k8 => ⟨(by show 1 ≤ sizeLine; decide), fun q9 k9 => ?_⟩⟩
    have u8 := Same.new (o := .tup [.str (.ofString "do"), .non, .str (.ofString "tell"), .str (.ofString "t")]) k8
    have u9 := Same.new (o := .lst [.ref q8]) k9
    refine ⟨q7, q9, _, _, rfl, rfl, (u8.trans u9) _ _ upd_same, upd_same, Nat.le_trans (by show ([V.ref q5] ++ (x0 :: xr)).length + 1 ≤ 10; rw [List.length_append]; show 1 + (x0 :: xr).length + 1 ≤ 10; omega) (by decide), fun q10 k10 => ?_⟩
    have u10 := Same.new (o := .lst (([V.ref q5] ++ (x0 :: xr)) ++ [V.ref q8])) k10
    have w1 := (u2.trans (u3.trans (u4.trans (u5.trans (u6.trans (u7.trans (u8.trans (u9.trans u10)))))))) _ _ upd_same
    have w2 := (u3.trans (u4.trans (u5.trans (u6.trans (u7.trans (u8.trans (u9.trans u10))))))) _ _ upd_same
    have w3 := (u4.trans (u5.trans (u6.trans (u7.trans (u8.trans (u9.trans u10)))))) _ _ upd_same
    have w4 := (u5.trans (u6.trans (u7.trans (u8.trans (u9.trans u10))))) _ _ upd_same
    have w5 := (u6.trans (u7.trans (u8.trans (u9.trans u10)))) _ _ upd_same
    have w8 := (u9.trans u10) _ _ upd_same
    have S10 := S9.trans (u16.trans (u7.trans (u8.trans (u9.trans u10))))
    have sF10 := s9.trans (u16.trans (u7.trans (u8.trans (u9.trans u10))))
    intro p hp
    have vp := Same.new (o := .dK []) hp
    refine ⟨_, rfl, d, _, rfl, .inl ⟨_, .inr "start", .inl ((S10.trans vp) _ _ hd), rfl, rfl⟩, _, rfl, _, rfl, d, _, rfl, .inl ⟨_, .inr "end", .inl ((S10.trans vp) _ _ hd), rfl, rfl⟩, upd_same, [(.inr (.ofString "start"), .ref ls), (.inr (.ofString "turn"), .ref q10), (.inr (.ofString "end"), .ref le)], rfl, (by show 3 ≤ 15; omega), ?_⟩
    refine fin q10 _ _ ((.ite (.same y z) [.leave] [.put (.ofString "t") (.ofString "item")] :: (s0 :: sr)) ++ [.act none (.ofString "tell") [.ofString "t"]]) S10 upd_same ?_ ⟨y, z, s0, sl, hy, hz, List.mem_cons_self, mem_l, .inr (.inr (.inr rfl))⟩ p hp
    rw [encL_map, List.map_append, ← encL_map, ← encL_map]
    refine dpa_app ?_ ?_
    · rw [encL_cons]
      refine .cons ?_ (d2.up S10)
      simp only [enc, encL]
      exact .tup (SqT.of w5) (.cons (.str _) (.cons (dpt.up sF10) (.cons (.lst (SqL.of w2) (.cons (.tup (SqT.of w1) (.cons (.str _) .nil)) .nil)) (.cons (.lst (SqL.of w4) (.cons (.tup (SqT.of w3) (.cons (.str _) (.cons (.str _) (.cons (.str _) .nil)))) .nil)) .nil))))
    · simp only [enc, encL, optD]
      exact .cons (.tup (SqT.of w8) (.cons (.str _) (.cons .non (.cons (.str _) (.cons (.str _) .nil))))) .nil
  · intro p hp
    have vp := Same.new (o := .dK []) hp
    refine ⟨_, rfl, d, _, rfl, .inl ⟨_, .inr "start", .inl ((S9.trans vp) _ _ hd), rfl, rfl⟩, _, rfl, _, rfl, d, _, rfl, .inl ⟨_, .inr "end", .inl ((S9.trans vp) _ _ hd), rfl, rfl⟩, upd_same, [(.inr (.ofString "start"), .ref ls), (.inr (.ofString "turn"), .ref lo), (.inr (.ofString "end"), .ref le)], rfl, (by show 3 ≤ 15; omega), ?_⟩
    exact fin lo H9 _ _ S9 l9 d9 (by
      rcases f9 with ⟨_, e⟩ | ⟨_, e⟩
      · exact ⟨y, z, s0, sl, hy, hz, List.mem_cons_self, mem_l, .inl e⟩
      · exact e) p hp
end
end K21
set_option Elab.async false
set_option linter.all false
set_option maxRecDepth 100000
set_option maxHeartbeats 1000000
namespace K21
open PySem PySem.Spec PyProof.Rows L2
theorem nLs_mem {s : Stm} : ∀ {ss : List Stm}, nLs ss = 0 → s ∈ ss → s.nL = 0
  | [], _, h => by cases h
  | a :: r, h0, h => by
    rw [nLs_cons] at h0
    rcases List.mem_cons.mp h with e | e
    · rw [e]; omega
    · exact nLs_mem (by omega) e
theorem deps_mem {s : Stm} {n : Nat} : ∀ {ss : List Stm}, deps ss ≤ n → s ∈ ss → s.dep ≤ n
  | [], _, h => by cases h
  | a :: r, h0, h => by
    rw [deps_cons] at h0
    rcases List.mem_cons.mp h with e | e
    · rw [e]; omega
    · exact deps_mem (by omega) e
def spLvs (K : PySem.W.Frag) (c : Bool) (n : Nat) : Sp := fun vs H Q _ => ∃ (v : V) (ss : List Stm), vs = [v] ∧ Dp K H v (sqD c (encL false ss)) ∧ nLs ss = 0 ∧ deps ss ≤ n ∧ ∀ H', Same H H' → Q (.bl false) H'
def spLvsO (K : PySem.W.Frag) (c : Bool) : Nat → Sp
  | 0 => fun _ _ _ _ => False
  | n + 1 => spLvs K c n
def spMade (K : PySem.W.Frag) : Sp := fun vs H Q _ => ∃ (nm d : Addr) (L : Lp) (Rg : List Str), vs = [.ref nm, .ref d] ∧ NamesAt K H nm ∧ LawLp K H d L.start L.turn L.fin ∧ LpOk L Rg ∧ ∀ o H', Same H H' → LoopAt K H' o nm L Rg → Q (.ref o) H'
section
variable {P : Program} {w : World} {K : PySem.W.Frag} {mg : Str → Option Value} {base : Heap}
theorem sc_law_leaves : FnScope ["_law_statements", "_law_thing_here"] ["_law_statements"] (defScope s_law_leaves) := ⟨rfl, rfl, rfl, by decide +kernel, rfl, by decide +kernel, by decide +kernel⟩
theorem ok_law_leaves (T : Txt K mg) : ∀ (c : Bool) (n : Nat), (∀ c, Cal P w K mg base (n + 1) "_law_leaves" (spLvsO K c n)) → Cal P w K mg base (n+2) "_law_leaves" (spLvs K c n) := by
  intro c n
  intro c_law_leaves0
  have c_law_leaves := c_law_leaves0 false
  refine cal_of T.d_law_leaves T.g_law_leaves sc_law_leaves (fun _ _ _ _ _ _ us hl => match us, hl with | [_], _ => rfl) (fun vs H Q E h => ?_) (fun cdv A outer s H vs Q E hr h => ?_)
  · obtain ⟨v, ss, rfl, hd, hnl, hdep, k⟩ := h
    rfl
  obtain ⟨v, ss, rfl, hd, hnl, hdep, k⟩ := h
  have sc := sc_law_leaves
  have hu := hu_of hr
  refine ⟨_, (pss_cons (ps_for PassesOwn.never rfl (pi_seq (pv 0)) (pgn 1 sc.nd)
        (pss_one (ps_if (PW.pt (pw_or (pt_cmpR op_eq (pe_ix ix_tup (pv 1) pe_int (fun _ _ => rfl)) pe_str (nomark _)) (pw_or1 (PW.pt (pw_and (pt_cmpR op_eq (pe_ix ix_tup (pv 1) pe_int (fun _ _ => rfl)) pe_str (nomark _)) (pw_and1 (PW.pt (pw_or (pt_val (pc c_law_leaves hr (by omega) (pa_cons (pe_ix ix_tup (pv 1) pe_int (fun _ _ => rfl)) pa_nil))) (pw_or1 (pt_val (pc c_law_leaves hr (by omega) (pa_cons (pe_ix ix_tup (pv 1) pe_int (fun _ _ => rfl)) pa_nil)))))))))))) (pss_one (ps_ret pe_bl)) pss_nil)))
      (pss_one (ps_ret pe_bl))), ?_⟩
  obtain ⟨a, xs, rfl, hseq, hxs⟩ := sqD_row hd
  have hlen : xs.length = ss.length := by rw [dpa_len hxs, encL_map, List.length_map]
  refine ⟨_, rfl, ?_⟩
  rcases hseq with h5 | h5
  all_goals
    first
    | refine ⟨a, rfl, .inl ⟨⟨xs, h5⟩, for_it walk_list (fun i σ H7 => ∃ (x1 : Option V), σ = [some (.ref a), x1] ∧ Same H H7) ⟨_, rfl, Same.refl H⟩ (fun i σ H7 _ ⟨_, _, s7⟩ => s7.seq h5) ?_ ?_⟩⟩
    | refine ⟨a, rfl, .inr ⟨⟨xs, h5⟩, for_it walk_tup (fun i σ H7 => ∃ (x1 : Option V), σ = [some (.ref a), x1] ∧ Same H H7) ⟨_, rfl, Same.refl H⟩ (fun i σ H7 _ ⟨_, _, s7⟩ => s7.tup h5) ?_ ?_⟩⟩
    · rintro i x σ H7 H8 hi ⟨x1, rfl, s7⟩ ⟨hKK, hx⟩
      subst H8
      rw [hlen] at hi
      have hmem : ss[i] ∈ ss := List.getElem_mem hi
      have hyd : Dp K H x (enc false ss[i]) := dpAll_at hxs hx (by rw [encL_map, List.getElem?_map, List.getElem?_eq_getElem hi]; rfl)
      have hnl1 := nLs_mem hnl hmem
      have hdep1 := deps_mem hdep hmem
      generalize hst : ss[i] = st at *
      by_cases hpl : st.word = "if"
      · obtain ⟨t, p, q, rfl⟩ : ∃ t u z, st = .ite t u z := by
          cases st with
          | ite t a b => exact ⟨_, _, _, rfl⟩
          | put x y => cases hpl
          | call x f ys => cases hpl
          | act x d ys => cases hpl
          | leave => cases hpl
        rw [enc] at hyd
        obtain ⟨ya, us, rfl, hya, hu⟩ := dp_tup hyd
        obtain ⟨u0, r0, rfl, h0, hr0⟩ := dpa_cons hu
        obtain ⟨u1, r1, rfl, h1, hr1⟩ := dpa_cons hr0
        obtain ⟨u2, r2, rfl, h2, hr2⟩ := dpa_cons hr1
        obtain ⟨u3, r3, rfl, h3, hr3⟩ := dpa_cons hr2
        cases hr3
        cases h0
        rw [nL_ite] at hnl1
        rw [dep_ite] at hdep1
        obtain ⟨n', rfl⟩ : ∃ n', n = n' + 1 := ⟨n - 1, by omega⟩
        refine ⟨_, rfl, _, _, _, _, rfl, rfl, s7.tup hya, atI_nat (j := 0) rfl, rfl, _, rfl, iteF ?_⟩
        refine ⟨_, rfl, _, _, _, _, rfl, rfl, s7.tup hya, atI_nat (j := 0) rfl, rfl, _, rfl, iteT ?_⟩
        refine ⟨_, rfl, _, _, _, _, rfl, rfl, s7.tup hya, atI_nat (j := 2) rfl, u2, p, rfl, h2.up s7, by omega, by omega, fun H9 s9 => ⟨_, rfl, iteF ?_⟩⟩
        have s79 := s7.trans s9
        refine ⟨_, rfl, _, _, _, _, rfl, rfl, s79.tup hya, atI_nat (j := 3) rfl, u3, q, rfl, h3.up s79, by omega, by omega, fun H10 s10 => ⟨_, rfl, iteF ?_⟩⟩
        exact ⟨_, rfl, s79.trans s10⟩
      · have hwl : st.word ≠ "leave" := by
          intro z
          cases st with
          | leave => simp [Stm.nL] at hnl1
          | put x y => cases z
          | call x f ys => cases z
          | act x d ys => cases z
          | ite t a b => cases z
        obtain ⟨rest, hw⟩ := enc_word false st
        rw [hw] at hyd
        obtain ⟨ya, ys, rfl, hya, hys⟩ := dp_tup hyd
        obtain ⟨yr, rfl, hyr⟩ := dpa_str hys
        refine ⟨_, rfl, _, _, _, _, rfl, rfl, s7.tup hya, atI_nat (j := 0) rfl, rfl, _, rfl, ?_⟩
        rw [decide_eq_false (fun z => hwl (V.str.inj z))]
        refine iteF ⟨_, rfl, _, _, _, _, rfl, rfl, s7.tup hya, atI_nat (j := 0) rfl, rfl, _, rfl, ?_⟩
        rw [decide_eq_false (fun z => hpl (V.str.inj z))]
        exact iteF (iteF ⟨_, rfl, s7⟩)
    · rintro σ H7 ⟨x1, rfl, s7⟩
      exact k _ s7
theorem ok_lvs (T : Txt K mg) (n : Nat) : ∀ c : Bool, Cal P w K mg base (n + 2) "_law_leaves" (spLvs K c n) := by
  induction n with
  | zero =>
    intro c
    refine ok_law_leaves T c 0 fun c => ?_
    exact cal_of T.d_law_leaves T.g_law_leaves sc_law_leaves (fun _ _ _ _ _ _ us hl => match us, hl with | [_], _ => rfl) (fun vs H Q E h => h.elim) (fun cdv A outer s H vs Q E hr h => h.elim)
  | succ n ih =>
    intro c
    exact ok_law_leaves T c (n + 1) fun c => ih c
theorem sc_law_made : FnScope ["_law_names_here", "_law_loop_here"] ["_law_names_here", "_law_loop_here"] (defScope s_law_made) := ⟨rfl, rfl, rfl, by decide +kernel, rfl, by decide +kernel, by decide +kernel⟩
theorem ok_law_made (T : Txt K mg) : Cal P w K mg base (49) "_law_made" (spMade K) := by
  refine cal_of T.d_law_made T.g_law_made sc_law_made (fun _ _ _ _ _ _ us hl => match us, hl with | [_, _], _ => rfl) (fun vs H Q E h => ?_) (fun cdv A outer s H vs Q E hr h => ?_)
  · obtain ⟨nm, d, L, Rg, rfl, hn, hL, hok, k⟩ := h
    rfl
  obtain ⟨nm, d, L, Rg, rfl, hn, hL, hok, k⟩ := h
  have c_Loop : Mak P w K mg base 47 "Loop" (He.ga K "Loop") (spLoopInit K true 20) := ok_Loop_init (b := true) T 20
  have sc := sc_law_made
  have hu := hu_of hr
  refine ⟨_, (pss_one (ps_ret (pmk c_Loop hr (by decide) (pa_cons (pv 0) (pa_cons (pe_dget hu (pv 1) pe_str (fun _ _ => rfl)) (pa_cons (pe_dget hu (pv 1) pe_str (fun _ _ => rfl)) (pa_cons (pe_dget hu (pv 1) pe_str (fun _ _ => rfl)) pa_nil))))))), ?_⟩
  obtain ⟨ls, lt, le, xs, xt, xe, hd, h1, h2, h3, d1, d2, d3⟩ := hL
  obtain ⟨p1, a1, a2, a3, a4, a5⟩ := hok.chk
  have u1 : SecOk L.start := secOk_of hok.ifs.1 hok.small.1 a3
  have u2 : SecOk L.turn := secOk_of hok.ifs.2.1 hok.small.2.1 a4
  have u3 : SecOk L.fin := secOk_of hok.ifs.2.2 hok.small.2.2 a5
  have lf : ∀ {ss : List Stm}, SecOk ss → deps ss ≤ 20 ∧ max ss.length (mxs ss) ≤ 1000 := fun {ss} u => ⟨Nat.le_trans (deps_nIs ss) (by have := u.i; omega), Nat.max_le.mpr ⟨Nat.le_trans (len_wts ss) (by have := u.w; omega), by have := u.m; omega⟩⟩
  refine ⟨_, rfl, _, rfl, d, _, rfl, .inl ⟨_, .inr "start", .inl hd, rfl, rfl⟩, _, rfl, d, _, rfl, .inl ⟨_, .inr "turn", .inl hd, rfl, rfl⟩, _, rfl, d, _, rfl, .inl ⟨_, .inr "end", .inl hd, rfl, rfl⟩, ?_⟩
  refine fun o dxo fo fdxo nxo => ?_
  have sM : Same H (hid o (upd (upd H dxo (.own o)) o (.ins (He.ga K "Loop") dxo []))) := by
    rw [hid_upd]
    exact hid_of fo (Same.new fdxo)
  refine ⟨o, nm, dxo, _, _, _, L, p1, a1, a2, rfl, upd_same, hn.up sM, .lst (sM.seq (SqL.of h1)) (d1.up sM), .lst (sM.seq (SqL.of h2)) (d2.up sM), .lst (sM.seq (SqL.of h3)) (d3.up sM), ⟨(lf u1).1, (lf u2).1, (lf u3).1⟩, hok.lst, ⟨(lf u1).2, (lf u2).2, (lf u3).2⟩, ⟨a3, a4, a5⟩, by omega, fun H' hs hL => ⟨rfl, k o H' (sM.trans (hs.trans hid_in)) (by rw [hok.regs] at hL; exact hL)⟩⟩
end
end K21
set_option Elab.async false
set_option linter.all false
set_option maxRecDepth 100000
set_option maxHeartbeats 1000000
namespace K21
open PySem PySem.Spec PyProof.Rows L2
theorem hu65 {k : Nat} {A : Around} (r : Room k A) : A.units + 65 < cLine := by have := r.un; omega
/-! ### running: stores, tables, deeds -/
def StoAt (H : Hp) (a : Addr) (σ : Sto) (B : Nat) : Prop := ∃ ks, H a = some (.dK ks) ∧ ks.length ≤ B ∧ ∀ x, valV ks (.inr x) = (σ x).map V.int
def KnAt (H : Hp) (a : Addr) (U : Tab) (it : Option Int) : Prop := ∃ kk, H a = some (.dK kk) ∧ kk.length ≤ 30 ∧ ∀ (x : Str) (v : Int), (if x = "item" then it else U.cst x) = some v → valV kk (.inr x) = some (.int v)
def encI (vs : List Int) : PyData := .tuple (vs.map PyData.int)
def encD (d : Deed) : PyData := .tuple [.str d.1, encI d.2]
def FnAt (H : Hp) (f : Addr) (U : Tab) : Prop := ∃ kf, H f = some (.dK kf) ∧ ∀ g vs r, U.fn g vs = some r → ∃ d kd, valV kf (.inr g) = some (.ref d) ∧ H d = some (.dT kd) ∧ valV kd (vs.map Sum.inl) = some (.int r)
def TsAt (K : PySem.W.Frag) (H : Hp) (t : Addr) (U : Tab) : Prop := ∃ kt, H t = some (.dK kt) ∧ ∀ p l, U.ts p = some l → ∃ v, valV kt (.inr p) = some v ∧ Dp K H v (.list (l.map encI))
def TabAt (K : PySem.W.Frag) (H : Hp) (tb : Addr) (U : Tab) : Prop := ∃ c f t kc, H tb = some (.dK [(.inr "constants", .ref c), (.inr "functions", .ref f), (.inr "tests", .ref t)]) ∧ (H c = some (.dK kc) ∧ kc.length ≤ 10 ∧ ∀ x, valV kc (.inr x) = (U.cst x).map V.int) ∧ FnAt H f U ∧ TsAt K H t U ∧ U.cst "item" = none
theorem StoAt.up {H H' : Hp} {a : Addr} {σ : Sto} {B : Nat} (h : StoAt H a σ B) (e : Same H H') : StoAt H' a σ B := by
  obtain ⟨ks, h1, h2, h3⟩ := h
  exact ⟨ks, e _ _ h1, h2, h3⟩
theorem KnAt.up {H H' : Hp} {a : Addr} {U : Tab} {it : Option Int} (h : KnAt H a U it) (e : Same H H') : KnAt H' a U it := by
  obtain ⟨ks, h1, h3⟩ := h
  exact ⟨ks, e _ _ h1, h3⟩
theorem KnAt.hid {H : Hp} {a D : Addr} {U : Tab} {it : Option Int} (h : KnAt H a U it) (n : a ≠ D) : KnAt (hid D H) a U it := by
  obtain ⟨ks, h1, h3⟩ := h
  exact ⟨ks, by rw [hid_ne n]; exact h1, h3⟩
theorem TabAt.up {K : PySem.W.Frag} {H H' : Hp} {a : Addr} {U : Tab} (h : TabAt K H a U) (e : Same H H') : TabAt K H' a U := by
  obtain ⟨c, f, t, kc, h1, ⟨h2, h2l, h3⟩, ⟨kf, h4, h5⟩, ⟨kt, h6, h7⟩, h8⟩ := h
  refine ⟨c, f, t, kc, e _ _ h1, ⟨e _ _ h2, h2l, h3⟩, ⟨kf, e _ _ h4, fun g vs r q => ?_⟩, ⟨kt, e _ _ h6, fun p l q => ?_⟩, h8⟩
  · obtain ⟨d, kd, a1, a2, a3⟩ := h5 g vs r q
    exact ⟨d, kd, a1, e _ _ a2, a3⟩
  · obtain ⟨v, a1, a2⟩ := h7 p l q
    exact ⟨v, a1, a2.up e⟩
theorem StoAt.put {H : Hp} {a : Addr} {σ : Sto} {B : Nat} {ks : List (Key × V)} {x : Str} {v : Int} (h2 : ks.length ≤ B) (h3 : ∀ x, valV ks (.inr x) = (σ x).map V.int) : StoAt (upd H a (.dK (putK ks (.inr x) (.int v)))) a (stSet σ x v) (B + 1) := by
  refine ⟨_, upd_same, Nat.le_trans (length_putK _ _ _) (by omega), fun y => ?_⟩
  rw [valV_put]
  unfold stSet
  by_cases e : y = x
  · rw [if_pos e, if_pos (by rw [e])]
    rfl
  · rw [if_neg e, if_neg (fun z => e (Sum.inr.inj z))]
    exact h3 y
theorem ev_cases {U : Tab} {it : Option Int} {σ : Sto} {x : Str} {v : Int} (h : ev U it σ x = some v) (hi : σ "item" = none) : σ x = some v ∨ (σ x = none ∧ (if x = "item" then it else U.cst x) = some v) := by
  unfold ev at h
  by_cases e : x = "item"
  · rw [if_pos e] at h ⊢
    exact .inr ⟨by rw [e]; exact hi, h⟩
  · rw [if_neg e] at h ⊢
    cases q : σ x with
    | none => rw [q] at h; exact .inr ⟨rfl, h⟩
    | some u => rw [q] at h; exact .inl h
theorem evs_len {U : Tab} {it : Option Int} {σ : Sto} : ∀ {ys : List Str} {vs : List Int}, evs U it σ ys = some vs → vs.length = ys.length ∧ ∀ i (h : i < ys.length), ∃ v, ev U it σ ys[i] = some v ∧ vs[i]? = some v
  | [], vs, h => by
    cases h
    exact ⟨rfl, fun i h => absurd h (Nat.not_lt_zero _)⟩
  | y :: r, vs, h => by
    rw [evs] at h
    obtain ⟨v, h1, h⟩ := Option.bind_eq_some_iff.mp h
    obtain ⟨ws, h2, h⟩ := Option.bind_eq_some_iff.mp h
    cases h
    obtain ⟨q1, q2⟩ := evs_len h2
    refine ⟨by rw [List.length_cons, List.length_cons, q1], fun i hi => ?_⟩
    cases i with
    | zero => exact ⟨v, h1, rfl⟩
    | succ i => exact q2 i (by simpa using hi)
theorem range_int (vs : List Int) {n : Nat} (h : vs.length = n) : (List.range n).map (fun i => V.int (vs.getD i 0)) = vs.map V.int := by
  subst h
  apply List.ext_getElem?
  intro j
  rw [List.getElem?_map, List.getElem?_map]
  by_cases h : j < vs.length
  · rw [List.getElem?_range h, List.getElem?_eq_getElem h]
    simp [h]
  · rw [List.getElem?_eq_none (by rw [List.length_range]; omega), List.getElem?_eq_none (by omega)]
    rfl
/-- what is asked of a statement so that it can be run -/
def tstWf : Tst → Bool
  | .same _ _ => true
  | .ask _ ys => decide (ys.length ≤ 2)
mutual
def Stm.wf : Stm → Bool
  | .put x _ => !decide (x = "item")
  | .call x _ ys => !decide (x = "item") && decide (ys.length ≤ 2)
  | .act x _ ys => !decide (x = some (Str.ofString "item")) && decide (ys.length ≤ 2)
  | .leave => true
  | .ite t a b => tstWf t && (wfs a && wfs b)
def wfs : List Stm → Bool
  | [] => true
  | s :: r => s.wf && wfs r
end
theorem wfs_cons (s : Stm) (r : List Stm) : wfs (s :: r) = (s.wf && wfs r) := by rw [wfs]
theorem wfs_app : ∀ a b : List Stm, wfs (a ++ b) = (wfs a && wfs b)
  | [], b => by rw [List.nil_append, wfs, Bool.true_and]
  | s :: r, b => by rw [List.cons_append, wfs_cons, wfs_app r b, wfs_cons, Bool.and_assoc]
def spThing (K : PySem.W.Frag) : Sp := fun vs H Q _ => ∃ (x : Str) (st kn : Addr) (U : Tab) (it : Option Int) (σ : Sto) (B : Nat) (v : Int), vs = [.str x, .ref st, .ref kn] ∧ StoAt H st σ B ∧ KnAt H kn U it ∧ σ "item" = none ∧ ev U it σ x = some v ∧ Q (.int v) H
def spSays (K : PySem.W.Frag) : Sp := fun vs H Q _ => ∃ (w : V) (st kn tb : Addr) (t : Tst) (U : Tab) (it : Option Int) (σ : Sto) (B : Nat) (b : Bool), vs = [w, .ref st, .ref kn, .ref tb] ∧ Dp K H w (encT t) ∧ StoAt H st σ B ∧ KnAt H kn U it ∧ TabAt K H tb U ∧ σ "item" = none ∧ tst U it σ t = some b ∧ tstWf t = true ∧ ∀ H', Same H H' → Q (.bl b) H'
section
variable {P : Program} {w : World} {K : PySem.W.Frag} {mg : Str → Option Value} {base : Heap}
theorem sc_law_thing : FnScope ["_law_source_here", "_law_store", "_law_known"] ["_law_source_here", "_law_store", "_law_known"] (defScope s_law_thing) := ⟨rfl, rfl, rfl, by decide +kernel, rfl, by decide +kernel, by decide +kernel⟩
theorem ok_law_thing (T : Txt K mg) : Cal P w K mg base (1) "_law_thing" (spThing K) := by
  refine cal_of T.d_law_thing T.g_law_thing sc_law_thing (fun _ _ _ _ _ _ us hl => match us, hl with | [_, _, _], _ => rfl) (fun vs H Q E h => ?_) (fun cdv A outer s H vs Q E hr h => ?_)
  · obtain ⟨x, st, kn, U, it, σ, B, v, rfl, ⟨ks, hs, hl, hσ⟩, ⟨kk, hk, _, hkk⟩, hi, hev, q⟩ := h
    rfl
  obtain ⟨x, st, kn, U, it, σ, B, v, rfl, ⟨ks, hs, hl, hσ⟩, ⟨kk, hk, _, hkk⟩, hi, hev, q⟩ := h
  have sc := sc_law_thing
  have hu := hu_of hr
  refine ⟨_, (pss_one (ps_ret (pe_ifExp (pt_cmp (pc_din hu (pv 0) (pv 1))) (pe_dget hu (pv 1) (pv 0) (fun _ _ => rfl)) (pe_dget hu (pv 2) (pv 0) (fun _ _ => rfl))))), ?_⟩
  refine ⟨_, rfl, _, rfl, st, _, rfl, DGet.k (k := .inr x) hs, _, rfl, ?_⟩
  rcases ev_cases hev hi with e | ⟨e, e2⟩
  · have z : valV ks (.inr x) = some (.int v) := by rw [hσ, e]; rfl
    rw [z]
    exact iteT ⟨_, rfl, _, rfl, st, _, rfl, .inl ⟨ks, .inr x, .inl hs, rfl, z.symm⟩, q⟩
  · have z : valV ks (.inr x) = none := by rw [hσ, e]; rfl
    have z2 : valV kk (.inr x) = some (.int v) := hkk x v e2
    rw [z]
    exact iteF ⟨_, rfl, _, rfl, kn, _, rfl, .inl ⟨kk, .inr x, .inl hk, rfl, z2.symm⟩, q⟩
theorem eqvAll_ints : ∀ as bs : List Int, PyData.eqvAll (as.map PyData.int) (bs.map PyData.int) = decide (as = bs)
  | [], [] => by simp [PyData.eqvAll]
  | [], b :: bs => by simp [PyData.eqvAll]
  | a :: as, [] => by simp [PyData.eqvAll]
  | a :: as, b :: bs => by
    rw [List.map_cons, List.map_cons, PyData.eqvAll, eqvAll_ints as bs, PyData.eqv]
    by_cases h : a = b
    · by_cases g : as = bs <;> simp [h, g]
    · simp [h]
theorem eqv_ints (as bs : List Int) : PyData.eqv (encI as) (encI bs) = decide (as = bs) := by
  unfold encI
  rw [PyData.eqv]
  exact eqvAll_ints as bs
theorem lay_ints : ∀ vs : List Int, PyData.canLayAll0 (vs.map PyData.int) = true ∧ PyData.depthAll (vs.map PyData.int) = 0
  | [] => by simp [PyData.canLayAll0, PyData.depthAll]
  | a :: as => by
    obtain ⟨h1, h2⟩ := lay_ints as
    rw [List.map_cons, PyData.canLayAll0, PyData.depthAll, h1, h2, PyData.canLay0, PyData.depth]
    exact ⟨rfl, rfl⟩
theorem lay_int (vs : List Int) : PyData.canLay0 (encI vs) = true ∧ PyData.depth (encI vs) = 1 := by
  obtain ⟨h1, h2⟩ := lay_ints vs
  unfold encI
  rw [PyData.canLay0, PyData.depth, h1, h2]
  exact ⟨rfl, rfl⟩
theorem lay_tups : ∀ l : List (List Int), PyData.canLayAll0 (l.map encI) = true ∧ PyData.depthAll (l.map encI) ≤ 1
  | [] => by simp [PyData.canLayAll0, PyData.depthAll]
  | a :: as => by
    obtain ⟨h1, h2⟩ := lay_tups as
    obtain ⟨h3, h4⟩ := lay_int a
    rw [List.map_cons, PyData.canLayAll0, PyData.depthAll, h1, h3, h4]
    exact ⟨rfl, by omega⟩
theorem shaped_int (vs : List Int) : SeqAt.shaped (encI vs) = true := by
  obtain ⟨h1, h2⟩ := lay_int vs
  unfold SeqAt.shaped
  rw [h1, h2]
  rfl
theorem shaped_ints (l : List (List Int)) : SeqAt.shaped (.list (l.map encI)) = true := by
  obtain ⟨h1, h2⟩ := lay_tups l
  unfold SeqAt.shaped
  rw [PyData.canLay0, PyData.depth, h1]
  exact decide_eq_true (by omega)
theorem any_ints (vs : List Int) : ∀ l : List (List Int), ((l.map encI).any fun z => PyData.eqv z (encI vs)) = l.contains vs
  | [] => rfl
  | a :: as => by
    rw [List.map_cons, List.any_cons, any_ints vs as, eqv_ints, List.contains_cons]
    by_cases h : a = vs
    · simp [h]
    · simp [h, Ne.symm h]
theorem sc_law_says : FnScope ["_law_test_here", "_law_store", "_law_known", "_law_tables_here", "_law_things", "_law_source_here"] ["_law_test_here", "_law_store", "_law_known", "_law_tables_here"] (defScope s_law_says) := ⟨rfl, rfl, rfl, by decide +kernel, rfl, by decide +kernel, by decide +kernel⟩
theorem ok_law_says (T : Txt K mg) : Cal P w K mg base (2) "_law_says" (spSays K) := by
  refine cal_of T.d_law_says T.g_law_says sc_law_says (fun _ _ _ _ _ _ us hl => match us, hl with | [_, _, _, _], _ => rfl) (fun vs H Q E h => ?_) (fun cdv A outer s H vs Q E hr h => ?_)
  · obtain ⟨v, st, kn, tb, t, U, it, σ, B, b, rfl, hv, hs, hk, ht, hi, hb, hwf, k⟩ := h
    rfl
  obtain ⟨v, st, kn, tb, t, U, it, σ, B, b, rfl, hv, hs, hk, ht, hi, hb, hwf, k⟩ := h
  have c_law_thing := ok_law_thing (P := P) (w := w) (base := base) T
  have sc := sc_law_says
  have hu := hu_of hr
  refine ⟨_, (pss_cons (pset 4 sc.nd (pbt call_tuple_of T.b_tuple v_tuple (pa_cons (pe_lc (own := [("_law_source_here", 5)]) (g := gName 5) (tt := tYes) rfl sc.nd (pi_tup (pe_slice sl_tupA (pv 0) (po_some (pe_ifExp (pt_cmpR op_eq (pe_ix ix_tup (pv 0) pe_int (fun _ _ => rfl)) pe_str (nomark _)) pe_int pe_int)) po_none)) (blkOk_by (N := ["_law_test_here", "_law_store", "_law_known", "_law_tables_here", "_law_things", "_law_source_here"]) (sc := defScope s_law_says) (by decide +kernel)) (fun _ _ _ _ _ => (pgn 5 sc.nd)) (fun _ _ _ _ _ => pts_nil) (fun _ _ _ _ _ => (pc c_law_thing hr (by decide) (pa_cons (pv 5) (pa_cons (pv 1) (pa_cons (pv 2) pa_nil)))))) pa_nil)))
      (pss_one (ps_ret (pe_ifExp (pt_cmpR op_eq (pe_ix ix_tup (pv 0) pe_int (fun _ _ => rfl)) pe_str (nomark _)) (pe_cmpR op_eq (pe_ix ix_tup (pv 4) pe_int (fun _ _ => rfl)) (pe_ix ix_tup (pv 4) pe_int (fun _ _ => rfl)) (nomark _)) (pe_cmpR (op_inD (hu65 hr)) (pv 4) (pe_dget hu (pe_dget hu (pv 3) pe_str (fun _ _ => rfl)) (pe_ix ix_tup (pv 0) pe_int (fun _ _ => rfl)) (fun _ _ => rfl)) (by rfl)))))), ?_⟩
  obtain ⟨c, f, tt, kc, hT1, _, _, ⟨kt, h6, h7⟩, _⟩ := id ht
  obtain ⟨w0, ys, h, vs, et, hwd, hle, hl2, hvs⟩ : ∃ (w0 : Str) (ys : List Str) (h : Nat) (vs : List Int), encT t = .tuple ((w0 :: ys).map PyData.str) ∧ ((w0 = "same" ∧ h = 1 ∧ ∃ a b', vs = [a, b'] ∧ b = decide (a = b')) ∨ (w0 ≠ "same" ∧ h = 2 ∧ ∃ p zs l, ys = p :: zs ∧ U.ts p = some l ∧ b = l.contains vs)) ∧ h ≤ (w0 :: ys).length ∧ ((w0 :: ys).drop h).length ≤ 2 ∧ evs U it σ ((w0 :: ys).drop h) = some vs := by
    cases t with
    | same y z =>
      rw [tst] at hb
      obtain ⟨a, e1, hb⟩ := Option.bind_eq_some_iff.mp hb
      obtain ⟨b', e2, hb⟩ := Option.bind_eq_some_iff.mp hb
      cases hb
      refine ⟨"same", [y, z], 1, [a, b'], rfl, .inl ⟨rfl, rfl, a, b', rfl, rfl⟩, by simp, by simp, ?_⟩
      show evs U it σ [y, z] = _
      rw [evs, e1, evs, e2, evs]
      rfl
    | ask p ys =>
      rw [tst] at hb
      obtain ⟨l, e1, hb⟩ := Option.bind_eq_some_iff.mp hb
      obtain ⟨vs, e2, hb⟩ := Option.bind_eq_some_iff.mp hb
      cases hb
      exact ⟨"ask", p :: ys, 2, vs, rfl, .inr ⟨by decide +kernel, rfl, p, ys, l, rfl, e1, rfl⟩, by simp, of_decide_eq_true hwf, e2⟩
  rw [et] at hv
  obtain ⟨ta, txs, rfl, hta, htxs⟩ := dp_tup hv
  cases dpAll_strs_inv htxs
  obtain ⟨vl, vat⟩ := evs_len hvs
  refine ⟨_, rfl, _, rfl, _, _, _, _, rfl, rfl, hta, atI_nat (j := 0) rfl, rfl, _, rfl, ?_⟩
  apply use_rest2 (fun r H1 => Same H H1 ∧ SqT K H1 r (((w0 :: ys).drop h).map V.str))
  · intro go
    rcases id hwd with ⟨e1, eh, _⟩ | ⟨e1, eh, _⟩
    · rw [decide_eq_true (congrArg V.str e1)]
      refine iteT ⟨_, rfl, ?_⟩
      unfold tNoPart
      refine slA_any hta fun r H1 s1 h1 => ?_
      rw [show cutV ((w0 :: ys).map V.str) (some 1) none = ((w0 :: ys).map V.str).drop 1 from cut_from _ 1 (by simp), ← List.map_drop] at h1
      exact go r H1 ⟨s1, by rw [eh]; exact h1⟩
    · rw [decide_eq_false (fun z => e1 (V.str.inj z))]
      refine iteF ⟨_, rfl, ?_⟩
      unfold tNoPart
      refine slA_any hta fun r H1 s1 h1 => ?_
      rw [show cutV ((w0 :: ys).map V.str) (some 2) none = ((w0 :: ys).map V.str).drop 2 from cut_from _ 2 (by rw [List.length_map]; omega), ← List.map_drop] at h1
      exact go r H1 ⟨s1, by rw [eh]; exact h1⟩
  rintro r H1 ⟨s1, h1⟩
  refine ⟨r, rfl, ⟨_, h1⟩, fun D hD => ?_⟩
  refine lc_map (walk_tup (xs := ((w0 :: ys).drop h).map V.str)) hD (by rw [List.length_map]; omega) (fun i => .int (vs.getD i 0)) (fun X e => e.tup h1) ?_ ?_
  · rintro i x H3 H4 hi' e3 ⟨rfl, hx⟩ R kR
    rw [List.length_map] at hi'
    obtain ⟨v, hv1, hv2⟩ := vat i hi'
    have hx' : x = .str (((w0 :: ys).drop h)[i]) := by
      rw [List.getElem?_map, List.getElem?_eq_getElem hi'] at hx
      exact (Option.some.inj hx).symm
    subst hx'
    have e13 := s1.trans e3
    refine ⟨rfl, _, rfl, _, rfl, _, rfl, _, st, kn, U, it, σ, B, v, rfl, hs.up e13, hk.up e13, hi, hv1, ?_⟩
    have q := kR _ (Same.refl _)
    rw [List.getD_eq_getElem?_getD, hv2] at q
    exact q
  intro H3 e3 hl3
  rw [List.length_map, range_int vs vl] at hl3
  have e23 := e3.trans hid_in
  refine ⟨D, _, rfl, .inl ⟨SqL.of hl3, fun p hp => ?_⟩⟩
  have s3 := s1.trans (e23.trans (Same.new (o := .tup (vs.map V.int)) hp))
  refine ⟨_, rfl, _, _, _, _, rfl, rfl, s3.tup hta, atI_nat (j := 0) rfl, rfl, _, rfl, ?_⟩
  rcases hwd with ⟨rfl, rfl, a, b', rfl, rfl⟩ | ⟨e1, rfl, p', zs, l, rfl, hl, rfl⟩
  · refine iteT ⟨_, rfl, _, _, _, _, rfl, rfl, SqT.of upd_same, atI_nat (j := 0) rfl, _, rfl, _, _, _, _, rfl, rfl, SqT.of upd_same, atI_nat (j := 1) rfl, rfl, ?_⟩
    have q := k _ s3
    rw [show decide (a = b') = decide (V.int a = V.int b') by by_cases z : a = b' <;> simp [z]] at q
    exact q
  · rw [decide_eq_false (fun z => e1 (V.str.inj z))]
    obtain ⟨vv, hvv, dvv⟩ := h7 p' l hl
    refine iteF ⟨_, rfl, _, rfl, tb, _, rfl, .inl ⟨_, .inr "tests", .inl (s3 _ _ hT1), rfl, rfl⟩, _, rfl, _, _, _, _, rfl, rfl, s3.tup hta, atI_nat (j := 1) rfl, tt, vv, rfl, .inl ⟨kt, .inr p', .inl (s3 _ _ h6), rfl, hvv.symm⟩, ?_⟩
    refine ⟨encI vs, l.map encI, .tup (SqT.of upd_same) (dpAll_ints _), dvv.up s3, shaped_int _, shaped_ints _, ?_⟩
    rw [any_ints]
    exact k _ s3
end
end K21
set_option Elab.async false
set_option linter.all false
set_option maxRecDepth 100000
set_option maxHeartbeats 1000000
namespace K21
open PySem PySem.Spec PyProof.Rows L2
def optVd : Option Str → V
  | none => .non
  | some z => .str z
theorem dp_optD {K : PySem.W.Frag} {H : Hp} {v : V} {x : Option Str} (h : Dp K H v (optD x)) : v = optVd x := by
  cases x with
  | none => cases h; rfl
  | some z => cases h; rfl
/-- what a statement's tuple holds -/
theorem stm_put {K : PySem.W.Frag} {H : Hp} {v : V} {b : Bool} {x y : Str} (h : Dp K H v (enc b (.put x y))) : ∃ p, v = .ref p ∧ SqT K H p [.str (.ofString "put"), .str x, .str y] := by
  rw [enc] at h
  obtain ⟨p, us, rfl, hp, hu⟩ := dp_tup h
  cases dpAll_strs_inv (xs := [.ofString "put", x, y]) hu
  exact ⟨p, rfl, hp⟩
theorem stm_call {K : PySem.W.Frag} {H : Hp} {v : V} {b : Bool} {x f : Str} {ys : List Str} (h : Dp K H v (enc b (.call x f ys))) : ∃ p, v = .ref p ∧ SqT K H p (.str (.ofString "call") :: .str x :: .str f :: ys.map V.str) := by
  rw [enc] at h
  obtain ⟨p, us, rfl, hp, hu⟩ := dp_tup h
  cases dpAll_strs_inv (xs := .ofString "call" :: x :: f :: ys) hu
  exact ⟨p, rfl, hp⟩
theorem stm_act {K : PySem.W.Frag} {H : Hp} {v : V} {b : Bool} {x : Option Str} {d : Str} {ys : List Str} (h : Dp K H v (enc b (.act x d ys))) : ∃ p, v = .ref p ∧ SqT K H p (.str (.ofString "do") :: optVd x :: .str d :: ys.map V.str) := by
  rw [enc] at h
  obtain ⟨p, us, rfl, hp, hu⟩ := dp_tup h
  obtain ⟨u0, r0, rfl, h0, hr0⟩ := dpa_cons hu
  obtain ⟨u1, r1, rfl, h1, hr1⟩ := dpa_cons hr0
  cases h0
  cases dp_optD h1
  cases dpAll_strs_inv (xs := d :: ys) hr1
  exact ⟨p, rfl, hp⟩
theorem stm_leave {K : PySem.W.Frag} {H : Hp} {v : V} {b : Bool} (h : Dp K H v (enc b .leave)) : ∃ p, v = .ref p ∧ SqT K H p [.str (.ofString "leave")] := by
  rw [enc] at h
  obtain ⟨p, us, rfl, hp, hu⟩ := dp_tup h
  cases dpAll_strs_inv (xs := [.ofString "leave"]) hu
  exact ⟨p, rfl, hp⟩
theorem stm_ite {K : PySem.W.Frag} {H : Hp} {v : V} {b : Bool} {t : Tst} {p q : List Stm} (h : Dp K H v (enc b (.ite t p q))) : ∃ a tv pv qv, v = .ref a ∧ SqT K H a [.str (.ofString "if"), tv, pv, qv] ∧ Dp K H tv (encT t) ∧ Dp K H pv (sqD b (encL b p)) ∧ Dp K H qv (sqD b (encL b q)) := by
  rw [enc] at h
  obtain ⟨a, us, rfl, ha, hu⟩ := dp_tup h
  obtain ⟨u0, r0, rfl, h0, hr0⟩ := dpa_cons hu
  obtain ⟨u1, r1, rfl, h1, hr1⟩ := dpa_cons hr0
  obtain ⟨u2, r2, rfl, h2, hr2⟩ := dpa_cons hr1
  obtain ⟨u3, r3, rfl, h3, hr3⟩ := dpa_cons hr2
  cases hr3
  cases h0
  exact ⟨a, u1, u2, u3, rfl, ha, h1, h2, h3⟩
theorem dpa_consr {K : PySem.W.Frag} {H : Hp} {vs : List V} {b : Bool} {s : Stm} {r : List Stm} (h : DpAll K H vs (encL b (s :: r))) : ∃ v ws, vs = v :: ws ∧ Dp K H v (enc b s) ∧ DpAll K H ws (encL b r) := by
  rw [encL_cons] at h
  exact dpa_cons h
def spPartL (K : PySem.W.Frag) : Sp := fun vs H Q _ => ∃ (sl st kn tb rs : Addr) (xs : List V) (ss : List Stm) (U : Tab) (it : Option Int) (σ : Sto) (B n : Nat) (res : List Int) (σ' : Sto) (ds' : List Deed) (l : Bool), vs = [.ref sl, .ref st, .ref kn, .ref tb, .ref rs] ∧
  hid st H sl = some (.lst xs) ∧ DpAll K (hid st H) xs (encL false ss) ∧ StoAt H st σ B ∧ KnAt (hid st H) kn U it ∧ TabAt K (hid st H) tb U ∧ hid st H rs = some (.lst (res.map V.int)) ∧ res.length ≤ 10 ∧ σ "item" = none ∧ wfs ss = true ∧ max ss.length (mxs ss) ≤ 1000 ∧ n ≤ 200 ∧ B ≤ 5000 ∧
  run U it res n ss σ [] = some (σ', ds', l) ∧ ∀ H' t ld ys, Same (hid st H) H' → StoAt H' st σ' (B + n) → σ' "item" = none → H' t = some (.tup [.ref ld, .bl l]) → H' ld = some (.lst ys) → H ld = none → ld ≠ st → DpAll K (tups H') ys (ds'.map encD) → Q (.ref t) H'
theorem flat_rep (k : Nat) : (List.replicate k [V.int 0]).flatten = List.replicate k (V.int 0) := by
  induction k with
  | zero => rfl
  | succ k ih => rw [List.replicate_succ, List.flatten_cons, ih]; rfl
theorem pad_get (res : List Int) (k i : Nat) (h : i < res.length + k) : (res.map V.int ++ (List.replicate k [V.int 0]).flatten)[i]? = some (.int (res.getD i 0)) := by
  rw [flat_rep]
  by_cases hi : i < res.length
  · rw [List.getElem?_append_left (by rw [List.length_map]; exact hi), List.getElem?_map, List.getD_eq_getElem?_getD, List.getElem?_eq_getElem hi]
    rfl
  · rw [List.getElem?_append_right (by rw [List.length_map]; omega), List.length_map, List.getElem?_replicate, if_pos (by omega), List.getD_eq_getElem?_getD, List.getElem?_eq_none (by omega)]
    rfl
theorem run_actX {U : Tab} {it : Option Int} {res : List Int} {n : Nat} {x : Option Str} {d : Str} {ys : List Str} {r : List Stm} {st : Sto} {ds : List Deed} : run U it res (n + 1) (.act x d ys :: r) st ds = (evs U it st ys).bind fun vs => run U it res n r (match x with | none => st | some x => stSet st x (res.getD ds.length 0)) (ds ++ [(d, vs)]) := by
  cases x <;> rw [run]
theorem StoAt.le {H : Hp} {a : Addr} {σ : Sto} {B C : Nat} (h : StoAt H a σ B) (hl : B ≤ C) : StoAt H a σ C := by
  obtain ⟨ks, h1, h2, h3⟩ := h
  exact ⟨ks, h1, Nat.le_trans h2 hl, h3⟩
section
variable {P : Program} {w : World} {K : PySem.W.Frag} {mg : Str → Option Value} {base : Heap}
theorem sc_law_played_part : FnScope ["_law_statements", "_law_store", "_law_known", "_law_tables_here", "_law_results", "_law_todo", "_law_done", "_law_statement_here", "_law_things", "_law_source_here"] ["_law_statements", "_law_store", "_law_known", "_law_tables_here", "_law_results"] (defScope s_law_played_part) := ⟨rfl, rfl, rfl, by decide +kernel, rfl, by decide +kernel, by decide +kernel⟩
theorem ok_law_played_part (T : Txt K mg) : Cal P w K mg base (3) "_law_played_part" (spPartL K) := by
  refine cal_of T.d_law_played_part T.g_law_played_part sc_law_played_part (fun _ _ _ _ _ _ us hl => match us, hl with | [_, _, _, _, _], _ => rfl) (fun vs H Q E h => ?_) (fun cdv A outer s H vs Q E hr h => ?_)
  · obtain ⟨sl, st, kn, tb, rs, xs, ss, U, it, σ, B, n, res, σ', ds', l, rfl, hsl, hxs, hst, hkn, htb, hrs, hres, hi, hwf, hmx, hn, hB, hrun, k⟩ := h
    rfl
  obtain ⟨sl, st, kn, tb, rs, xs, ss, U, it, σ, B, n, res, σ', ds', l, rfl, hsl, hxs, hst, hkn, htb, hrs, hres, hi, hwf, hmx, hn, hB, hrun, k⟩ := h
  have c_law_thing := ok_law_thing (P := P) (w := w) (base := base) T
  have c_law_says := ok_law_says (P := P) (w := w) (base := base) T
  have sc := sc_law_played_part
  have hu := hu_of hr
  refine ⟨_, (pss_cons (ps_par (i := 5) (j := 6) rfl sc.nd rfl rfl (by decide) rfl rfl (pa_cons (pbt call_list_of T.b_list v_list (pa_cons (pv 0) pa_nil)) (pa_cons (pe_lst pa_nil) pa_nil)) rfl)
      (pss_cons (ps_while PassesOwn.never (pt_cmpR (op_neNil hr.units0) (pv 5) (pe_lst pa_nil) (nomark _)) (pss_cons (pset 7 sc.nd (pe_bm PySem.F.plainAttrs_list PySem.F.slot_list_pop PySem.F.type_list_pop mt_popAt (pv 5) (pa_cons pe_int pa_nil)))
        (pss_one (ps_if (pt_cmpR op_eq (pe_ix ix_tup (pv 7) pe_int (fun _ _ => rfl)) pe_str (nomark _)) (pss_one (pset 5 sc.nd (pe_op op_cat (pbt call_list_of T.b_list v_list (pa_cons (pe_ix ix_tup (pv 7) (pe_ifExp (pt_val (pc c_law_says hr (by decide) (pa_cons (pe_ix ix_tup (pv 7) pe_int (fun _ _ => rfl)) (pa_cons (pv 1) (pa_cons (pv 2) (pa_cons (pv 3) pa_nil)))))) pe_int pe_int) (fun _ _ => rfl)) pa_nil)) (pv 5)))) (pss_one (ps_if (pt_cmpR op_eq (pe_ix ix_tup (pv 7) pe_int (fun _ _ => rfl)) pe_str (nomark _)) (pss_one (ps_dput hu (pv 1) (pe_ix ix_tup (pv 7) pe_int (fun _ _ => rfl)) (pc c_law_thing hr (by decide) (pa_cons (pe_ix ix_tup (pv 7) pe_int (fun _ _ => rfl)) (pa_cons (pv 1) (pa_cons (pv 2) pa_nil)))) rfl)) (pss_one (ps_if (pt_cmpR op_eq (pe_ix ix_tup (pv 7) pe_int (fun _ _ => rfl)) pe_str (nomark _)) (pss_cons (pset 8 sc.nd (pbt call_tuple_of T.b_tuple v_tuple (pa_cons (pe_lc (own := [("_law_source_here", 9)]) (g := gName 9) (tt := tYes) rfl sc.nd (pi_tup (pe_slice sl_tupA (pv 7) (po_some pe_int) po_none)) (blkOk_by (N := ["_law_statements", "_law_store", "_law_known", "_law_tables_here", "_law_results", "_law_todo", "_law_done", "_law_statement_here", "_law_things", "_law_source_here"]) (sc := defScope s_law_played_part) (by decide +kernel)) (fun _ _ _ _ _ => (pgn 9 sc.nd)) (fun _ _ _ _ _ => pts_nil) (fun _ _ _ _ _ => (pc c_law_thing hr (by decide) (pa_cons (pv 9) (pa_cons (pv 1) (pa_cons (pv 2) pa_nil)))))) pa_nil)))
              (pss_one (ps_dput hu (pv 1) (pe_ix ix_tup (pv 7) pe_int (fun _ _ => rfl)) (pe_dget hu (pe_dget hu (pe_dget hu (pv 3) pe_str (fun _ _ => rfl)) (pe_ix ix_tup (pv 7) pe_int (fun _ _ => rfl)) (fun _ _ => rfl)) (pv 8) (fun _ _ => rfl)) rfl))) (pss_one (ps_if (pt_cmpR op_eq (pe_ix ix_tup (pv 7) pe_int (fun _ _ => rfl)) pe_str (nomark _)) (pss_cons (ps_expr (pe_bm PySem.F.plainAttrs_list PySem.F.slot_list_append PySem.F.type_list_append mt_append (pv 6) (pa_cons (pe_tup (pa_cons (pe_ix ix_tup (pv 7) pe_int (fun _ _ => rfl)) (pa_cons (pbt call_tuple_of T.b_tuple v_tuple (pa_cons (pe_lc (own := [("_law_source_here", 9)]) (g := gName 9) (tt := tYes) rfl sc.nd (pi_tup (pe_slice sl_tupA (pv 7) (po_some pe_int) po_none)) (blkOk_by (N := ["_law_statements", "_law_store", "_law_known", "_law_tables_here", "_law_results", "_law_todo", "_law_done", "_law_statement_here", "_law_things", "_law_source_here"]) (sc := defScope s_law_played_part) (by decide +kernel)) (fun _ _ _ _ _ => (pgn 9 sc.nd)) (fun _ _ _ _ _ => pts_nil) (fun _ _ _ _ _ => (pc c_law_thing hr (by decide) (pa_cons (pv 9) (pa_cons (pv 1) (pa_cons (pv 2) pa_nil)))))) pa_nil)) pa_nil))) pa_nil)))
                (pss_one (ps_if (pt_cmpR op_notN (pe_ix ix_tup (pv 7) pe_int (fun _ _ => rfl)) pe_non (nomark _)) (pss_one (ps_dput hu (pv 1) (pe_ix ix_tup (pv 7) pe_int (fun _ _ => rfl)) (pe_ix ix_list (pe_op op_cat (pv 4) (pe_op op_rep (pe_lst (pa_cons pe_int pa_nil)) (pb call_len T.b_len v_len (pa_cons (pv 6) pa_nil)))) (pe_op op_sub (pb call_len T.b_len v_len (pa_cons (pv 6) pa_nil)) pe_int) (fun _ _ => rfl)) rfl)) pss_nil))) (pss_one (ps_ret (pe_tup (pa_cons (pv 6) (pa_cons pe_bl pa_nil)))))))))))))))
      (pss_one (ps_ret (pe_tup (pa_cons (pv 6) (pa_cons pe_bl pa_nil))))))), ?_⟩
  generalize hG : hid st H = G at *
  have hGH : Same G H := by rw [← hG]; exact hid_in
  have Gst : G st = none := by rw [← hG]; exact hid_at
  refine ⟨_, rfl, sl, _, rfl, .inl (SqL.of (hGH _ _ hsl)), fun td htd => ⟨(by show 0 ≤ sizeLine; decide), fun dn hdn => ?_⟩⟩
  have e1 := Same.new (o := .lst xs) htd
  have e2 := Same.new (o := .lst []) hdn
  have hdnH : H dn = none := e1.free hdn
  have Gdn : G dn = none := (hGH.trans e1).free hdn
  have Gtd : G td = none := hGH.free htd
  obtain ⟨ks0, hks0, _⟩ := id hst
  have ndn : dn ≠ st := nh hks0 hdnH
  have ntd : td ≠ dn := ne_of_none upd_same hdn
  have sl1 := sizeLine
  refine ⟨_, _, rfl, ?_⟩
  refine ⟨fun j σs H7 => ∃ (td : Addr) (x7 x8 : Option V) (xs7 : List V) (ss7 : List Stm) (σ7 : Sto) (ds7 : List Deed) (ys7 : List V), σs = [some (.ref sl), some (.ref st), some (.ref kn), some (.ref tb), some (.ref rs), some (.ref td), some (.ref dn), x7, x8, none] ∧ Same G H7 ∧ G td = none ∧ td ≠ dn ∧ H7 td = some (.lst xs7) ∧ xs7.length ≤ 1000 * (n + 1 - j) ∧
    DpAll K G xs7 (encL false ss7) ∧ wfs ss7 = true ∧ mxs ss7 ≤ 1000 ∧ StoAt H7 st σ7 (B + (n - j)) ∧ σ7 "item" = none ∧ H7 dn = some (.lst ys7) ∧ DpAll K (tups H7) ys7 (ds7.map encD) ∧ ds7.length + j ≤ n ∧ run U it res j ss7 σ7 ds7 = some (σ', ds', l), ⟨n, ?_⟩, ?_⟩
  · exact ⟨td, none, none, xs, ss, σ, [], [], rfl, hGH.trans (e1.trans e2), Gtd, ntd, e2 _ _ upd_same, by rw [dpa_len hxs, encL_map, List.length_map]; omega, hxs, hwf, by omega, (hst.up (e1.trans e2)).le (by omega), hi, upd_same, .nil, by simp, hrun⟩
  · rintro j σs H7 ⟨td, x7, x8, xs7, ss7, σ7, ds7, ys7, rfl, s7, gtd, ntd, l7, n7, d7, wf7, mx7, st7, i7, dn7, dd7, len7, run7⟩
    refine ⟨_, rfl, (by show 0 ≤ sizeLine; decide), fun q hq => ⟨td, q, xs7, rfl, rfl, SqL.of ((Same.new hq) _ _ l7), SqL.of upd_same, _, rfl, ?_⟩⟩
    have u8 := Same.new (o := .lst []) hq
    replace s7 := s7.trans u8
    replace l7 := u8 _ _ l7
    replace st7 := st7.up u8
    replace dn7 := u8 _ _ dn7
    replace dd7 := dd7.up u8.t.tups
    generalize upd H7 q (.lst []) = H8 at *
    have ylen : ys7.length = ds7.length := by rw [dpa_len dd7, List.length_map]
    cases j with
    | zero => rw [run] at run7; cases run7
    | succ j =>
      cases ss7 with
      | nil =>
        rw [run] at run7
        cases run7
        cases d7
        refine iteF ⟨_, rfl, (by show 2 ≤ sizeLine; decide), fun t ht => ?_⟩
        have u9 := Same.new (o := .tup [.ref dn, .bl false]) ht
        exact k _ t dn ys7 (s7.trans u9) ((st7.up u9).le (by omega)) i7 upd_same (u9 _ _ dn7) hdnH ndn (dd7.up u9.t.tups)
      | cons s r =>
        obtain ⟨v, xr, rfl, dv, dr⟩ := dpa_consr d7
        rw [wfs_cons] at wf7
        obtain ⟨wfs1, wfr⟩ := Bool.and_eq_true_iff.mp wf7
        rw [mxs_cons] at mx7
        refine iteT ⟨_, fun σ' H' h => h, ?_⟩
        refine ⟨_, rfl, .inl ⟨rfl, _, SqL.of l7⟩, td, _, 0, 0, _, rfl, rfl, l7, by decide, by decide, seq0 _, rfl, ?_⟩
        have ntds : td ≠ st := fun z => by
          obtain ⟨ks, hks, _⟩ := st7
          rw [z, hks] at l7
          cases l7
        have s9 : Same G (upd H8 td (.lst ((v :: xr).eraseIdx 0))) := s7.mut gtd
        have l9 : upd H8 td (.lst ((v :: xr).eraseIdx 0)) td = some (.lst xr) := upd_same
        have st9 : StoAt (upd H8 td (.lst ((v :: xr).eraseIdx 0))) st σ7 (B + (n - (j + 1))) := by
          obtain ⟨ks, hks, r⟩ := st7
          exact ⟨ks, (upd_ne (Ne.symm ntds)).trans hks, r⟩
        have dn9 : upd H8 td (.lst ((v :: xr).eraseIdx 0)) dn = some (.lst ys7) := (upd_ne (Ne.symm ntd)).trans dn7
        have dd9 : DpAll K (tups (upd H8 td (.lst ((v :: xr).eraseIdx 0)))) ys7 (ds7.map encD) := dd7.up (((TSame.refl H8).mut (fun zs z => by rw [l7] at z; cases z)).tups)
        have n9 : xr.length ≤ 1000 * (n + 1 - (j + 1)) := by simp only [List.length_cons] at n7; omega
        generalize upd H8 td (.lst ((v :: xr).eraseIdx 0)) = H9 at *
        cases s with
        | leave =>
          obtain ⟨p, rfl, hp⟩ := stm_leave dv
          replace hp := s9.tup hp
          rw [run] at run7
          cases run7
          refine ⟨_, rfl, _, _, _, _, rfl, rfl, hp, atI_nat (j := 0) rfl, rfl, _, rfl, iteF ?_⟩
          refine ⟨_, rfl, _, _, _, _, rfl, rfl, hp, atI_nat (j := 0) rfl, rfl, _, rfl, iteF ?_⟩
          refine ⟨_, rfl, _, _, _, _, rfl, rfl, hp, atI_nat (j := 0) rfl, rfl, _, rfl, iteF ?_⟩
          refine ⟨_, rfl, _, _, _, _, rfl, rfl, hp, atI_nat (j := 0) rfl, rfl, _, rfl, iteF ?_⟩
          refine ⟨_, rfl, (by show 2 ≤ sizeLine; decide), fun t ht => ?_⟩
          have u9 := Same.new (o := .tup [.ref dn, .bl true]) ht
          exact k _ t dn ys7 (s9.trans u9) ((st9.up u9).le (by omega)) i7 upd_same (u9 _ _ dn9) hdnH ndn (dd9.up u9.t.tups)
        | ite t a b =>
          obtain ⟨p, tv, av, bv, rfl, hp, htv, hav, hbv⟩ := stm_ite dv
          rw [run] at run7
          obtain ⟨c, hc, run7⟩ := Option.bind_eq_some_iff.mp run7
          rw [Stm.wf] at wfs1
          obtain ⟨wft, wfab⟩ := Bool.and_eq_true_iff.mp wfs1
          obtain ⟨wfa, wfb⟩ := Bool.and_eq_true_iff.mp wfab
          rw [mx_ite] at mx7
          refine ⟨_, rfl, _, _, _, _, rfl, rfl, s9.tup hp, atI_nat (j := 0) rfl, rfl, _, rfl, iteT ?_⟩
          refine ⟨_, rfl, _, rfl, _, _, _, _, rfl, rfl, s9.tup hp, atI_nat (j := 1) rfl, _, rfl, _, rfl, _, rfl, tv, st, kn, tb, t, U, it, σ7, _, c, rfl, htv.up s9, st9, hkn.up s9, htb.up s9, i7, hc, wft, fun H10 s10 => ⟨c, rfl, ?_⟩⟩
          have S10 := s9.trans s10
          have st10 := st9.up s10
          have dn10 := s10 _ _ dn9
          have dd10 := dd9.up s10.t.tups
          have l10 := s10 _ _ l9
          cases c with
          | true =>
            obtain ⟨pa, as, rfl, hpa, has⟩ := dp_tup hav
            have hla : as.length = a.length := by rw [dpa_len has, encL_map, List.length_map]
            refine iteT ⟨_, _, _, _, rfl, rfl, S10.tup hp, atI_nat (j := 2) rfl, pa, _, rfl, .inr (S10.tup hpa), fun la hla' => ⟨_, rfl, la, td, _, _, rfl, rfl, upd_same, (Same.new hla') _ _ l10, Nat.le_trans (by show as.length + xr.length ≤ 1000 * 202; omega) (by decide), fun t2 ht2 => ?_⟩⟩
            have u12 := (Same.new (o := .lst as) hla').trans (Same.new (o := .lst (as ++ xr)) ht2)
            have G2 : G t2 = none := (S10.trans (Same.new (o := .lst as) hla')).free ht2
            have n2 : t2 ≠ dn := nh ((Same.new (o := .lst as) hla') _ _ dn10) ht2
            refine ⟨j, Nat.lt_succ_self _, t2, _, _, as ++ xr, a ++ r, σ7, ds7, ys7, rfl, S10.trans u12, G2, n2, upd_same, by rw [List.length_append]; omega, ?_, by rw [wfs_app, wfa, wfr]; rfl, by rw [mxs_app]; omega, (st10.up u12).le (by omega), i7, u12 _ _ dn10, dd10.up u12.t.tups, by omega, run7⟩
            rw [encL_map, List.map_append, ← encL_map, ← encL_map]
            exact dpa_app has dr
          | false =>
            obtain ⟨pa, as, rfl, hpa, has⟩ := dp_tup hbv
            have hla : as.length = b.length := by rw [dpa_len has, encL_map, List.length_map]
            refine iteF ⟨_, _, _, _, rfl, rfl, S10.tup hp, atI_nat (j := 3) rfl, pa, _, rfl, .inr (S10.tup hpa), fun la hla' => ⟨_, rfl, la, td, _, _, rfl, rfl, upd_same, (Same.new hla') _ _ l10, Nat.le_trans (by show as.length + xr.length ≤ 1000 * 202; omega) (by decide), fun t2 ht2 => ?_⟩⟩
            have u12 := (Same.new (o := .lst as) hla').trans (Same.new (o := .lst (as ++ xr)) ht2)
            have G2 : G t2 = none := (S10.trans (Same.new (o := .lst as) hla')).free ht2
            have n2 : t2 ≠ dn := nh ((Same.new (o := .lst as) hla') _ _ dn10) ht2
            refine ⟨j, Nat.lt_succ_self _, t2, _, _, as ++ xr, b ++ r, σ7, ds7, ys7, rfl, S10.trans u12, G2, n2, upd_same, by rw [List.length_append]; omega, ?_, by rw [wfs_app, wfb, wfr]; rfl, by rw [mxs_app]; omega, (st10.up u12).le (by omega), i7, u12 _ _ dn10, dd10.up u12.t.tups, by omega, run7⟩
            rw [encL_map, List.map_append, ← encL_map, ← encL_map]
            exact dpa_app has dr
        | put x y =>
          obtain ⟨p, rfl, hp⟩ := stm_put dv
          rw [run] at run7
          obtain ⟨v, hv, run7⟩ := Option.bind_eq_some_iff.mp run7
          rw [Stm.wf] at wfs1
          have hxi : x ≠ "item" := by simpa using wfs1
          refine ⟨_, rfl, _, _, _, _, rfl, rfl, s9.tup hp, atI_nat (j := 0) rfl, rfl, _, rfl, iteF ?_⟩
          refine ⟨_, rfl, _, _, _, _, rfl, rfl, s9.tup hp, atI_nat (j := 0) rfl, rfl, _, rfl, iteT ?_⟩
          obtain ⟨ks, hks, hkl, hkσ⟩ := id st9
          refine ⟨_, rfl, _, _, _, _, rfl, rfl, s9.tup hp, atI_nat (j := 2) rfl, _, rfl, _, rfl, y, st, kn, U, it, σ7, _, v, rfl, st9, hkn.up s9, i7, hv, ?_⟩
          refine ⟨_, rfl, _, rfl, _, _, _, _, rfl, rfl, s9.tup hp, atI_nat (j := 1) rfl, st, _, rfl, DPut.k (k := .inr x) hks (Nat.lt_of_le_of_lt hkl (Nat.lt_of_le_of_lt (by omega : _ ≤ 6000) (by decide))), ?_⟩
          refine ⟨j, Nat.lt_succ_self _, td, _, _, xr, r, stSet σ7 x v, ds7, ys7, rfl, s9.mut Gst, gtd, ntd, (upd_ne ntds).trans l9, by omega, dr, wfr, by omega, (StoAt.put hkl hkσ).le (by omega), ?_, (upd_ne ndn).trans dn9, dd9.up (((TSame.refl H9).mut (fun zs z => by rw [hks] at z; cases z)).tups), by omega, run7⟩
          unfold stSet
          rw [if_neg (Ne.symm hxi)]
          exact i7
        | call x f ys =>
          obtain ⟨p, rfl, hp⟩ := stm_call dv
          rw [run] at run7
          obtain ⟨vs, hvs, run7⟩ := Option.bind_eq_some_iff.mp run7
          obtain ⟨rv, hrv, run7⟩ := Option.bind_eq_some_iff.mp run7
          rw [Stm.wf] at wfs1
          obtain ⟨wx, wy⟩ := Bool.and_eq_true_iff.mp wfs1
          have hxi : x ≠ "item" := by simpa using wx
          have hyl := of_decide_eq_true wy
          obtain ⟨vl, vat⟩ := evs_len hvs
          have hp9 := s9.tup hp
          refine ⟨_, rfl, _, _, _, _, rfl, rfl, s9.tup hp, atI_nat (j := 0) rfl, rfl, _, rfl, iteF ?_⟩
          refine ⟨_, rfl, _, _, _, _, rfl, rfl, s9.tup hp, atI_nat (j := 0) rfl, rfl, _, rfl, iteF ?_⟩
          refine ⟨_, rfl, _, _, _, _, rfl, rfl, s9.tup hp, atI_nat (j := 0) rfl, rfl, _, rfl, iteT ?_⟩
          refine ⟨_, rfl, _, rfl, ?_⟩
          unfold tNoPart
          refine slA_any hp9 fun r1 H10 s10 h10 => ?_
          rw [show cutV (.str (.ofString "call") :: .str x :: .str f :: ys.map V.str) (some 3) none = (.str (.ofString "call") :: .str x :: .str f :: ys.map V.str).drop 3 from cut_from _ 3 (by simp)] at h10
          replace h10 : SqT K H10 r1 (ys.map V.str) := h10
          refine ⟨r1, rfl, ⟨_, h10⟩, fun D hD => ?_⟩
          refine lc_map (walk_tup (xs := ys.map V.str)) hD (by rw [List.length_map]; omega) (fun i => .int (vs.getD i 0)) (fun X e => e.tup h10) ?_ ?_
          · rintro i x' H3 H4 hi' e3 ⟨rfl, hx⟩ R kR
            rw [List.length_map] at hi'
            obtain ⟨v, hv1, hv2⟩ := vat i hi'
            have hx' : x' = .str ys[i] := by
              rw [List.getElem?_map, List.getElem?_eq_getElem hi'] at hx
              exact (Option.some.inj hx).symm
            subst hx'
            have e13 := s10.trans e3
            refine ⟨rfl, _, rfl, _, rfl, _, rfl, _, st, kn, U, it, σ7, _, v, rfl, st9.up e13, hkn.up (s9.trans e13), i7, hv1, ?_⟩
            have q := kR _ (Same.refl _)
            rw [List.getD_eq_getElem?_getD, hv2] at q
            exact q
          intro H11 e11 hl11
          rw [List.length_map, range_int vs vl] at hl11
          have e10 := s10.trans (e11.trans hid_in)
          refine ⟨D, _, rfl, .inl ⟨SqL.of hl11, fun pv hpv => ?_⟩⟩
          have e12 := e10.trans (Same.new (o := .tup (vs.map V.int)) hpv)
          have pv12 : upd H11 pv (.tup (vs.map V.int)) pv = some (.tup (vs.map V.int)) := upd_same
          generalize upd H11 pv (.tup (vs.map V.int)) = H12 at *
          have S12 := s9.trans e12
          obtain ⟨cA, fA, tA, kcA, tb1, _, ⟨kf, hf1, hf2⟩, _, _⟩ := id (htb.up S12)
          obtain ⟨dA, kd, q1, q2, q3⟩ := hf2 f vs rv hrv
          obtain ⟨ks, hks, hkl, hkσ⟩ := id (st9.up e12)
          have hp12 := e12.tup hp9
          refine ⟨_, rfl, tb, _, rfl, .inl ⟨_, .inr "functions", .inl tb1, rfl, rfl⟩, _, rfl, _, _, _, _, rfl, rfl, hp12, atI_nat (j := 2) rfl, fA, _, rfl, .inl ⟨kf, .inr f, .inl hf1, rfl, q1.symm⟩, _, rfl, dA, _, rfl, .inr ⟨kd, vs.map Sum.inl, pv, .inl q2, rfl, by rw [List.map_map]; exact pv12, q3.symm⟩, ?_⟩
          refine ⟨_, rfl, _, rfl, _, _, _, _, rfl, rfl, hp12, atI_nat (j := 1) rfl, st, _, rfl, DPut.k (k := .inr x) hks (Nat.lt_of_le_of_lt hkl (Nat.lt_of_le_of_lt (by omega : _ ≤ 6000) (by decide))), ?_⟩
          have dd12 := dd9.up e12.t.tups
          refine ⟨j, Nat.lt_succ_self _, td, _, _, xr, r, stSet σ7 x rv, ds7, ys7, rfl, S12.mut Gst, gtd, ntd, (upd_ne ntds).trans (e12 _ _ l9), by omega, dr, wfr, by omega, (StoAt.put hkl hkσ).le (by omega), ?_, (upd_ne ndn).trans (e12 _ _ dn9), dd12.up (((TSame.refl H12).mut (fun zs z => by rw [hks] at z; cases z)).tups), by omega, run7⟩
          unfold stSet
          rw [if_neg (Ne.symm hxi)]
          exact i7
        | act x d ys =>
          obtain ⟨p, rfl, hp⟩ := stm_act dv
          rw [run_actX] at run7
          obtain ⟨vs, hvs, run7⟩ := Option.bind_eq_some_iff.mp run7
          rw [Stm.wf] at wfs1
          obtain ⟨wx, wy⟩ := Bool.and_eq_true_iff.mp wfs1
          have hxi : x ≠ some (Str.ofString "item") := by simpa using wx
          have hyl := of_decide_eq_true wy
          obtain ⟨vl, vat⟩ := evs_len hvs
          have hp9 := s9.tup hp
          refine ⟨_, rfl, _, _, _, _, rfl, rfl, s9.tup hp, atI_nat (j := 0) rfl, rfl, _, rfl, iteF ?_⟩
          refine ⟨_, rfl, _, _, _, _, rfl, rfl, s9.tup hp, atI_nat (j := 0) rfl, rfl, _, rfl, iteF ?_⟩
          refine ⟨_, rfl, _, _, _, _, rfl, rfl, s9.tup hp, atI_nat (j := 0) rfl, rfl, _, rfl, iteF ?_⟩
          refine ⟨_, rfl, _, _, _, _, rfl, rfl, s9.tup hp, atI_nat (j := 0) rfl, rfl, _, rfl, iteT ?_⟩
          refine ⟨_, rfl, .inl ⟨rfl, _, SqL.of dn9⟩, _, rfl, _, _, _, _, rfl, rfl, hp9, atI_nat (j := 2) rfl, _, rfl, _, rfl, ?_⟩
          unfold tNoPart
          refine slA_any hp9 fun r1 H10 s10 h10 => ?_
          rw [show cutV (.str (.ofString "do") :: optVd x :: .str d :: ys.map V.str) (some 3) none = (.str (.ofString "do") :: optVd x :: .str d :: ys.map V.str).drop 3 from cut_from _ 3 (by simp)] at h10
          replace h10 : SqT K H10 r1 (ys.map V.str) := h10
          refine ⟨r1, rfl, ⟨_, h10⟩, fun D hD => ?_⟩
          refine lc_map (walk_tup (xs := ys.map V.str)) hD (by rw [List.length_map]; omega) (fun i => .int (vs.getD i 0)) (fun X e => e.tup h10) ?_ ?_
          · rintro i x' H3 H4 hi' e3 ⟨rfl, hx⟩ R kR
            rw [List.length_map] at hi'
            obtain ⟨v, hv1, hv2⟩ := vat i hi'
            have hx' : x' = .str ys[i] := by
              rw [List.getElem?_map, List.getElem?_eq_getElem hi'] at hx
              exact (Option.some.inj hx).symm
            subst hx'
            have e13 := s10.trans e3
            refine ⟨rfl, _, rfl, _, rfl, _, rfl, _, st, kn, U, it, σ7, _, v, rfl, st9.up e13, hkn.up (s9.trans e13), i7, hv1, ?_⟩
            have q := kR _ (Same.refl _)
            rw [List.getD_eq_getElem?_getD, hv2] at q
            exact q
          intro H11 e11 hl11
          rw [List.length_map, range_int vs vl] at hl11
          have e10 := s10.trans (e11.trans hid_in)
          refine ⟨D, _, rfl, .inl ⟨SqL.of hl11, fun pv hpv => ?_⟩⟩
          have e12 := e10.trans (Same.new (o := .tup (vs.map V.int)) hpv)
          have pv12 : upd H11 pv (.tup (vs.map V.int)) pv = some (.tup (vs.map V.int)) := upd_same
          generalize upd H11 pv (.tup (vs.map V.int)) = H12 at *
          have S12 := s9.trans e12
          refine ⟨(by show 2 ≤ sizeLine; decide), fun pd hpd => ⟨dn, _, _, rfl, rfl, (Same.new hpd) _ _ (e12 _ _ dn9), Nat.lt_of_le_of_lt (by omega : ys7.length ≤ 300) (by decide), ?_⟩⟩
          have e13 := e12.trans (Same.new (o := .tup [.str d, .ref pv]) hpd)
          have pd13 : upd H12 pd (.tup [.str d, .ref pv]) pd = some (.tup [.str d, .ref pv]) := upd_same
          have pv13 := (Same.new (o := .tup [.str d, .ref pv]) hpd) _ _ pv12
          generalize upd H12 pd (.tup [.str d, .ref pv]) = H13 at *
          have S13 := s9.trans e13
          have dn13 := e13 _ _ dn9
          have npd : pd ≠ dn := fun z => by rw [z, dn13] at pd13; cases pd13
          have npv : pv ≠ dn := fun z => by rw [z, dn13] at pv13; cases pv13
          have S14 : Same G (upd H13 dn (.lst (ys7 ++ [.ref pd]))) := S13.mut Gdn
          have dd14 : DpAll K (tups (upd H13 dn (.lst (ys7 ++ [.ref pd])))) (ys7 ++ [.ref pd]) ((ds7 ++ [(d, vs)]).map encD) := by
            rw [List.map_append]
            refine dpa_app ((dd9.up e13.t.tups).up (((TSame.refl H13).mut (fun zs z => by rw [dn13] at z; cases z)).tups)) (.cons ?_ .nil)
            exact .tup (SqT.of (tups_some ((upd_ne npd).trans pd13))) (.cons (.str _) (.cons (.tup (SqT.of (tups_some ((upd_ne npv).trans pv13))) (dpAll_ints _)) .nil))
          have l14 : upd H13 dn (.lst (ys7 ++ [.ref pd])) td = some (.lst xr) := (upd_ne ntd).trans (e13 _ _ l9)
          have st14 : StoAt (upd H13 dn (.lst (ys7 ++ [.ref pd]))) st σ7 (B + (n - (j + 1))) := by
            obtain ⟨ks, hks, z⟩ := st9.up e13
            exact ⟨ks, (upd_ne (Ne.symm ndn)).trans hks, z⟩
          have dn14 : upd H13 dn (.lst (ys7 ++ [.ref pd])) dn = some (.lst (ys7 ++ [.ref pd])) := upd_same
          generalize upd H13 dn (.lst (ys7 ++ [.ref pd])) = H14 at *
          have hp14 := S14.tup hp
          have y14 : (ys7 ++ [V.ref pd]).length = ds7.length + 1 := by rw [List.length_append, ylen]; rfl
          refine ⟨_, rfl, _, _, _, _, rfl, rfl, hp14, atI_nat (j := 1) rfl, rfl, _, rfl, ?_⟩
          cases x with
          | none =>
            refine iteF ?_
            exact ⟨j, Nat.lt_succ_self _, td, _, _, xr, r, σ7, ds7 ++ [(d, vs)], _, rfl, S14, gtd, ntd, l14, by omega, dr, wfr, by omega, st14.le (by omega), i7, dn14, dd14, by rw [List.length_append]; simp only [List.length_cons, List.length_nil]; omega, run7⟩
          | some x =>
            have hxi' : x ≠ Str.ofString "item" := fun z => hxi (by rw [z])
            have rs14 := S14 _ _ hrs
            have hle : ds7.length + 1 ≤ 200 := by omega
            refine iteT ⟨_, rfl, (by show 1 ≤ sizeLine; decide), fun a1 k1 => ⟨_, rfl, _, _, rfl, .inl ⟨_, SqL.of ((Same.new k1) _ _ dn14), rfl⟩, a1, _, _, rfl, rfl, upd_same, ?_, ?_, ?_, fun a2 k2 => ?_⟩⟩
            · rw [y14]
              have p63 : (2:Int) ^ 63 = 9223372036854775808 := by decide
              omega
            · rw [y14]
              have p63 : (2:Int) ^ 63 = 9223372036854775808 := by decide
              omega
            · rw [y14]
              exact Nat.le_trans (by rw [List.length_cons, List.length_nil, Int.toNat_natCast]; omega : _ ≤ 300) (by decide)
            have fl : ((List.replicate ((((ys7 ++ [V.ref pd]).length : Nat) : Int)).toNat [V.int 0]).flatten).length = ds7.length + 1 := by rw [flat_rep, List.length_replicate, Int.toNat_natCast, y14]
            have u2 := (Same.new (o := .lst [.int 0]) k1).trans (Same.new (o := .lst (List.replicate ((((ys7 ++ [V.ref pd]).length : Nat) : Int)).toNat [V.int 0]).flatten) k2)
            refine ⟨rs, a2, _, _, rfl, rfl, u2 _ _ rs14, upd_same, Nat.le_trans (by rw [List.length_map, fl]; omega : _ ≤ 1000) (by decide), fun a3 k3 => ?_⟩
            have u3 := u2.trans (Same.new (o := .lst (res.map V.int ++ (List.replicate ((((ys7 ++ [V.ref pd]).length : Nat) : Int)).toNat [V.int 0]).flatten)) k3)
            have hat : atI (res.map V.int ++ (List.replicate ((((ys7 ++ [V.ref pd]).length : Nat) : Int)).toNat [V.int 0]).flatten) ((((ys7 ++ [V.ref pd]).length : Nat) : Int) - 1) = some (.int (res.getD ds7.length 0)) := by
              rw [y14, show (((ds7.length + 1 : Nat) : Int)) - 1 = ((ds7.length : Nat) : Int) by omega]
              exact atI_nat (pad_get _ _ _ (by rw [Int.toNat_natCast]; omega))
            refine ⟨_, rfl, _, _, rfl, .inl ⟨_, SqL.of (u3 _ _ dn14), rfl⟩, _, _, rfl, rfl, _, _, _, _, rfl, rfl, SqL.of upd_same, hat, ?_⟩
            obtain ⟨ks, hks, hkl, hkσ⟩ := id (st14.up u3)
            have S16 := S14.trans u3
            have l16 := u3 _ _ l14
            have dn16 := u3 _ _ dn14
            have dd16 := dd14.up u3.t.tups
            refine ⟨_, rfl, _, rfl, _, _, _, _, rfl, rfl, S16.tup hp, atI_nat (j := 1) rfl, st, _, rfl, DPut.k (k := .inr x) hks (Nat.lt_of_le_of_lt hkl (Nat.lt_of_le_of_lt (by omega : _ ≤ 6000) (by decide))), ?_⟩
            refine ⟨j, Nat.lt_succ_self _, td, _, _, xr, r, stSet σ7 x (res.getD ds7.length 0), ds7 ++ [(d, vs)], _, rfl, S16.mut Gst, gtd, ntd, (upd_ne ntds).trans l16, by omega, dr, wfr, by omega, (StoAt.put hkl hkσ).le (by omega), ?_, (upd_ne ndn).trans dn16, dd16.up (((TSame.refl _).mut (fun zs z => by rw [hks] at z; cases z)).tups), by rw [List.length_append]; simp only [List.length_cons, List.length_nil]; omega, run7⟩
            unfold stSet
            rw [if_neg (Ne.symm hxi')]
            exact i7
end
end K21
set_option Elab.async false
set_option linter.all false
set_option maxRecDepth 100000
set_option maxHeartbeats 1000000
namespace K21
open PySem PySem.Spec PyProof.Rows L2
def encO (ds : List Deed) : PyData := .list (ds.map encD)
def ressOf (r0 : List Int) (turns : List (Int × List Int)) (rl : List Int) : List (List Int) := r0 :: (turns.map Prod.snd ++ [rl])
def RsAt (H : Hp) (a : Addr) (ress : List (List Int)) : Prop := ∃ vs : List V, H a = some (.lst vs) ∧ ∀ (i : Nat) (r : List Int), ress[i]? = some r → r.length ≤ 10 ∧ ∃ b : Addr, vs[i]? = some (.ref b) ∧ H b = some (.lst (r.map V.int))
theorem RsAt.up {H H' : Hp} {a : Addr} {ress : List (List Int)} (h : RsAt H a ress) (e : Same H H') : RsAt H' a ress := by
  obtain ⟨vs, h1, h2⟩ := h
  refine ⟨vs, e _ _ h1, fun i r q => ?_⟩
  obtain ⟨a1, b, a2, a3⟩ := h2 i r q
  exact ⟨a1, b, a2, e _ _ a3⟩
/-- a section list in the loop's dict -/
def SecAt (K : PySem.W.Frag) (H : Hp) (a : Addr) (b : Bool) (ss : List Stm) : Prop := ∃ xs, H a = some (.lst xs) ∧ DpAll K H xs (encL b ss) ∧ wfs ss = true ∧ max ss.length (mxs ss) ≤ 1000
theorem SecAt.up {K : PySem.W.Frag} {H H' : Hp} {a : Addr} {b : Bool} {ss : List Stm} (h : SecAt K H a b ss) (e : Same H H') : SecAt K H' a b ss := by
  obtain ⟨xs, h1, h2, h3⟩ := h
  exact ⟨xs, e _ _ h1, h2.up e, h3⟩
def LoopD (K : PySem.W.Frag) (H : Hp) (a : Addr) (b : Bool) (L : Lp) : Prop := ∃ s1 s2 s3 : Addr, H a = some (.dK [(.inr "start", .ref s1), (.inr "turn", .ref s2), (.inr "end", .ref s3)]) ∧ SecAt K H s1 b L.start ∧ SecAt K H s2 b L.turn ∧ SecAt K H s3 b L.fin
theorem LoopD.up {K : PySem.W.Frag} {H H' : Hp} {a : Addr} {b : Bool} {L : Lp} (h : LoopD K H a b L) (e : Same H H') : LoopD K H' a b L := by
  obtain ⟨s1, s2, s3, h1, h2, h3, h4⟩ := h
  exact ⟨s1, s2, s3, e _ _ h1, h2.up e, h3.up e, h4.up e⟩
def spPlayed (K : PySem.W.Frag) : Sp := fun vs H Q _ => ∃ (lo tb il rl : Addr) (L : Lp) (U : Tab) (r0 re : List Int) (turns : List (Int × List Int)) (outs : List (List Deed)), vs = [.ref lo, .ref tb, .ref il, .ref rl] ∧ LoopD K H lo false L ∧ TabAt K H tb U ∧ H il = some (.lst ((turns.map Prod.fst).map V.int)) ∧ turns.length ≤ 10 ∧ RsAt H rl (ressOf r0 turns re) ∧
  SRun U L ((.start, r0) :: secsOf turns re) emp false outs ∧ ∀ H' v, Same H H' → Dp K H' v (.list (outs.map encO)) → Q v H'
theorem tups_hid3 {H : Hp} {a b c : Addr} {ka kb : List (Key × V)} {xs : List V} (ha : H a = some (.dK ka)) (hb : H b = some (.dK kb)) (hc : H c = some (.lst xs)) : Same (tups H) (hid c (hid b (hid a H))) := fun z u q => by
  obtain ⟨ys, e, hz⟩ := tups_inv q
  rw [e, hid_ne (fun w => by rw [w, hc] at hz; cases hz), hid_ne (fun w => by rw [w, hb] at hz; cases hz), hid_ne (fun w => by rw [w, ha] at hz; cases hz)]
  exact hz
theorem ress_mid {r0 re : List Int} {turns : List (Int × List Int)} {i : Nat} (h : i < turns.length) : (ressOf r0 turns re)[i + 1]? = some turns[i].2 := by
  unfold ressOf
  rw [List.getElem?_cons_succ, List.getElem?_append_left (by rw [List.length_map]; exact h), List.getElem?_map, List.getElem?_eq_getElem h]
  rfl
theorem ress_end {r0 re : List Int} {turns : List (Int × List Int)} : (ressOf r0 turns re)[turns.length + 1]? = some re := by
  unfold ressOf
  rw [List.getElem?_cons_succ, List.getElem?_append_right (by rw [List.length_map]; exact Nat.le_refl _), List.length_map, Nat.sub_self]
  rfl
theorem hid3_in {H : Hp} {a b c : Addr} : Same (hid c (hid b (hid a H))) H := hid_in.trans (hid_in.trans hid_in)
theorem hid3_of {G H : Hp} {a b c : Addr} (h1 : G a = none) (h2 : G b = none) (h3 : G c = none) (e : Same G H) : Same G (hid c (hid b (hid a H))) := hid_of h3 (hid_of h2 (hid_of h1 e))
theorem hid3_n {H : Hp} {a b c : Addr} : hid c (hid b (hid a H)) a = none ∧ hid c (hid b (hid a H)) b = none ∧ hid c (hid b (hid a H)) c = none := by
  refine ⟨?_, ?_, hid_at⟩
  · exact hid_none (hid_none hid_at)
  · exact hid_none hid_at
section
variable {P : Program} {w : World} {K : PySem.W.Frag} {mg : Str → Option Value} {base : Heap}
theorem sc_law_played : FnScope ["_law_loop_here", "_law_tables_here", "_law_items", "_law_results", "_law_store", "_law_known", "_law_out", "_law_done", "_law_has_left", "_law_k", "_law_item"] ["_law_loop_here", "_law_tables_here", "_law_items", "_law_results"] (defScope s_law_played) := ⟨rfl, rfl, rfl, by decide +kernel, rfl, by decide +kernel, by decide +kernel⟩
theorem ok_law_played (T : Txt K mg) : Cal P w K mg base (4) "_law_played" (spPlayed K) := by
  refine cal_of T.d_law_played T.g_law_played sc_law_played (fun _ _ _ _ _ _ us hl => match us, hl with | [_, _, _, _], _ => rfl) (fun vs H Q E h => ?_) (fun cdv A outer s H vs Q E hr h => ?_)
  · obtain ⟨lo, tb, il, rl, L, U, r0, re, turns, outs, rfl, hlo, htb, hil, ht10, hrl, hrun, k⟩ := h
    rfl
  obtain ⟨lo, tb, il, rl, L, U, r0, re, turns, outs, rfl, hlo, htb, hil, ht10, hrl, hrun, k⟩ := h
  have c_law_played_part := ok_law_played_part (P := P) (w := w) (base := base) T
  have sc := sc_law_played
  have hu := hu_of hr
  refine ⟨_, (pss_cons (ps_par3 (i := 4) (j := 5) (l := 6) rfl sc.nd rfl rfl rfl (by decide) (by decide) (by decide) rfl rfl rfl (pa_cons pe_dnewK (pa_cons (pbt call_dictD T.b_dict v_dict (pa_cons (pe_dget hu (pv 1) pe_str (fun _ _ => rfl)) pa_nil)) (pa_cons (pe_lst pa_nil) pa_nil))) rfl)
      (pss_cons (ps_asg (pc c_law_played_part hr (by decide) (pa_cons (pe_dget hu (pv 0) pe_str (fun _ _ => rfl)) (pa_cons (pv 4) (pa_cons (pv 5) (pa_cons (pv 1) (pa_cons (pe_ix ix_list (pv 3) pe_int (fun _ _ => rfl)) pa_nil)))))) (pg_tup rfl (pgs_cons (pgn 7 sc.nd) (pgs_cons (pgn 8 sc.nd) pgs_nil))))
      (pss_cons (ps_expr (pe_bm PySem.F.plainAttrs_list PySem.F.slot_list_append PySem.F.type_list_append mt_append (pv 6) (pa_cons (pv 7) pa_nil)))
      (pss_cons (ps_for PassesOwn.never rfl (pi_enum rfl T.b_enumerate (pa_cons (pv 2) pa_nil)) (pg_tup rfl (pgs_cons (pgn 9 sc.nd) (pgs_cons (pgn 10 sc.nd) pgs_nil)))
        (pss_cons (ps_asg (pe_tup (pa_cons (pv 10) (pa_cons (pe_lst pa_nil) pa_nil))) (pg_tup rfl (pgs_cons (pg_sub (pv 5) pe_str (set_dict hu)) (pgs_cons (pgn 7 sc.nd) pgs_nil))))
        (pss_cons (ps_if (pt_not (pt_val (pv 8))) (pss_one (ps_asg (pc c_law_played_part hr (by decide) (pa_cons (pe_dget hu (pv 0) pe_str (fun _ _ => rfl)) (pa_cons (pv 4) (pa_cons (pv 5) (pa_cons (pv 1) (pa_cons (pe_ix ix_list (pv 3) (pe_op op_add (pv 9) pe_int) (fun _ _ => rfl)) pa_nil)))))) (pg_tup rfl (pgs_cons (pgn 7 sc.nd) (pgs_cons (pgn 8 sc.nd) pgs_nil))))) pss_nil)
        (pss_one (ps_expr (pe_bm PySem.F.plainAttrs_list PySem.F.slot_list_append PySem.F.type_list_append mt_append (pv 6) (pa_cons (pv 7) pa_nil)))))))
      (pss_one (ps_ret (pe_op op_cat (pv 6) (pe_lst (pa_cons (pe_ix ix_tup (pc c_law_played_part hr (by decide) (pa_cons (pe_dget hu (pv 0) pe_str (fun _ _ => rfl)) (pa_cons (pv 4) (pa_cons (pv 5) (pa_cons (pv 1) (pa_cons (pe_ix ix_list (pv 3) (pe_op op_add (pb call_len T.b_len v_len (pa_cons (pv 2) pa_nil)) pe_int) (fun _ _ => rfl)) pa_nil)))))) pe_int (fun _ _ => rfl)) pa_nil))))))))), ?_⟩
  obtain ⟨s1, s2, s3, hd, hs1, hs2, hs3⟩ := id hlo
  obtain ⟨x1, hx1, dx1, wf1, mx1⟩ := id hs1
  obtain ⟨x2, hx2, dx2, wf2, mx2⟩ := id hs2
  obtain ⟨x3, hx3, dx3, wf3, mx3⟩ := id hs3
  obtain ⟨cc, ff, tt, kc, ht1, ⟨hc1, hc2, hc3⟩, hfn, hts, hci⟩ := id htb
  obtain ⟨rv, hrv, hrr⟩ := id hrl
  obtain ⟨σ1, l1, ds1, outs1, P1, rfl, hrest⟩ := hrun
  obtain ⟨n1, b1, hn1, run1, rfl⟩ := P1
  refine fun st hst => ⟨_, rfl, tb, _, rfl, .inl ⟨_, .inr "constants", .inl ((Same.new hst) _ _ ht1), rfl, rfl⟩, cc, kc, rfl, .inl ((Same.new hst) _ _ hc1), fun kn hkn => ⟨(by show 0 ≤ sizeLine; decide), fun ou hou => ?_⟩⟩
  refine ⟨_, _, _, rfl, ?_⟩
  have e1 := Same.new (o := .dK []) hst
  have e2 := Same.new (o := .dK kc) hkn
  have e3 := Same.new (o := .lst []) hou
  have eH := e1.trans (e2.trans e3)
  have hknH : H kn = none := e1.free hkn
  have houH : H ou = none := (e1.trans e2).free hou
  have n_sk : st ≠ kn := ne_of_none upd_same hkn
  have n_so : st ≠ ou := ne_of_none (e2 _ _ upd_same) hou
  have n_ko : kn ≠ ou := ne_of_none upd_same hou
  have st3 : StoAt (upd (upd (upd H st (.dK [])) kn (.dK kc)) ou (.lst [])) st emp 0 := ⟨[], (e2.trans e3) _ _ upd_same, Nat.le_refl _, fun x => rfl⟩
  have kn3 : KnAt (upd (upd (upd H st (.dK [])) kn (.dK kc)) ou (.lst [])) kn U none := ⟨kc, e3 _ _ upd_same, by omega, fun x v h => by
    by_cases z : x = "item"
    · rw [if_pos z] at h; cases h
    · rw [if_neg z] at h; rw [hc3, h]; rfl⟩
  have ou3 : upd (upd (upd H st (.dK [])) kn (.dK kc)) ou (.lst []) ou = some (.lst []) := upd_same
  have kc3 : upd (upd (upd H st (.dK [])) kn (.dK kc)) ou (.lst []) kn = some (.dK kc) := e3 _ _ upd_same
  generalize upd (upd (upd H st (.dK [])) kn (.dK kc)) ou (.lst []) = H3 at *
  have GH3 : Same H (hid st H3) := hid_of hst eH
  obtain ⟨r0l, b0, hb0, hb0'⟩ := hrr 0 r0 rfl
  refine ⟨_, rfl, lo, _, rfl, .inl ⟨_, .inr "start", .inl (eH _ _ hd), rfl, rfl⟩, _, rfl, _, rfl, _, rfl, _, rfl, rl, _, _, _, rfl, rfl, SqL.of (eH _ _ hrv), atI_nat (j := 0) hb0, ?_⟩
  refine ⟨s1, st, kn, tb, b0, x1, L.start, U, none, emp, 0, n1, r0, σ1, ds1, l1, rfl, GH3 _ _ hx1, dx1.up GH3, st3, kn3.hid (Ne.symm n_sk), htb.up GH3, GH3 _ _ hb0', r0l, rfl, wf1, mx1, hn1, by omega, run1, fun H4 t4 ld4 ys4 s4 sto4 i4 ht4 hl4 hf4 nl4 dd4 => ?_⟩
  have kn4 : KnAt H4 kn U none := (kn3.hid (Ne.symm n_sk)).up s4
  have ou4 : H4 ou = some (.lst []) := s4 _ _ (by rw [hid_ne (Ne.symm n_so)]; exact ou3)
  have S4 : Same H H4 := GH3.trans s4
  have kc4 : H4 kn = some (.dK kc) := s4 _ _ (by rw [hid_ne (Ne.symm n_sk)]; exact kc3)
  refine ⟨t4, _, rfl, SqT.of ht4, rfl, _, _, rfl, _, _, rfl, rfl, ?_⟩
  refine ⟨_, rfl, .inl ⟨rfl, _, SqL.of ou4⟩, _, rfl, ou, _, _, rfl, rfl, ou4, (by show 0 < sizeLine; decide), ?_⟩
  obtain ⟨ks4, hks4, _⟩ := id sto4
  obtain ⟨kk4, hkk4, _⟩ := id kn4
  have nlk : ld4 ≠ kn := by
    obtain ⟨kk, q, _⟩ := kn3
    exact nh q hf4
  have nlo : ld4 ≠ ou := nh ou3 hf4
  have hP0 : ∀ (X : Hp) (o : HO), hid ou (hid kn (hid st (upd X ou o))) = hid ou (hid kn (hid st X)) := fun X o => by
    funext z
    by_cases q : z = ou
    · rw [q, hid_at, hid_at]
    · rw [hid_ne q, hid_ne q]
      by_cases q2 : z = kn
      · rw [q2, hid_at, hid_at]
      · rw [hid_ne q2, hid_ne q2]
        by_cases q3 : z = st
        · rw [q3, hid_at, hid_at]
        · rw [hid_ne q3, hid_ne q3, upd_ne q]
  have hPk : ∀ (X : Hp) (o : HO), hid ou (hid kn (hid st (upd X kn o))) = hid ou (hid kn (hid st X)) := fun X o => by
    funext z
    by_cases q : z = ou
    · rw [q, hid_at, hid_at]
    · rw [hid_ne q, hid_ne q]
      by_cases q2 : z = kn
      · rw [q2, hid_at, hid_at]
      · rw [hid_ne q2, hid_ne q2]
        by_cases q3 : z = st
        · rw [q3, hid_at, hid_at]
        · rw [hid_ne q3, hid_ne q3, upd_ne q2]
  have dO4 : Dp K (hid ou (hid kn (hid st H4))) (.ref ld4) (encO ds1) := by
    refine .lst (SqL.of (xs := ys4) ?_) (dd4.up (tups_hid3 hks4 hkk4 ou4))
    rw [hid_ne nlo, hid_ne nlk, hid_ne nl4]
    exact hl4
  have iln : (turns.map Prod.fst).map V.int = ((turns.map Prod.fst).map V.int) := rfl
  have ilen : ((turns.map Prod.fst).map V.int).length = turns.length := by rw [List.length_map, List.length_map]
  refine ⟨_, rfl, il, _, rfl, SqL.of ((upd_ne (ne_of_none (S4 _ _ hil |> fun _ => hil) houH)).trans (S4 _ _ hil)), ?_⟩
  refine for_it (walk_enum (xs := (turns.map Prod.fst).map V.int)) (fun i σs H7 => ∃ (x7 x9 x10 : Option V) (lf : Bool) (σ7 : Sto) (refs : List V) (oA oB : List (List Deed)), σs = [some (.ref lo), some (.ref tb), some (.ref il), some (.ref rl), some (.ref st), some (.ref kn), some (.ref ou), x7, some (.bl lf), x9, x10] ∧ Same H H7 ∧ StoAt H7 st σ7 (200 * (i + 1)) ∧ σ7 "item" = none ∧ (KnAt H7 kn U none ∧ ∀ kk, H7 kn = some (.dK kk) → kk.length ≤ 10 + i) ∧ H7 ou = some (.lst refs) ∧ refs.length = i + 1 ∧
    DpAll K (hid ou (hid kn (hid st H7))) refs (oA.map encO) ∧ ds1 :: outs1 = oA ++ oB ∧ SRun U L (secsOf (turns.drop i) re) σ7 lf oB) ?_ ?_ ?_ ?_
  · refine ⟨_, _, _, l1, σ1, [.ref ld4], [ds1], outs1, rfl, S4.mut houH, ?_, i4, ?_, upd_same, rfl, ?_, rfl, hrest⟩
    · obtain ⟨ks, a1, a2, a3⟩ := sto4
      exact ⟨ks, (upd_ne n_so).trans a1, by omega, a3⟩
    · refine ⟨?_, fun kk q => ?_⟩
      · obtain ⟨kk, a1, a2, a3⟩ := kn4
        exact ⟨kk, (upd_ne n_ko).trans a1, a2, a3⟩
      · have q2 := (upd_ne (H := H4) (o := .lst ([] ++ [V.ref ld4])) n_ko).symm.trans q
        rw [kc4] at q2
        cases q2
        omega
    · rw [hP0]
      exact .cons dO4 .nil
  · rintro i σs H7 _ ⟨x7, x9, x10, lf, σ7, refs, oA, oB, rfl, s7, _⟩
    exact SqL.of (s7 _ _ hil)
  · rintro i x σs H7 H8 hi ⟨x7, x9, x10, lf, σ7, refs, oA, oB, rfl, s7, sto7, i7, ⟨kn7, kb7⟩, ou7, n7, d7, ho7, hr7⟩ ⟨T1, y1, y2, rfl, hT, rfl, hy1, hy2⟩
    cases hy1
    have hi' : i < turns.length := by rw [ilen] at hi; exact hi
    have hy2' : y2 = .int turns[i].1 := by
      have hy2 : ((turns.map Prod.fst).map V.int)[i]? = some y2 := hy2
      rw [List.getElem?_map, List.getElem?_map, List.getElem?_eq_getElem hi'] at hy2
      exact (Option.some.inj hy2).symm
    subst hy2'
    have u8 := Same.new (o := .tup [.int (i : Nat), .int turns[i].1]) hT
    have kb8 : ∀ kk, upd H7 T1 (.tup [.int (i : Nat), .int turns[i].1]) kn = some (.dK kk) → kk.length ≤ 10 + i := fun kk q => by
      obtain ⟨kk', q', _⟩ := id kn7
      have := u8 _ _ q'
      rw [this] at q
      cases q
      exact kb7 _ q'
    have sto8 := sto7.up u8
    have kn8 := kn7.up u8
    have ou8 := u8 _ _ ou7
    have S8 := s7.trans u8
    have d8 := d7.up (u8.hid.hid.hid (D := ou))
    refine ⟨T1, _, rfl, SqT.of upd_same, rfl, _, _, rfl, _, _, rfl, rfl, ?_⟩
    generalize upd H7 T1 (.tup [.int (i : Nat), .int turns[i].1]) = H8 at *
    refine ⟨_, rfl, (by show 0 ≤ sizeLine; decide), fun a1 k1 => ⟨(by show 2 ≤ sizeLine; decide), fun a2 k2 => ?_⟩⟩
    have v2 := (Same.new (o := .lst []) k1).trans (Same.new (o := .tup [.int turns[i].1, .ref a1]) k2)
    have a1n : H8 a1 = none := k1
    have w1 := (Same.new (o := .tup [.int turns[i].1, .ref a1]) k2) _ _ (upd_same (H := H8) (a := a1) (o := .lst []))
    have w2 : upd (upd H8 a1 (.lst [])) a2 (.tup [.int turns[i].1, .ref a1]) a2 = some (.tup [.int turns[i].1, .ref a1]) := upd_same
    have n1o : a1 ≠ ou := nh ou8 k1
    obtain ⟨ks8, hks8, _⟩ := id sto8
    obtain ⟨kk8, hkk8, hkl8, hkv8⟩ := id kn8
    have kl8 := kb8 _ hkk8
    have kp8 : (putK kk8 (.inr (Str.ofString "item")) (.int turns[i].1)).length ≤ 10 + (i + 1) := Nat.le_trans (length_putK _ _ _) (by omega)
    have n1s : a1 ≠ st := nh hks8 k1
    have n1k : a1 ≠ kn := nh hkk8 k1
    have kk9 := v2 _ _ hkk8
    have sto9 := sto8.up v2
    have ou9 := v2 _ _ ou8
    have S9 := S8.trans v2
    have d9 := d8.up (v2.hid.hid.hid (D := ou))
    generalize upd (upd H8 a1 (.lst [])) a2 (.tup [.int turns[i].1, .ref a1]) = H9 at *
    refine ⟨a2, _, rfl, SqT.of w2, rfl, _, _, rfl, _, rfl, kn, _, rfl, DPut.k (k := .inr "item") kk9 (Nat.lt_of_le_of_lt hkl8 (by decide)), _, _, rfl, rfl, ?_⟩
    have kn10 : ∀ it, it = none ∨ it = some turns[i].1 → KnAt (upd H9 kn (.dK (putK kk8 (.inr "item") (.int turns[i].1)))) kn U it := fun it hit => by
      refine ⟨_, upd_same, Nat.le_trans (length_putK _ _ _) (by omega), fun x v h => ?_⟩
      rw [valV_put]
      by_cases z : x = Str.ofString "item"
      · rw [if_pos z] at h
        rw [if_pos (by rw [z])]
        rcases hit with q | q
        · rw [q] at h; cases h
        · rw [q] at h; rw [Option.some.inj h]
      · rw [if_neg (fun q => z (Sum.inr.inj q))]
        exact hkv8 x v (by rw [if_neg z] at h ⊢; exact h)
    have kk10 : upd H9 kn (.dK (putK kk8 (.inr "item") (.int turns[i].1))) kn = some (.dK (putK kk8 (.inr "item") (.int turns[i].1))) := upd_same
    have S10 : Same H (upd H9 kn (.dK (putK kk8 (.inr "item") (.int turns[i].1)))) := S9.mut hknH
    have sto10 : StoAt (upd H9 kn (.dK (putK kk8 (.inr "item") (.int turns[i].1)))) st σ7 (200 * (i + 1)) := by
      obtain ⟨ks, a1, a2, a3⟩ := sto9
      exact ⟨ks, (upd_ne n_sk).trans a1, a2, a3⟩
    have ou10 : upd H9 kn (.dK (putK kk8 (.inr "item") (.int turns[i].1))) ou = some (.lst refs) := (upd_ne (Ne.symm n_ko)).trans ou9
    have d10 : DpAll K (hid ou (hid kn (hid st (upd H9 kn (.dK (putK kk8 (.inr "item") (.int turns[i].1))))))) refs (oA.map encO) := by
      rw [hPk]
      exact d9
    have w10 : upd H9 kn (.dK (putK kk8 (.inr "item") (.int turns[i].1))) a1 = some (.lst []) := (upd_ne n1k).trans w1
    generalize upd H9 kn (.dK (putK kk8 (.inr "item") (.int turns[i].1))) = H10 at *
    have ed : turns.drop i = turns[i] :: turns.drop (i + 1) := List.drop_eq_getElem_cons hi'
    rw [ed] at hr7
    obtain ⟨σ8, l8, ds8, oB', P8, rfl, hr8⟩ := hr7
    refine ⟨_, rfl, lf, rfl, ?_⟩
    cases lf with
    | true =>
      obtain ⟨_, e1, e2, e3⟩ : true = true ∧ σ8 = σ7 ∧ l8 = true ∧ ds8 = [] := by
        rcases P8 with q | q
        · exact q
        · cases q.1
      subst e1 e2 e3
      refine iteF ?_
      refine ⟨_, rfl, .inl ⟨rfl, _, SqL.of ou10⟩, _, rfl, ou, _, _, rfl, rfl, ou10, Nat.lt_of_le_of_lt (by omega : refs.length ≤ 100) (by decide), ?_⟩
      refine ⟨_, _, _, true, σ8, refs ++ [.ref a1], oA ++ [[]], oB', rfl, S10.mut houH, ?_, i7, ?_, upd_same, by rw [List.length_append, n7]; rfl, ?_, by rw [ho7, List.append_assoc]; rfl, hr8⟩
      · obtain ⟨ks, a1, a2, a3⟩ := sto10
        exact ⟨ks, (upd_ne n_so).trans a1, by omega, a3⟩
      · refine ⟨?_, fun kk q => ?_⟩
        · obtain ⟨kk, a1, a2, a3⟩ := kn10 none (.inl rfl)
          exact ⟨kk, (upd_ne n_ko).trans a1, a2, a3⟩
        · have q2 := (upd_ne n_ko).symm.trans q
          rw [kk10] at q2
          cases q2
          exact kp8
      · rw [hP0, List.map_append]
        refine dpa_app d10 (.cons ?_ .nil)
        refine .lst (SqL.of (xs := []) ?_) .nil
        rw [hid_ne n1o, hid_ne n1k, hid_ne n1s]
        exact w10
    | false =>
      obtain ⟨_, n8, hn8, run8⟩ : false = false ∧ ∃ n, n ≤ 200 ∧ run U (some turns[i].1) turns[i].2 n L.turn σ7 [] = some (σ8, ds8, l8) := by
        rcases P8 with q | q
        · cases q.1
        · exact q
      obtain ⟨r8l, b8, hb8, hb8'⟩ := hrr (i + 1) _ (ress_mid hi')
      have GH10 : Same H (hid st H10) := hid_of hst S10
      have hat : atI rv (((i : Nat) : Int) + 1) = some (.ref b8) := by
        rw [show (((i : Nat) : Int)) + 1 = ((i + 1 : Nat) : Int) by omega]
        exact atI_nat hb8
      refine iteT ?_
      refine ⟨_, rfl, lo, _, rfl, .inl ⟨_, .inr "turn", .inl (S10 _ _ hd), rfl, rfl⟩, _, rfl, _, rfl, _, rfl, _, rfl, _, rfl, _, _, rfl, rfl, rl, _, _, _, rfl, rfl, SqL.of (S10 _ _ hrv), hat, ?_⟩
      refine ⟨s2, st, kn, tb, b8, x2, L.turn, U, some turns[i].1, σ7, _, n8, turns[i].2, σ8, ds8, l8, rfl, GH10 _ _ hx2, dx2.up GH10, sto10, (kn10 _ (.inr rfl)).hid (Ne.symm n_sk), htb.up GH10, GH10 _ _ hb8', r8l, i7, wf2, mx2, hn8, by omega, run8, fun H11 t11 ld11 ys11 s11 sto11 i11 ht11 hl11 hf11 nl11 dd11 => ?_⟩
      refine ⟨t11, _, rfl, SqT.of ht11, rfl, _, _, rfl, _, _, rfl, rfl, ?_⟩
      have kn11 : KnAt H11 kn U none := ((kn10 none (.inl rfl)).hid (Ne.symm n_sk)).up s11
      have ou11 : H11 ou = some (.lst refs) := s11 _ _ (by rw [hid_ne (Ne.symm n_so)]; exact ou10)
      have S11 : Same H H11 := GH10.trans s11
      obtain ⟨ks11, hks11, _⟩ := id sto11
      obtain ⟨kk11, hkk11, _⟩ := id kn11
      have nlk' : ld11 ≠ kn := by
        obtain ⟨kk, q, _⟩ := kn10 none (.inl rfl)
        exact nh q hf11
      have nlo' : ld11 ≠ ou := nh ou10 hf11
      obtain ⟨h3a, h3b, h3c⟩ := hid3_n (H := H10) (a := st) (b := kn) (c := ou)
      have P1011 : Same (hid ou (hid kn (hid st H10))) (hid ou (hid kn (hid st H11))) := hid3_of h3a h3b h3c ((hid_in.trans hid_in).trans s11)
      refine ⟨_, rfl, .inl ⟨rfl, _, SqL.of ou11⟩, _, rfl, ou, _, _, rfl, rfl, ou11, Nat.lt_of_le_of_lt (by omega : refs.length ≤ 100) (by decide), ?_⟩
      refine ⟨_, _, _, l8, σ8, refs ++ [.ref ld11], oA ++ [ds8], oB', rfl, S11.mut houH, ?_, i11, ?_, upd_same, by rw [List.length_append, n7]; rfl, ?_, by rw [ho7, List.append_assoc]; rfl, hr8⟩
      · obtain ⟨ks, a1, a2, a3⟩ := sto11
        exact ⟨ks, (upd_ne n_so).trans a1, by omega, a3⟩
      · refine ⟨?_, fun kk q => ?_⟩
        · obtain ⟨kk, a1, a2, a3⟩ := kn11
          exact ⟨kk, (upd_ne n_ko).trans a1, a2, a3⟩
        · have q2 := (upd_ne n_ko).symm.trans q
          rw [s11 _ _ (show hid st H10 kn = _ by rw [hid_ne (Ne.symm n_sk)]; exact kk10)] at q2
          cases q2
          exact kp8
      · rw [hP0, List.map_append]
        refine dpa_app (d10.up P1011) (.cons ?_ .nil)
        refine .lst (SqL.of (xs := ys11) ?_) (dd11.up (tups_hid3 hks11 hkk11 ou11))
        rw [hid_ne nlo', hid_ne nlk', hid_ne nl11]
        exact hl11
  · rintro σs H7 ⟨x7, x9, x10, lf, σ7, refs, oA, oB, rfl, s7, sto7, i7, ⟨kn7, kb7⟩, ou7, n7, d7, ho7, hr7⟩
    rw [ilen] at n7 hr7 sto7
    rw [List.drop_length] at hr7
    obtain ⟨σ8, l8, ds8, oB', P8, rfl, hr8⟩ := hr7
    obtain ⟨n8, b8, hn8, run8⟩ := P8
    cases hr8
    obtain ⟨r8l, ra, hb8, hb8'⟩ := hrr (turns.length + 1) _ ress_end
    have GH7 : Same H (hid st H7) := hid_of hst s7
    have hat : atI rv (((turns.length : Nat) : Int) + 1) = some (.ref ra) := by
      rw [show (((turns.length : Nat) : Int)) + 1 = ((turns.length + 1 : Nat) : Int) by omega]
      exact atI_nat hb8
    refine ⟨_, rfl, _, rfl, lo, _, rfl, .inl ⟨_, .inr "end", .inl (s7 _ _ hd), rfl, rfl⟩, _, rfl, _, rfl, _, rfl, _, rfl, _, rfl, _, _, rfl, .inl ⟨_, SqL.of (s7 _ _ hil), rfl⟩, _, _, rfl, rfl, rl, _, _, _, rfl, rfl, SqL.of (s7 _ _ hrv), by rw [ilen]; exact hat, ?_⟩
    refine ⟨s3, st, kn, tb, ra, x3, L.fin, U, none, σ7, _, n8, re, σ8, ds8, b8, rfl, GH7 _ _ hx3, dx3.up GH7, sto7, kn7.hid (Ne.symm n_sk), htb.up GH7, GH7 _ _ hb8', r8l, i7, wf3, mx3, hn8, by omega, run8, fun H11 t11 ld11 ys11 s11 sto11 i11 ht11 hl11 hf11 nl11 dd11 => ?_⟩
    have kn11 : KnAt H11 kn U none := (kn7.hid (Ne.symm n_sk)).up s11
    have ou11 : H11 ou = some (.lst refs) := s11 _ _ (by rw [hid_ne (Ne.symm n_so)]; exact ou7)
    have S11 : Same H H11 := GH7.trans s11
    obtain ⟨ks11, hks11, _⟩ := id sto11
    obtain ⟨kk11, hkk11, _⟩ := id kn11
    obtain ⟨h3a, h3b, h3c⟩ := hid3_n (H := H7) (a := st) (b := kn) (c := ou)
    have P711 : Same (hid ou (hid kn (hid st H7))) H11 := (hid_in.trans hid_in).trans s11
    refine ⟨_, _, _, _, rfl, rfl, SqT.of ht11, atI_nat (j := 0) rfl, (by show 1 ≤ sizeLine; decide), fun q1 k1 => ⟨ou, q1, _, _, rfl, rfl, (Same.new k1) _ _ ou11, upd_same, Nat.le_trans (by rw [n7]; show turns.length + 1 + 1 ≤ 100; omega) (by decide), fun q2 k2 => ?_⟩⟩
    have u2 := (Same.new (o := .lst [.ref ld11]) k1).trans (Same.new (o := .lst (refs ++ [.ref ld11])) k2)
    refine k _ _ (S11.trans u2) (.lst (SqL.of upd_same) ?_)
    rw [ho7, List.map_append]
    refine dpa_app (d7.up (P711.trans u2)) (.cons ?_ .nil)
    exact .lst (u2.seq (SqL.of hl11)) (dd11.up (tups_in.trans u2))
end
end K21
set_option Elab.async false
set_option linter.all false
set_option maxRecDepth 100000
set_option maxHeartbeats 1000000
namespace K21
open PySem PySem.Spec PyProof.Rows L2
def itV : Option Int → V
  | none => .non
  | some i => .int i
/-- the run's dict in the part that stands still -/
def RunAt (K : PySem.W.Frag) (G : Hp) (ru : Addr) (side : Int) (st cur oL : Addr) (U : Tab) (res : List Int) : Prop := ∃ (lp : V) (tb sL dL rL a b : Addr) (olds : List V), G ru = some (.dK [(.inr "loops", lp), (.inr "tables", .ref tb), (.inr "store", .ref sL), (.inr "out", .ref oL), (.inr "done", .ref dL), (.inr "results", .ref rL)]) ∧
  G sL = some (.lst [.ref a, .ref b]) ∧ atI [V.ref a, .ref b] side = some (.ref st) ∧ G dL = some (.lst (olds ++ [.ref cur])) ∧ G rL = some (.lst (res.map V.int)) ∧ res.length ≤ 10 ∧ TabAt K G tb U
theorem RunAt.up {K : PySem.W.Frag} {G H : Hp} {ru : Addr} {side : Int} {st cur oL : Addr} {U : Tab} {res : List Int} (h : RunAt K G ru side st cur oL U res) (e : Same G H) : RunAt K H ru side st cur oL U res := by
  obtain ⟨lp, tb, sL, dL, rL, a, b, olds, h1, h2, h3, h4, h5, h6, h7⟩ := h
  exact ⟨lp, tb, sL, dL, rL, a, b, olds, e _ _ h1, e _ _ h2, h3, e _ _ h4, e _ _ h5, h6, h7.up e⟩
def spJThing (K : PySem.W.Frag) : Sp := fun vs H Q _ => ∃ (ru st cur oL : Addr) (side : Int) (x : Str) (it : Option Int) (U : Tab) (res : List Int) (σ : Sto) (B : Nat) (v : Int), vs = [.ref ru, .int side, .str x, itV it] ∧ RunAt K H ru side st cur oL U res ∧ StoAt H st σ B ∧ ev U it σ x = some v ∧ Q (.int v) H
/-- a statement that is neither a leave nor an if: its tuple, what it does -/
def Stm.w0 : Stm → Str
  | .put _ _ => "put" | .call _ _ _ => "call" | .act _ _ _ => "do" | .leave => "leave" | .ite _ _ _ => "if"
def Stm.u1 : Stm → V
  | .put x _ => .str x | .call x _ _ => .str x | .act x _ _ => optVd x | _ => .non
def Stm.u2 : Stm → Str
  | .put _ y => y | .call _ f _ => f | .act _ d _ => d | _ => ""
def Stm.args : Stm → List Str
  | .call _ _ ys => ys | .act _ _ ys => ys | _ => []
def Stm.pln : Stm → Prop
  | .leave => False | .ite _ _ _ => False | _ => True
theorem stm_pln {K : PySem.W.Frag} {H : Hp} {v : V} {b : Bool} {s : Stm} (hs : s.pln) (h : Dp K H v (enc b s)) : ∃ p, v = .ref p ∧ SqT K H p (.str s.w0 :: s.u1 :: .str s.u2 :: s.args.map V.str) := by
  cases s with
  | put x y => exact stm_put h
  | call x f ys => exact stm_call h
  | act x d ys => exact stm_act h
  | leave => cases hs
  | ite t p q => cases hs
def stOpt (σ : Sto) (v : Int) : Option Str → Sto
  | none => σ
  | some x => stSet σ x v
def stepS (U : Tab) (it : Option Int) (res : List Int) (σ : Sto) (ds : List Deed) : Stm → Option (Sto × List Deed)
  | .put x y => (ev U it σ y).bind fun v => some (stSet σ x v, ds)
  | .call x f ys => (evs U it σ ys).bind fun vs => (U.fn f vs).bind fun v => some (stSet σ x v, ds)
  | .act x d ys => (evs U it σ ys).bind fun vs => some (stOpt σ (res.getD ds.length 0) x, ds ++ [(d, vs)])
  | .leave => none
  | .ite _ _ _ => none
theorem run_step {U : Tab} {it : Option Int} {res : List Int} {n : Nat} {s : Stm} {r : List Stm} {σ : Sto} {ds : List Deed} (hs : s.pln) : run U it res (n + 1) (s :: r) σ ds = (stepS U it res σ ds s).bind fun p => run U it res n r p.1 p.2 := by
  cases s with
  | put x y => rw [run_put, stepS]; cases ev U it σ y <;> rfl
  | call x f ys =>
    rw [run_call, stepS]
    cases evs U it σ ys with
    | none => rfl
    | some vs =>
      show ((U.fn f vs).bind _) = _
      cases q : U.fn f vs with
      | none => simp [q]
      | some v => simp [q]
  | act x d ys => rw [run_actX, stepS]; cases x <;> (cases evs U it σ ys <;> rfl)
  | leave => cases hs
  | ite t p q => cases hs
theorem step_args {U : Tab} {it : Option Int} {res : List Int} {s : Stm} {σ : Sto} {ds : List Deed} {p : Sto × List Deed} (h : stepS U it res σ ds s = some p) : ∃ vs, evs U it σ s.args = some vs := by
  cases s with
  | put x y => exact ⟨[], rfl⟩
  | call x f ys =>
    rw [stepS] at h
    obtain ⟨vs, h1, _⟩ := Option.bind_eq_some_iff.mp h
    exact ⟨vs, h1⟩
  | act x d ys =>
    rw [stepS] at h
    obtain ⟨vs, h1, _⟩ := Option.bind_eq_some_iff.mp h
    exact ⟨vs, h1⟩
  | leave => cases h
  | ite t a b => cases h
theorem wf_args {s : Stm} (h : s.wf = true) : s.args.length ≤ 2 := by
  cases s with
  | put x y => exact Nat.zero_le _
  | call x f ys =>
    rw [Stm.wf] at h
    exact of_decide_eq_true (Bool.and_eq_true_iff.mp h).2
  | act x d ys =>
    rw [Stm.wf] at h
    exact of_decide_eq_true (Bool.and_eq_true_iff.mp h).2
  | leave => exact Nat.zero_le _
  | ite t a b => exact Nat.zero_le _
def spDoes (K : PySem.W.Frag) : Sp := fun vs H Q _ => ∃ (ru st cur oL : Addr) (side : Int) (v : V) (s : Stm) (it : Option Int) (U : Tab) (res : List Int) (σ σ' : Sto) (B : Nat) (ys : List V) (ds ds' : List Deed) (G : Hp), vs = [.ref ru, .int side, v, itV it, .non] ∧ Same G H ∧ RunAt K G ru side st cur oL U res ∧ Dp K G v (enc true s) ∧ s.pln ∧ s.wf = true ∧
  StoAt H st σ B ∧ B ≤ 5000 ∧ G st = none ∧ G cur = none ∧ H cur = some (.lst ys) ∧ DpAll K (tups H) ys (ds.map encD) ∧ ds.length ≤ 98 ∧ stepS U it res σ ds s = some (σ', ds') ∧ ∀ H' ys', Same (hid cur (hid st H)) H' → StoAt H' st σ' (B + 1) → H' cur = some (.lst ys') → DpAll K (tups H') ys' (ds'.map encD) → Q .non H'
section
variable {P : Program} {w : World} {K : PySem.W.Frag} {mg : Str → Option Value} {base : Heap}
theorem sc_law_joint_thing : FnScope ["_law_run", "_law_side", "_law_source_here", "_law_item"] ["_law_run", "_law_side", "_law_source_here", "_law_item"] (defScope s_law_joint_thing) := ⟨rfl, rfl, rfl, by decide +kernel, rfl, by decide +kernel, by decide +kernel⟩
theorem ok_law_joint_thing (T : Txt K mg) : Cal P w K mg base (1) "_law_joint_thing" (spJThing K) := by
  refine cal_of T.d_law_joint_thing T.g_law_joint_thing sc_law_joint_thing (fun _ _ _ _ _ _ us hl => match us, hl with | [_, _, _, _], _ => rfl) (fun vs H Q E h => ?_) (fun cdv A outer s H vs Q E hr h => ?_)
  · obtain ⟨ru, st, cur, oL, side, x, it, U, res, σ, B, v, rfl, hR, ⟨ks, hks, hkl, hσ⟩, hev, q⟩ := h
    rfl
  obtain ⟨ru, st, cur, oL, side, x, it, U, res, σ, B, v, rfl, hR, ⟨ks, hks, hkl, hσ⟩, hev, q⟩ := h
  have sc := sc_law_joint_thing
  have hu := hu_of hr
  refine ⟨_, (pss_cons (ps_if (pt_cmpR op_eq (pv 2) pe_str (nomark _)) (pss_one (ps_ret (pv 3))) pss_nil)
      (pss_one (ps_ret (pe_ifExp (pt_cmp (pc_din hu (pv 2) (pe_ix ix_list (pe_dget hu (pv 0) pe_str (fun _ _ => rfl)) (pv 1) (fun _ _ => rfl)))) (pe_dget hu (pe_ix ix_list (pe_dget hu (pv 0) pe_str (fun _ _ => rfl)) (pv 1) (fun _ _ => rfl)) (pv 2) (fun _ _ => rfl)) (pe_dget hu (pe_dget hu (pe_dget hu (pv 0) pe_str (fun _ _ => rfl)) pe_str (fun _ _ => rfl)) (pv 2) (fun _ _ => rfl)))))), ?_⟩
  obtain ⟨lp, tb, sL, dL, rL, a, b, olds, h1, h2, h3, h4, h5, h6, h7⟩ := id hR
  obtain ⟨c, f, tt, kc, g1, ⟨g2, g3, g4⟩, _, _, _⟩ := id h7
  refine ⟨_, rfl, rfl, _, rfl, ?_⟩
  refine ite2 (fun e => ?_) (fun e => ?_)
  · have e : x = Str.ofString "item" := V.str.inj (of_decide_eq_true e)
    unfold ev at hev
    rw [if_pos e] at hev
    subst hev
    exact ⟨_, rfl, q⟩
  · have e : ¬ x = Str.ofString "item" := fun z => e (decide_eq_true (congrArg V.str z))
    unfold ev at hev
    rw [if_neg e] at hev
    refine ⟨_, rfl, _, rfl, ru, _, rfl, .inl ⟨_, .inr "store", .inl h1, rfl, rfl⟩, _, rfl, sL, _, _, _, rfl, rfl, SqL.of h2, h3, st, _, rfl, DGet.k (k := .inr x) hks, _, rfl, ?_⟩
    cases z : σ x with
    | some u =>
      rw [z] at hev
      cases hev
      have z2 : valV ks (.inr x) = some (.int v) := by rw [hσ, z]; rfl
      rw [z2]
      exact iteT ⟨_, rfl, ru, _, rfl, .inl ⟨_, .inr "store", .inl h1, rfl, rfl⟩, _, rfl, sL, _, _, _, rfl, rfl, SqL.of h2, h3, _, rfl, st, _, rfl, .inl ⟨ks, .inr x, .inl hks, rfl, z2.symm⟩, q⟩
    | none =>
      rw [z] at hev
      have z2 : valV ks (.inr x) = none := by rw [hσ, z]; rfl
      have z3 : valV kc (.inr x) = some (.int v) := by rw [g4]; exact congrArg (Option.map V.int) hev
      rw [z2]
      exact iteF ⟨_, rfl, ru, _, rfl, .inl ⟨_, .inr "tables", .inl h1, rfl, rfl⟩, tb, _, rfl, .inl ⟨_, .inr "constants", .inl g1, rfl, rfl⟩, _, rfl, c, _, rfl, .inl ⟨kc, .inr x, .inl g2, rfl, z3.symm⟩, q⟩
theorem sc_law_joint_does : FnScope ["_law_run", "_law_side", "_law_statement_here", "_law_item", "_law_deed", "_law_things", "_law_store", "_law_by", "_law_done", "_law_source_here"] ["_law_run", "_law_side", "_law_statement_here", "_law_item", "_law_deed"] (defScope s_law_joint_does) := ⟨rfl, rfl, rfl, by decide +kernel, rfl, by decide +kernel, by decide +kernel⟩
theorem ok_law_joint_does (T : Txt K mg) : Cal P w K mg base (2) "_law_joint_does" (spDoes K) := by
  refine cal_of T.d_law_joint_does T.g_law_joint_does sc_law_joint_does (fun _ _ _ _ _ _ us hl => match us, hl with | [_, _, _, _, _], _ => rfl) (fun vs H Q E h => ?_) (fun cdv A outer s H vs Q E hr h => ?_)
  · obtain ⟨ru, st, cur, oL, side, v, s, it, U, res, σ, σ', B, ys, ds, ds', G, rfl, hGH, hR, hv, hs, hwf, hst, hB, Gst, Gcur, hcur, hds, hdl, hstep, k⟩ := h
    rfl
  obtain ⟨ru, st, cur, oL, side, v, s, it, U, res, σ, σ', B, ys, ds, ds', G, rfl, hGH, hR, hv, hs, hwf, hst, hB, Gst, Gcur, hcur, hds, hdl, hstep, k⟩ := h
  have c_law_joint_thing := ok_law_joint_thing (P := P) (w := w) (base := base) T
  have sc := sc_law_joint_does
  have hu := hu_of hr
  refine ⟨_, (pss_cons (pset 5 sc.nd (pbt call_tuple_of T.b_tuple v_tuple (pa_cons (pe_lc (own := [("_law_source_here", 9)]) (g := gName 9) (tt := tYes) rfl sc.nd (pi_tup (pe_slice sl_tupA (pv 2) (po_some pe_int) po_none)) (blkOk_by (N := ["_law_run", "_law_side", "_law_statement_here", "_law_item", "_law_deed", "_law_things", "_law_store", "_law_by", "_law_done", "_law_source_here"]) (sc := defScope s_law_joint_does) (by decide +kernel)) (fun _ _ _ _ _ => (pgn 9 sc.nd)) (fun _ _ _ _ _ => pts_nil) (fun _ _ _ _ _ => (pc c_law_joint_thing hr (by decide) (pa_cons (pv 0) (pa_cons (pv 1) (pa_cons (pv 9) (pa_cons (pv 3) pa_nil))))))) pa_nil)))
      (pss_cons (pset 6 sc.nd (pe_ix ix_list (pe_dget hu (pv 0) pe_str (fun _ _ => rfl)) (pv 1) (fun _ _ => rfl)))
      (pss_one (ps_if (pt_cmpR op_eq (pe_ix ix_tup (pv 2) pe_int (fun _ _ => rfl)) pe_str (nomark _)) (pss_one (ps_dput hu (pv 6) (pe_ix ix_tup (pv 2) pe_int (fun _ _ => rfl)) (pc c_law_joint_thing hr (by decide) (pa_cons (pv 0) (pa_cons (pv 1) (pa_cons (pe_ix ix_tup (pv 2) pe_int (fun _ _ => rfl)) (pa_cons (pv 3) pa_nil))))) rfl)) (pss_one (ps_if (pt_cmpR op_eq (pe_ix ix_tup (pv 2) pe_int (fun _ _ => rfl)) pe_str (nomark _)) (pss_cons (pset 7 sc.nd (pe_dget hu (pe_dget hu (pe_dget hu (pv 0) pe_str (fun _ _ => rfl)) pe_str (fun _ _ => rfl)) (pe_ix ix_tup (pv 2) pe_int (fun _ _ => rfl)) (fun _ _ => rfl)))
          (pss_one (ps_dput hu (pv 6) (pe_ix ix_tup (pv 2) pe_int (fun _ _ => rfl)) (pe_dget hu (pv 7) (pv 5) (fun _ _ => rfl)) rfl))) (pss_one (ps_if (PW.pt (pw_and (pt_cmpR op_eq (pv 1) pe_int (nomark _)) (pw_and1 (pt_cmpR op_eq (pe_ix ix_tup (pv 2) pe_int (fun _ _ => rfl)) (pv 4) (nomark _))))) (pss_one (ps_never)) (pss_cons (pset 8 sc.nd (pe_ix ix_list (pe_dget hu (pv 0) pe_str (fun _ _ => rfl)) (pe_un un_neg pe_int) (fun _ _ => rfl)))
            (pss_cons (ps_expr (pe_bm PySem.F.plainAttrs_list PySem.F.slot_list_append PySem.F.type_list_append mt_append (pv 8) (pa_cons (pe_tup (pa_cons (pe_ix ix_tup (pv 2) pe_int (fun _ _ => rfl)) (pa_cons (pv 5) pa_nil))) pa_nil)))
            (pss_one (ps_if (pt_cmpR op_notN (pe_ix ix_tup (pv 2) pe_int (fun _ _ => rfl)) pe_non (nomark _)) (pss_one (ps_dput hu (pv 6) (pe_ix ix_tup (pv 2) pe_int (fun _ _ => rfl)) (pe_ix ix_list (pe_op op_cat (pe_dget hu (pv 0) pe_str (fun _ _ => rfl)) (pe_op op_rep (pe_lst (pa_cons pe_int pa_nil)) pe_int)) (pe_op op_sub (pb call_len T.b_len v_len (pa_cons (pv 8) pa_nil)) pe_int) (fun _ _ => rfl)) rfl)) pss_nil)))))))))))), ?_⟩
  obtain ⟨ks0, hks0, hkl0, hkσ0⟩ := id hst
  have ncs : cur ≠ st := fun z => by rw [z, hks0] at hcur; cases hcur
  have hGF : Same G (hid cur (hid st H)) := hid_of Gcur (hid_of Gst hGH)
  have hFH : Same (hid cur (hid st H)) H := hid_in.trans hid_in
  have Fst : hid cur (hid st H) st = none := hid_none hid_at
  have Fcur : hid cur (hid st H) cur = none := hid_at
  generalize hid cur (hid st H) = F at *
  have hRF := hR.up hGF
  obtain ⟨p, rfl, hp⟩ := stm_pln hs (hv.up hGF)
  obtain ⟨vs, hvs⟩ := step_args hstep
  have hyl := wf_args hwf
  obtain ⟨vl, vat⟩ := evs_len hvs
  have ylen : ys.length = ds.length := by rw [dpa_len hds, List.length_map]
  refine ⟨_, rfl, _, rfl, ?_⟩
  unfold tNoPart
  refine slA_any (hFH.tup hp) fun r1 H10 s10 h10 => ?_
  rw [show cutV (.str s.w0 :: s.u1 :: .str s.u2 :: s.args.map V.str) (some 3) none = (.str s.w0 :: s.u1 :: .str s.u2 :: s.args.map V.str).drop 3 from cut_from _ 3 (by simp)] at h10
  replace h10 : SqT K H10 r1 (s.args.map V.str) := h10
  refine ⟨r1, rfl, ⟨_, h10⟩, fun D hD => ?_⟩
  refine lc_map (walk_tup (xs := s.args.map V.str)) hD (by rw [List.length_map]; omega) (fun i => .int (vs.getD i 0)) (fun X e => e.tup h10) ?_ ?_
  · rintro i x' H3 H4 hi' e3 ⟨rfl, hx⟩ R kR
    rw [List.length_map] at hi'
    obtain ⟨v, hv1, hv2⟩ := vat i hi'
    have hx' : x' = .str s.args[i] := by
      rw [List.getElem?_map, List.getElem?_eq_getElem hi'] at hx
      exact (Option.some.inj hx).symm
    subst hx'
    have e13 := s10.trans e3
    refine ⟨rfl, _, rfl, _, rfl, _, rfl, _, rfl, ru, st, cur, oL, side, _, it, U, res, σ, B, v, rfl, hRF.up (hFH.trans e13), hst.up e13, hv1, ?_⟩
    have q := kR _ (Same.refl _)
    rw [List.getD_eq_getElem?_getD, hv2] at q
    exact q
  intro H11 e11 hl11
  rw [List.length_map, range_int vs vl] at hl11
  have e10 := s10.trans (e11.trans hid_in)
  refine ⟨D, _, rfl, .inl ⟨SqL.of hl11, fun pv hpv => ?_⟩⟩
  have e12 := e10.trans (Same.new (o := .tup (vs.map V.int)) hpv)
  have pv12 : upd H11 pv (.tup (vs.map V.int)) pv = some (.tup (vs.map V.int)) := upd_same
  generalize upd H11 pv (.tup (vs.map V.int)) = H12 at *
  have S12 := hFH.trans e12
  have hR12 := hRF.up S12
  obtain ⟨lp, tb, sL, dL, rL, a, b, olds, h1, h2, h3, h4, h5, h6, h7⟩ := id hR12
  obtain ⟨cA, fA, tA, kcA, tb1, _, ⟨kf, hf1, hf2⟩, _, _⟩ := id h7
  have st12 := hst.up e12
  have cur12 := e12 _ _ hcur
  have dd12 := hds.up e12.t.tups
  have hp12 := S12.tup hp
  refine ⟨_, rfl, ru, _, rfl, .inl ⟨_, .inr "store", .inl h1, rfl, rfl⟩, _, rfl, sL, _, _, _, rfl, rfl, SqL.of h2, h3, ?_⟩
  obtain ⟨ks, hks, hkl, hkσ⟩ := id st12
  have zks : ∀ {x : Str} {u : Int}, TSame H12 (upd H12 st (.dK (putK ks (.inr x) (.int u)))) := fun {x u} => (TSame.refl H12).mut (fun zs z => by rw [hks] at z; cases z)
  cases s with
  | leave => cases hs
  | ite t a b => cases hs
  | put x y =>
    rw [stepS] at hstep
    obtain ⟨u, hu1, hstep⟩ := Option.bind_eq_some_iff.mp hstep
    cases hstep
    refine ⟨_, rfl, _, _, _, _, rfl, rfl, hp12, atI_nat (j := 0) rfl, rfl, _, rfl, iteT ?_⟩
    refine ⟨_, rfl, _, rfl, _, rfl, _, _, _, _, rfl, rfl, hp12, atI_nat (j := 2) rfl, _, rfl, ru, st, cur, oL, side, y, it, U, res, σ, B, u, rfl, hR12, st12, hu1, ?_⟩
    refine ⟨_, rfl, _, rfl, _, _, _, _, rfl, rfl, hp12, atI_nat (j := 1) rfl, st, _, rfl, DPut.k (k := .inr x) hks (Nat.lt_of_le_of_lt hkl (Nat.lt_of_le_of_lt (by omega : _ ≤ 6000) (by decide))), ?_⟩
    exact k _ ys (S12.mut Fst) (StoAt.put hkl hkσ) ((upd_ne ncs).trans cur12) (dd12.up zks.tups)
  | call x f zs =>
    rw [stepS] at hstep
    obtain ⟨vs', hvs', hstep⟩ := Option.bind_eq_some_iff.mp hstep
    obtain ⟨u, hu1, hstep⟩ := Option.bind_eq_some_iff.mp hstep
    cases hstep
    obtain rfl : vs' = vs := Option.some.inj (hvs'.symm.trans hvs)
    obtain ⟨dA, kd, q1, q2, q3⟩ := hf2 f vs' u hu1
    refine ⟨_, rfl, _, _, _, _, rfl, rfl, hp12, atI_nat (j := 0) rfl, rfl, _, rfl, iteF ?_⟩
    refine ⟨_, rfl, _, _, _, _, rfl, rfl, hp12, atI_nat (j := 0) rfl, rfl, _, rfl, iteT ?_⟩
    refine ⟨_, rfl, ru, _, rfl, .inl ⟨_, .inr "tables", .inl h1, rfl, rfl⟩, tb, _, rfl, .inl ⟨_, .inr "functions", .inl tb1, rfl, rfl⟩, _, rfl, _, _, _, _, rfl, rfl, hp12, atI_nat (j := 2) rfl, fA, _, rfl, .inl ⟨kf, .inr f, .inl hf1, rfl, q1.symm⟩, ?_⟩
    refine ⟨_, rfl, _, rfl, dA, _, rfl, .inr ⟨kd, vs'.map Sum.inl, pv, .inl q2, rfl, by rw [List.map_map]; exact pv12, q3.symm⟩, ?_⟩
    refine ⟨_, rfl, _, rfl, _, _, _, _, rfl, rfl, hp12, atI_nat (j := 1) rfl, st, _, rfl, DPut.k (k := .inr x) hks (Nat.lt_of_le_of_lt hkl (Nat.lt_of_le_of_lt (by omega : _ ≤ 6000) (by decide))), ?_⟩
    exact k _ ys (S12.mut Fst) (StoAt.put hkl hkσ) ((upd_ne ncs).trans cur12) (dd12.up zks.tups)
  | act x d zs =>
    rw [stepS] at hstep
    obtain ⟨vs', hvs', hstep⟩ := Option.bind_eq_some_iff.mp hstep
    obtain rfl : vs' = vs := Option.some.inj (hvs'.symm.trans hvs)
    cases hstep
    replace hp : SqT K F p (.str (.ofString "do") :: optVd x :: .str d :: zs.map V.str) := hp
    replace hp12 : SqT K H12 p (.str (.ofString "do") :: optVd x :: .str d :: zs.map V.str) := hp12
    refine ⟨_, rfl, _, _, _, _, rfl, rfl, hp12, atI_nat (j := 0) rfl, rfl, _, rfl, iteF ?_⟩
    refine ⟨_, rfl, _, _, _, _, rfl, rfl, hp12, atI_nat (j := 0) rfl, rfl, _, rfl, iteF ?_⟩
    apply use_rest (fun H13 => H13 = H12)
    · intro go
      refine ⟨_, rfl, rfl, _, rfl, ?_⟩
      refine ite2 (fun _ => ?_) (fun _ => iteF (go _ rfl))
      exact ⟨_, rfl, _, _, _, _, rfl, rfl, hp12, atI_nat (j := 2) rfl, _, rfl, rfl, _, rfl, iteF (go _ rfl)⟩
    rintro H13 rfl
    refine ⟨_, rfl, ru, _, rfl, .inl ⟨_, .inr "done", .inl h1, rfl, rfl⟩, _, rfl, dL, _, _, _, rfl, rfl, SqL.of h4, atI_last _ _, ?_⟩
    refine ⟨_, rfl, .inl ⟨rfl, _, SqL.of cur12⟩, _, rfl, _, _, _, _, rfl, rfl, hp12, atI_nat (j := 2) rfl, _, rfl, (by show 2 ≤ sizeLine; decide), fun pd hpd => ⟨cur, _, _, rfl, rfl, (Same.new hpd) _ _ cur12, Nat.lt_of_le_of_lt (by omega : ys.length ≤ 300) (by decide), ?_⟩⟩
    have e13 := Same.new (o := .tup [.str d, .ref pv]) hpd
    have pd13 : upd H13 pd (.tup [.str d, .ref pv]) pd = some (.tup [.str d, .ref pv]) := upd_same
    have pv13 := e13 _ _ pv12
    have S13 := S12.trans e13
    have cur13 := e13 _ _ cur12
    have st13 := st12.up e13
    have dd13 := dd12.up e13.t.tups
    generalize upd H13 pd (.tup [.str d, .ref pv]) = H14 at *
    have npd : pd ≠ cur := fun z => by rw [z, cur13] at pd13; cases pd13
    have npv : pv ≠ cur := fun z => by rw [z, cur13] at pv13; cases pv13
    have S14 : Same F (upd H14 cur (.lst (ys ++ [.ref pd]))) := S13.mut Fcur
    have dd14 : DpAll K (tups (upd H14 cur (.lst (ys ++ [.ref pd])))) (ys ++ [.ref pd]) ((ds ++ [(d, vs')]).map encD) := by
      rw [List.map_append]
      refine dpa_app (dd13.up (((TSame.refl H14).mut (fun zs z => by rw [cur13] at z; cases z)).tups)) (.cons ?_ .nil)
      exact .tup (SqT.of (tups_some ((upd_ne npd).trans pd13))) (.cons (.str _) (.cons (.tup (SqT.of (tups_some ((upd_ne npv).trans pv13))) (dpAll_ints _)) .nil))
    have st14 : StoAt (upd H14 cur (.lst (ys ++ [.ref pd]))) st σ B := by
      obtain ⟨ks, hks, z⟩ := st13
      exact ⟨ks, (upd_ne (Ne.symm ncs)).trans hks, z⟩
    have cur14 : upd H14 cur (.lst (ys ++ [.ref pd])) cur = some (.lst (ys ++ [.ref pd])) := upd_same
    generalize upd H14 cur (.lst (ys ++ [.ref pd])) = H15 at *
    have hp14 := S14.tup hp
    have hR14 := hRF.up S14
    have y14 : (ys ++ [V.ref pd]).length = ds.length + 1 := by rw [List.length_append, ylen]; rfl
    refine ⟨_, rfl, _, _, _, _, rfl, rfl, hp14, atI_nat (j := 1) rfl, rfl, _, rfl, ?_⟩
    cases x with
    | none =>
      refine iteF ?_
      exact k _ _ S14 (st14.le (by omega)) cur14 dd14
    | some x =>
      obtain ⟨lp', tb', sL', dL', rL', a', b', olds', m1, m2, m3, m4, m5, m6, m7⟩ := id hR14
      refine iteT ⟨_, rfl, ru, _, rfl, .inl ⟨_, .inr "results", .inl m1, rfl, rfl⟩, (by show 1 ≤ sizeLine; decide), fun a1 k1 => ⟨a1, 99, _, rfl, rfl, upd_same, by decide, by decide, (by show 99 ≤ sizeLine; decide), fun a2 k2 => ?_⟩⟩
      have fl : ((List.replicate (99 : Int).toNat [V.int 0]).flatten).length = 99 := by rw [flat_rep, List.length_replicate]; rfl
      have u2 := (Same.new (o := .lst [.int 0]) k1).trans (Same.new (o := .lst (List.replicate (99 : Int).toNat [V.int 0]).flatten) k2)
      refine ⟨rL', a2, _, _, rfl, rfl, u2 _ _ m5, upd_same, Nat.le_trans (by rw [List.length_map, fl]; omega : _ ≤ 1000) (by decide), fun a3 k3 => ?_⟩
      have u3 := u2.trans (Same.new (o := .lst (res.map V.int ++ (List.replicate (99 : Int).toNat [V.int 0]).flatten)) k3)
      have hat : atI (res.map V.int ++ (List.replicate (99 : Int).toNat [V.int 0]).flatten) ((((ys ++ [V.ref pd]).length : Nat) : Int) - 1) = some (.int (res.getD ds.length 0)) := by
        rw [y14, show (((ds.length + 1 : Nat) : Int)) - 1 = ((ds.length : Nat) : Int) by omega]
        exact atI_nat (pad_get _ _ _ (by show ds.length < res.length + 99; omega))
      refine ⟨_, rfl, _, _, rfl, .inl ⟨_, SqL.of (u3 _ _ cur14), rfl⟩, _, _, rfl, rfl, _, _, _, _, rfl, rfl, SqL.of upd_same, hat, ?_⟩
      obtain ⟨ks, hks, hkl, hkσ⟩ := id (st14.up u3)
      have S16 := S14.trans u3
      refine ⟨_, rfl, _, rfl, _, _, _, _, rfl, rfl, S16.tup hp, atI_nat (j := 1) rfl, st, _, rfl, DPut.k (k := .inr x) hks (Nat.lt_of_le_of_lt hkl (Nat.lt_of_le_of_lt (by omega : _ ≤ 6000) (by decide))), ?_⟩
      exact k _ _ (S16.mut Fst) (StoAt.put hkl hkσ) ((upd_ne ncs).trans (u3 _ _ cur14)) ((dd14.up u3.t.tups).up (((TSame.refl _).mut (fun zs z => by rw [hks] at z; cases z)).tups))
end
end K21
set_option Elab.async false
set_option linter.all false
set_option maxRecDepth 100000
set_option maxHeartbeats 1000000
namespace K21
open PySem PySem.Spec PyProof.Rows L2
theorem tst_data {U : Tab} {it : Option Int} {σ : Sto} {t : Tst} {b : Bool} (hb : tst U it σ t = some b) (hwf : tstWf t = true) : ∃ (w0 : Str) (ys : List Str) (h : Nat) (vs : List Int), encT t = .tuple ((w0 :: ys).map PyData.str) ∧
    ((w0 = "same" ∧ h = 1 ∧ ∃ a b', vs = [a, b'] ∧ b = decide (a = b')) ∨ (w0 ≠ "same" ∧ h = 2 ∧ ∃ p zs l, ys = p :: zs ∧ U.ts p = some l ∧ b = l.contains vs)) ∧ h ≤ (w0 :: ys).length ∧ ((w0 :: ys).drop h).length ≤ 2 ∧ evs U it σ ((w0 :: ys).drop h) = some vs := by
  cases t with
  | same y z =>
    rw [tst] at hb
    obtain ⟨a, e1, hb⟩ := Option.bind_eq_some_iff.mp hb
    obtain ⟨b', e2, hb⟩ := Option.bind_eq_some_iff.mp hb
    cases hb
    refine ⟨"same", [y, z], 1, [a, b'], rfl, .inl ⟨rfl, rfl, a, b', rfl, rfl⟩, by simp, by simp, ?_⟩
    show evs U it σ [y, z] = _
    rw [evs, e1, evs, e2, evs]
    rfl
  | ask p ys =>
    rw [tst] at hb
    obtain ⟨l, e1, hb⟩ := Option.bind_eq_some_iff.mp hb
    obtain ⟨vs, e2, hb⟩ := Option.bind_eq_some_iff.mp hb
    cases hb
    exact ⟨"ask", p :: ys, 2, vs, rfl, .inr ⟨by decide +kernel, rfl, p, ys, l, rfl, e1, rfl⟩, by simp, of_decide_eq_true hwf, e2⟩
theorem pln_w0 {s : Stm} (h : s.pln) : s.w0 ≠ Str.ofString "leave" ∧ s.w0 ≠ Str.ofString "if" := by
  cases s with
  | put x y => exact ⟨by show Str.ofString "put" ≠ _; decide +kernel, by show Str.ofString "put" ≠ _; decide +kernel⟩
  | call x f ys => exact ⟨by show Str.ofString "call" ≠ _; decide +kernel, by show Str.ofString "call" ≠ _; decide +kernel⟩
  | act x d ys => exact ⟨by show Str.ofString "do" ≠ _; decide +kernel, by show Str.ofString "do" ≠ _; decide +kernel⟩
  | leave => cases h
  | ite t a b => cases h
theorem use_restB {P : V → Hp → Prop} {G : Prop} (C : V → Hp → Prop) (h1 : (∀ r H1, C r H1 → P r H1) → G) (h2 : ∀ r H1, C r H1 → P r H1) : G := h1 h2
def spPartJ (K : PySem.W.Frag) : Sp := fun vs H Q _ => ∃ (ru st cur oL sl : Addr) (side : Int) (xs : List V) (ss : List Stm) (it : Option Int) (U : Tab) (res : List Int) (σ σ' : Sto) (B n : Nat) (ys os : List V) (ds ds' : List Deed) (l : Bool) (G : Hp) (j0 : Nat), vs = [.ref ru, .int side, .ref sl, itV it, .non] ∧ Same G H ∧ RunAt K G ru side st cur oL U res ∧
  G sl = some (.lst xs) ∧ DpAll K G xs (encL true ss) ∧ wfs ss = true ∧ max ss.length (mxs ss) ≤ 1000 ∧ StoAt H st σ B ∧ B ≤ 4000 ∧ n ≤ 50 ∧ G st = none ∧ G cur = none ∧ G oL = none ∧ oL ≠ cur ∧ H cur = some (.lst ys) ∧ DpAll K (tups H) ys (ds.map encD) ∧ ds.length + n ≤ 98 ∧
  H oL = some (.lst os) ∧ ixN os.length side = some j0 ∧ run U it res n ss σ ds = some (σ', ds', l) ∧ ∀ H' ys', Same (hid oL (hid cur (hid st H))) H' → StoAt H' st σ' (B + n) → H' cur = some (.lst ys') → DpAll K (tups H') ys' (ds'.map encD) → H' oL = some (.lst (if l = true then os.set j0 (.bl true) else os)) → Q .non H'
section
variable {P : Program} {w : World} {K : PySem.W.Frag} {mg : Str → Option Value} {base : Heap}
theorem sc_law_joint_part : FnScope ["_law_run", "_law_side", "_law_statements", "_law_item", "_law_deed", "_law_todo", "_law_statement_here", "_law_test_here", "_law_things", "_law_is_so", "_law_source_here"] ["_law_run", "_law_side", "_law_statements", "_law_item", "_law_deed"] (defScope s_law_joint_part) := ⟨rfl, rfl, rfl, by decide +kernel, rfl, by decide +kernel, by decide +kernel⟩
theorem ok_law_joint_part (T : Txt K mg) : Cal P w K mg base (3) "_law_joint_part" (spPartJ K) := by
  refine cal_of T.d_law_joint_part T.g_law_joint_part sc_law_joint_part (fun _ _ _ _ _ _ us hl => match us, hl with | [_, _, _, _, _], _ => rfl) (fun vs H Q E h => ?_) (fun cdv A outer s H vs Q E hr h => ?_)
  · obtain ⟨ru, st, cur, oL, sl, side, xs, ss, it, U, res, σ, σ', B, n, ys, os, ds, ds', l, G, j0, rfl, hGH, hR, hsl, hxs, hwf, hmx, hst, hB, hn, Gst, Gcur, GoL, noc, hcur, hds, hdl, hoL, hix, hrun, k⟩ := h
    rfl
  obtain ⟨ru, st, cur, oL, sl, side, xs, ss, it, U, res, σ, σ', B, n, ys, os, ds, ds', l, G, j0, rfl, hGH, hR, hsl, hxs, hwf, hmx, hst, hB, hn, Gst, Gcur, GoL, noc, hcur, hds, hdl, hoL, hix, hrun, k⟩ := h
  have c_law_joint_thing := ok_law_joint_thing (P := P) (w := w) (base := base) T
  have c_law_joint_does := ok_law_joint_does (P := P) (w := w) (base := base) T
  have sc := sc_law_joint_part
  have hu := hu_of hr
  refine ⟨_, (pss_cons (pset 5 sc.nd (pbt call_list_of T.b_list v_list (pa_cons (pv 2) pa_nil)))
      (pss_one (ps_while PassesOwn.never (pt_cmpR (op_neNil hr.units0) (pv 5) (pe_lst pa_nil) (nomark _)) (pss_cons (pset 6 sc.nd (pe_bm PySem.F.plainAttrs_list PySem.F.slot_list_pop PySem.F.type_list_pop mt_popAt (pv 5) (pa_cons pe_int pa_nil)))
        (pss_one (ps_if (pt_cmpR op_eq (pe_ix ix_tup (pv 6) pe_int (fun _ _ => rfl)) pe_str (nomark _)) (pss_one (ps_asg (pe_tup (pa_cons pe_bl (pa_cons (pe_lst pa_nil) pa_nil))) (pg_tup rfl (pgs_cons (pg_sub (pe_dget hu (pv 0) pe_str (fun _ _ => rfl)) (pv 1) set_list) (pgs_cons (pgn 5 sc.nd) pgs_nil))))) (pss_one (ps_if (pt_cmpR op_eq (pe_ix ix_tup (pv 6) pe_int (fun _ _ => rfl)) pe_str (nomark _)) (pss_cons (pset 7 sc.nd (pe_ix ix_tup (pv 6) pe_int (fun _ _ => rfl)))
            (pss_cons (ps_setLc (i := 8) (own := [("_law_source_here", 10)]) (g := gName 10) (tt := tYes) rfl sc.nd rfl rfl (sw_true rfl rfl rfl (by decide +kernel)) (pi_tup (pe_slice sl_tupA (pv 7) (po_some (pe_ifExp (pt_cmpR op_eq (pe_ix ix_tup (pv 7) pe_int (fun _ _ => rfl)) pe_str (nomark _)) pe_int pe_int)) po_none)) (blkOk_by (N := ["_law_run", "_law_side", "_law_statements", "_law_item", "_law_deed", "_law_todo", "_law_statement_here", "_law_test_here", "_law_things", "_law_is_so", "_law_source_here"]) (sc := defScope s_law_joint_part) (by decide +kernel)) (fun _ _ _ _ _ => (pgn 10 sc.nd)) (fun _ _ _ _ _ => pts_nil) (fun _ _ _ _ _ => (pc c_law_joint_thing hr (by decide) (pa_cons (pv 0) (pa_cons (pv 1) (pa_cons (pv 10) (pa_cons (pv 3) pa_nil)))))))
            (pss_cons (ps_if (pt_cmpR op_eq (pe_ix ix_tup (pv 7) pe_int (fun _ _ => rfl)) pe_str (nomark _)) (pss_one (pset 9 sc.nd (pe_cmpR op_eq (pe_ix ix_list (pv 8) pe_int (fun _ _ => rfl)) (pe_ix ix_list (pv 8) pe_int (fun _ _ => rfl)) (nomark _)))) (pss_one (pset 9 sc.nd (pe_cmpR (op_inD (hu65 hr)) (pbt call_tuple_of T.b_tuple v_tuple (pa_cons (pv 8) pa_nil)) (pe_dget hu (pe_dget hu (pe_dget hu (pv 0) pe_str (fun _ _ => rfl)) pe_str (fun _ _ => rfl)) (pe_ix ix_tup (pv 7) pe_int (fun _ _ => rfl)) (fun _ _ => rfl)) (by rfl)))))
            (pss_one (pset 5 sc.nd (pe_op op_cat (pbt call_list_of T.b_list v_list (pa_cons (pe_ix ix_tup (pv 6) (pe_ifExp (pt_val (pv 9)) pe_int pe_int) (fun _ _ => rfl)) pa_nil)) (pv 5))))))) (pss_one (ps_expr (pc c_law_joint_does hr (by decide) (pa_cons (pv 0) (pa_cons (pv 1) (pa_cons (pv 6) (pa_cons (pv 3) (pa_cons (pv 4) pa_nil)))))))))))))))), ?_⟩
  obtain ⟨ks0, hks0, hkl0, hkσ0⟩ := id hst
  have ncs : cur ≠ st := fun z => by rw [z, hks0] at hcur; cases hcur
  have nos : oL ≠ st := fun z => by rw [z, hks0] at hoL; cases hoL
  have hGF : Same G (hid oL (hid cur (hid st H))) := hid_of GoL (hid_of Gcur (hid_of Gst hGH))
  have hFH : Same (hid oL (hid cur (hid st H))) H := hid3_in
  obtain ⟨Fst, Fcur, FoL⟩ := hid3_n (H := H) (a := st) (b := cur) (c := oL)
  generalize hid oL (hid cur (hid st H)) = F at *
  have hRF := hR.up hGF
  refine ⟨_, rfl, sl, _, rfl, .inl (SqL.of (hGH _ _ hsl)), fun td htd => ?_⟩
  have e1 := Same.new (o := .lst xs) htd
  have Ftd : F td = none := hFH.free htd
  refine ⟨fun j σs H7 => ∃ (td : Addr) (x6 x7 x8 x9 : Option V) (xs7 : List V) (ss7 : List Stm) (σ7 : Sto) (ds7 : List Deed) (ys7 : List V), σs = [some (.ref ru), some (.int side), some (.ref sl), some (itV it), some .non, some (.ref td), x6, x7, x8, x9, none] ∧ Same F H7 ∧ F td = none ∧ td ≠ cur ∧ td ≠ oL ∧ H7 td = some (.lst xs7) ∧ xs7.length ≤ 1000 * (n + 1 - j) ∧
    DpAll K F xs7 (encL true ss7) ∧ wfs ss7 = true ∧ mxs ss7 ≤ 1000 ∧ StoAt H7 st σ7 (B + (n - j)) ∧ H7 cur = some (.lst ys7) ∧ DpAll K (tups H7) ys7 (ds7.map encD) ∧ ds7.length + j ≤ ds.length + n ∧ j ≤ n ∧ ((H7 oL = some (.lst os) ∧ run U it res j ss7 σ7 ds7 = some (σ', ds', l)) ∨ (xs7 = [] ∧ H7 oL = some (.lst (os.set j0 (.bl true))) ∧ σ7 = σ' ∧ ds7 = ds' ∧ l = true)), ⟨n, ?_⟩, ?_⟩
  · exact ⟨td, none, none, none, none, xs, ss, σ, ds, ys, rfl, hFH.trans e1, Ftd, nh hcur htd, nh hoL htd, upd_same, by rw [dpa_len hxs, encL_map, List.length_map]; omega, hxs.up hGF, hwf, by omega, (hst.up e1).le (by omega), e1 _ _ hcur, hds.up e1.t.tups, by omega, Nat.le_refl _, .inl ⟨e1 _ _ hoL, hrun⟩⟩
  · rintro j σs H7 ⟨td, x6, x7, x8, x9, xs7, ss7, σ7, ds7, ys7, rfl, s7, gtd, ntc, nto, l7, n7, d7, wf7, mx7, st7, cur7, dd7, len7, jn7, run7⟩
    refine ⟨_, rfl, (by show 0 ≤ sizeLine; decide), fun q hq => ⟨td, q, xs7, rfl, rfl, SqL.of ((Same.new hq) _ _ l7), SqL.of upd_same, _, rfl, ?_⟩⟩
    have u8 := Same.new (o := .lst []) hq
    replace s7 := s7.trans u8
    replace l7 := u8 _ _ l7
    replace st7 := st7.up u8
    replace cur7 := u8 _ _ cur7
    replace dd7 := dd7.up u8.t.tups
    replace run7 : (upd H7 q (.lst []) oL = some (.lst os) ∧ run U it res j ss7 σ7 ds7 = some (σ', ds', l)) ∨ (xs7 = [] ∧ upd H7 q (.lst []) oL = some (.lst (os.set j0 (.bl true))) ∧ σ7 = σ' ∧ ds7 = ds' ∧ l = true) := by
      rcases run7 with ⟨a, b⟩ | ⟨a, b, c⟩
      · exact .inl ⟨u8 _ _ a, b⟩
      · exact .inr ⟨a, u8 _ _ b, c⟩
    generalize upd H7 q (.lst []) = H8 at *
    cases xs7 with
    | nil =>
      refine iteF ?_
      rcases run7 with ⟨a, b⟩ | ⟨_, b, rfl, rfl, rfl⟩
      · cases ss7 with
        | cons s r =>
          obtain ⟨v, xr, e, _⟩ := dpa_consr d7
          cases e
        | nil =>
          cases j with
          | zero => rw [run] at b; cases b
          | succ j =>
            rw [run_nil] at b
            cases b
            exact k _ _ s7 (st7.le (by omega)) cur7 dd7 a
      · exact k _ _ s7 (st7.le (by omega)) cur7 dd7 b
    | cons v xr =>
      obtain ⟨oL7, runB⟩ : H8 oL = some (.lst os) ∧ run U it res j ss7 σ7 ds7 = some (σ', ds', l) := by
        rcases run7 with h | ⟨a, _⟩
        · exact h
        · cases a
      clear run7
      cases ss7 with
      | nil => cases d7
      | cons s r =>
      cases j with
      | zero => rw [run] at runB; cases runB
      | succ j =>
        obtain ⟨v', xr', e, dv, dr⟩ := dpa_consr d7
        cases e
        rw [wfs_cons] at wf7
        obtain ⟨wfs1, wfr⟩ := Bool.and_eq_true_iff.mp wf7
        rw [mxs_cons] at mx7
        refine iteT ⟨_, fun σ' H' h => h, ?_⟩
        refine ⟨_, rfl, .inl ⟨rfl, _, SqL.of l7⟩, td, _, 0, 0, _, rfl, rfl, l7, by decide, by decide, seq0 _, rfl, ?_⟩
        have ntds : td ≠ st := fun z => by
          obtain ⟨ks, hks, _⟩ := st7
          rw [z, hks] at l7
          cases l7
        have s9 : Same F (upd H8 td (.lst ((v :: xr).eraseIdx 0))) := s7.mut gtd
        have l9 : upd H8 td (.lst ((v :: xr).eraseIdx 0)) td = some (.lst xr) := upd_same
        have st9 : StoAt (upd H8 td (.lst ((v :: xr).eraseIdx 0))) st σ7 (B + (n - (j + 1))) := by
          obtain ⟨ks, hks, r⟩ := st7
          exact ⟨ks, (upd_ne (Ne.symm ntds)).trans hks, r⟩
        have cur9 : upd H8 td (.lst ((v :: xr).eraseIdx 0)) cur = some (.lst ys7) := (upd_ne (Ne.symm ntc)).trans cur7
        have oL9 : upd H8 td (.lst ((v :: xr).eraseIdx 0)) oL = some (.lst os) := (upd_ne (Ne.symm nto)).trans oL7
        have dd9 : DpAll K (tups (upd H8 td (.lst ((v :: xr).eraseIdx 0)))) ys7 (ds7.map encD) := dd7.up (((TSame.refl H8).mut (fun zs z => by rw [l7] at z; cases z)).tups)
        have n9 : xr.length ≤ 1000 * (n + 1 - (j + 1)) := by simp only [List.length_cons] at n7; omega
        generalize upd H8 td (.lst ((v :: xr).eraseIdx 0)) = H9 at *
        by_cases hpl : s.pln
        · rw [run_step hpl] at runB
          obtain ⟨⟨σ8, ds8⟩, hst8, run8⟩ := Option.bind_eq_some_iff.mp runB
          obtain ⟨p, rfl, hp⟩ := stm_pln hpl dv
          have hp9 := s9.tup hp
          obtain ⟨w1, w2⟩ := pln_w0 hpl
          have hl8 : ds8.length ≤ ds7.length + 1 := by
            cases s with
            | put x y =>
              rw [stepS] at hst8
              obtain ⟨_, _, h⟩ := Option.bind_eq_some_iff.mp hst8
              cases h
              omega
            | call x f zs =>
              rw [stepS] at hst8
              obtain ⟨_, _, h⟩ := Option.bind_eq_some_iff.mp hst8
              obtain ⟨_, _, h⟩ := Option.bind_eq_some_iff.mp h
              cases h
              omega
            | act x d zs =>
              rw [stepS] at hst8
              obtain ⟨_, _, h⟩ := Option.bind_eq_some_iff.mp hst8
              cases h
              rw [List.length_append]
              exact Nat.le_refl _
            | leave => cases hpl
            | ite t a b => cases hpl
          refine ⟨_, rfl, _, _, _, _, rfl, rfl, hp9, atI_nat (j := 0) rfl, rfl, _, rfl, ?_⟩
          rw [decide_eq_false (fun z => w1 (V.str.inj z))]
          refine iteF ⟨_, rfl, _, _, _, _, rfl, rfl, hp9, atI_nat (j := 0) rfl, rfl, _, rfl, ?_⟩
          rw [decide_eq_false (fun z => w2 (V.str.inj z))]
          refine iteF ⟨_, rfl, _, rfl, _, rfl, _, rfl, _, rfl, ?_⟩
          refine ⟨ru, st, cur, oL, side, .ref p, s, it, U, res, σ7, σ8, B + (n - (j + 1)), ys7, ds7, ds8, F, rfl, s9, hRF, dv, hpl, wfs1, st9, by omega, Fst, Fcur, cur9, dd9, by omega, hst8, fun H10 ys10 s10 st10 cur10 dd10 => ?_⟩
          have hF10 : Same F H10 := (hid_of Fcur (hid_of Fst s9)).trans s10
          have l10 : H10 td = some (.lst xr) := s10 _ _ (by rw [hid_ne ntc, hid_ne ntds]; exact l9)
          have oL10 : H10 oL = some (.lst os) := s10 _ _ (by rw [hid_ne noc, hid_ne nos]; exact oL9)
          exact ⟨j, Nat.lt_succ_self _, td, _, _, _, _, xr, r, σ8, ds8, ys10, rfl, hF10, gtd, ntc, nto, l10, by omega, dr, wfr, by omega, st10.le (by omega), cur10, dd10, by omega, by omega, .inl ⟨oL10, run8⟩⟩
        · cases s with
          | put x y => exact absurd trivial hpl
          | call x f zs => exact absurd trivial hpl
          | act x d zs => exact absurd trivial hpl
          | leave =>
            obtain ⟨p, rfl, hp⟩ := stm_leave dv
            have hp9 := s9.tup hp
            rw [run_leave] at runB
            obtain ⟨r1, r2⟩ := Prod.mk.inj (Option.some.inj runB)
            obtain ⟨r2, r3⟩ := Prod.mk.inj r2
            refine ⟨_, rfl, _, _, _, _, rfl, rfl, hp9, atI_nat (j := 0) rfl, rfl, _, rfl, iteT ?_⟩
            refine ⟨(by show 0 ≤ sizeLine; decide), fun a1 k1 => ⟨(by show 2 ≤ sizeLine; decide), fun a2 k2 => ?_⟩⟩
            have v2 := (Same.new (o := .lst []) k1).trans (Same.new (o := .tup [.bl true, .ref a1]) k2)
            have w1 := (Same.new (o := .tup [.bl true, .ref a1]) k2) _ _ (upd_same (H := H9) (a := a1) (o := .lst []))
            have w2 : upd (upd H9 a1 (.lst [])) a2 (.tup [.bl true, .ref a1]) a2 = some (.tup [.bl true, .ref a1]) := upd_same
            have n1c : a1 ≠ cur := nh cur9 k1
            have n1o : a1 ≠ oL := nh oL9 k1
            have Fa1 : F a1 = none := s9.free k1
            have S11 := s9.trans v2
            have st11 := st9.up v2
            have cur11 := v2 _ _ cur9
            have oL11 := v2 _ _ oL9
            have dd11 := dd9.up v2.t.tups
            generalize upd (upd H9 a1 (.lst [])) a2 (.tup [.bl true, .ref a1]) = H11 at *
            obtain ⟨lp, tb, sL, dL, rL, a, b, olds, h1, _⟩ := id (hRF.up S11)
            refine ⟨a2, _, rfl, SqT.of w2, rfl, _, _, rfl, _, rfl, ru, _, rfl, .inl ⟨_, .inr "out", .inl h1, rfl, rfl⟩, _, rfl, oL, os, side, j0, rfl, rfl, oL11, hix, _, _, rfl, rfl, ?_⟩
            refine ⟨j, Nat.lt_succ_self _, a1, _, _, _, _, [], [], σ7, ds7, ys7, rfl, S11.mut FoL, Fa1, n1c, n1o, (upd_ne n1o).trans w1, Nat.zero_le _, (by rw [encL]; exact .nil), rfl, by rw [mxs_nil]; omega, ?_, (upd_ne (Ne.symm noc)).trans cur11, dd11.up (((TSame.refl _).mut (fun zs z => by rw [oL11] at z; cases z)).tups), by omega, by omega, .inr ⟨rfl, upd_same, r1, r2, r3.symm⟩⟩
            obtain ⟨ks, z1, z2, z3⟩ := st11
            exact ⟨ks, (upd_ne (Ne.symm nos)).trans z1, by omega, z3⟩
          | ite t a b =>
            obtain ⟨p, tv, av, bv, rfl, hp, htv, hav, hbv⟩ := stm_ite dv
            rw [run_ite] at runB
            obtain ⟨c, hc, runB⟩ := Option.bind_eq_some_iff.mp runB
            rw [Stm.wf] at wfs1
            obtain ⟨wft, wfab⟩ := Bool.and_eq_true_iff.mp wfs1
            obtain ⟨wfa, wfb⟩ := Bool.and_eq_true_iff.mp wfab
            rw [mx_ite] at mx7
            obtain ⟨w0, zs, h, vs, et, hwd, hle, hl2, hvs⟩ := tst_data hc wft
            obtain ⟨vl, vat⟩ := evs_len hvs
            have hp9 := s9.tup hp
            rw [et] at htv
            obtain ⟨ta, txs, rfl, hta, htxs⟩ := dp_tup htv
            cases dpAll_strs_inv htxs
            refine ⟨_, rfl, _, _, _, _, rfl, rfl, hp9, atI_nat (j := 0) rfl, rfl, _, rfl, iteF ?_⟩
            refine ⟨_, rfl, _, _, _, _, rfl, rfl, hp9, atI_nat (j := 0) rfl, rfl, _, rfl, iteT ?_⟩
            refine ⟨_, rfl, _, _, _, _, rfl, rfl, hp9, atI_nat (j := 1) rfl, ?_⟩
            refine ⟨_, rfl, _, rfl, _, _, _, _, rfl, rfl, s9.tup hta, atI_nat (j := 0) rfl, rfl, _, rfl, ?_⟩
            apply use_rest2 (fun r H1 => Same H9 H1 ∧ SqT K H1 r (((w0 :: zs).drop h).map V.str))
            · intro go
              rcases id hwd with ⟨e1, eh, _⟩ | ⟨e1, eh, _⟩
              · rw [decide_eq_true (congrArg V.str e1)]
                refine iteT ⟨_, rfl, ?_⟩
                unfold tNoPart
                refine slA_any (s9.tup hta) fun r H1 s1 h1 => ?_
                rw [show cutV ((w0 :: zs).map V.str) (some 1) none = ((w0 :: zs).map V.str).drop 1 from cut_from _ 1 (by simp), ← List.map_drop] at h1
                exact go r H1 ⟨s1, by rw [eh]; exact h1⟩
              · rw [decide_eq_false (fun z => e1 (V.str.inj z))]
                refine iteF ⟨_, rfl, ?_⟩
                unfold tNoPart
                refine slA_any (s9.tup hta) fun r H1 s1 h1 => ?_
                rw [show cutV ((w0 :: zs).map V.str) (some 2) none = ((w0 :: zs).map V.str).drop 2 from cut_from _ 2 (by rw [List.length_map]; omega), ← List.map_drop] at h1
                exact go r H1 ⟨s1, by rw [eh]; exact h1⟩
            rintro rr H10 ⟨s10, h10⟩
            refine ⟨rr, rfl, ⟨_, h10⟩, fun D hD => ?_⟩
            refine lc_map (walk_tup (xs := ((w0 :: zs).drop h).map V.str)) hD (by rw [List.length_map]; omega) (fun i => .int (vs.getD i 0)) (fun X e => e.tup h10) ?_ ?_
            · rintro i x H3 H4 hi' e3 ⟨rfl, hx⟩ R kR
              rw [List.length_map] at hi'
              obtain ⟨v, hv1, hv2⟩ := vat i hi'
              have hx' : x = .str (((w0 :: zs).drop h)[i]) := by
                rw [List.getElem?_map, List.getElem?_eq_getElem hi'] at hx
                exact (Option.some.inj hx).symm
              subst hx'
              have e13 := s10.trans e3
              refine ⟨rfl, _, rfl, _, rfl, _, rfl, _, rfl, ru, st, cur, oL, side, _, it, U, res, σ7, _, v, rfl, hRF.up (s9.trans e13), st9.up e13, hv1, ?_⟩
              have q := kR _ (Same.refl _)
              rw [List.getD_eq_getElem?_getD, hv2] at q
              exact q
            intro H11 e11 hl11
            rw [List.length_map, range_int vs vl] at hl11
            have e911 := s10.trans (e11.trans hid_in)
            apply use_restB (fun b H15 => b = .bl c ∧ Same H11 H15)
            · intro go
              refine ⟨_, rfl, _, _, _, _, rfl, rfl, (s9.trans e911).tup hta, atI_nat (j := 0) rfl, rfl, _, rfl, ?_⟩
              rcases id hwd with ⟨e1, eh, va, vb, ev, ec⟩ | ⟨e1, eh, p', zs', l', ez, hl', ec⟩
              · rw [decide_eq_true (congrArg V.str e1)]
                have hl12 := hl11
                rw [ev] at hl12
                refine iteT ⟨_, rfl, _, _, _, V.int va, rfl, rfl, SqL.of hl12, atI_nat (j := 0) rfl, _, rfl, _, _, _, V.int vb, rfl, rfl, SqL.of hl12, atI_nat (j := 1) rfl, rfl, ?_⟩
                have hb : V.bl (decide (V.int va = V.int vb)) = V.bl c := by rw [ec]; by_cases z : va = vb <;> simp [z]
                generalize V.bl (decide (V.int va = V.int vb)) = bv at hb ⊢
                exact go bv H11 ⟨hb, Same.refl _⟩
              · rw [decide_eq_false (fun z => e1 (V.str.inj z))]
                obtain ⟨lp, tb, sL, dL, rL, a', b', olds, h1, h2, h3, h4, h5, h6, h7⟩ := id (hRF.up (s9.trans e911))
                refine iteF ⟨_, rfl, D, _, rfl, .inl ⟨SqL.of hl11, fun pv hpv => ?_⟩⟩
                have e12 := Same.new (o := .tup (vs.map V.int)) hpv
                obtain ⟨cA, fA, tA, kcA, tb1, _, _, ⟨kt, ht1, ht2⟩, _⟩ := id (h7.up e12)
                obtain ⟨vv, hvv, dvv⟩ := ht2 p' l' hl'
                have hta12 := (s9.trans (e911.trans e12)).tup hta
                rw [ez] at hta12
                refine ⟨_, rfl, ru, _, rfl, .inl ⟨_, .inr "tables", .inl (e12 _ _ h1), rfl, rfl⟩, tb, _, rfl, .inl ⟨_, .inr "tests", .inl tb1, rfl, rfl⟩, _, rfl, _, _, _, _, rfl, rfl, hta12, atI_nat (j := 1) rfl, tA, vv, rfl, .inl ⟨kt, .inr p', .inl ht1, rfl, hvv.symm⟩, ?_⟩
                refine ⟨encI vs, l'.map encI, .tup (SqT.of upd_same) (dpAll_ints _), dvv, shaped_int _, shaped_ints _, ?_⟩
                rw [any_ints]
                have hb : V.bl (l'.contains vs) = V.bl c := by rw [ec]
                generalize V.bl (l'.contains vs) = bv at hb ⊢
                generalize upd H11 pv (.tup (vs.map V.int)) = H12 at *
                exact go bv H12 ⟨hb, e12⟩
            rintro _ H15 ⟨rfl, e15⟩
            have e915 := e911.trans e15
            have S15 := s9.trans e915
            have st15 := st9.up e915
            have cur15 := e915 _ _ cur9
            have oL15 := e915 _ _ oL9
            have dd15 := dd9.up e915.t.tups
            have l15 := e915 _ _ l9
            refine ⟨_, rfl, _, rfl, c, rfl, ?_⟩
            cases c with
            | true =>
              obtain ⟨pa, as, rfl, hpa, has⟩ := dp_lst (show Dp K F _ (.list (encL true a)) from hav)
              have hla : as.length = a.length := by rw [dpa_len has, encL_map, List.length_map]
              refine iteT ⟨_, _, _, _, rfl, rfl, S15.tup hp, atI_nat (j := 2) rfl, pa, _, rfl, .inl (S15.seq hpa), fun la hla' => ⟨_, rfl, la, td, _, _, rfl, rfl, upd_same, (Same.new hla') _ _ l15, Nat.le_trans (by show as.length + xr.length ≤ 1000 * 202; omega) (by decide), fun t2 ht2 => ?_⟩⟩
              have u16 := (Same.new (o := .lst as) hla').trans (Same.new (o := .lst (as ++ xr)) ht2)
              have F2 : F t2 = none := (S15.trans (Same.new (o := .lst as) hla')).free ht2
              have n2 : t2 ≠ cur := nh ((Same.new (o := .lst as) hla') _ _ cur15) ht2
              have n3 : t2 ≠ oL := nh ((Same.new (o := .lst as) hla') _ _ oL15) ht2
              refine ⟨j, Nat.lt_succ_self _, t2, _, _, _, _, as ++ xr, a ++ r, σ7, ds7, ys7, rfl, S15.trans u16, F2, n2, n3, upd_same, by rw [List.length_append]; omega, ?_, by rw [wfs_app, wfa, wfr]; rfl, by rw [mxs_app]; omega, (st15.up u16).le (by omega), u16 _ _ cur15, dd15.up u16.t.tups, by omega, by omega, .inl ⟨u16 _ _ oL15, runB⟩⟩
              rw [encL_map, List.map_append, ← encL_map, ← encL_map]
              exact dpa_app has dr
            | false =>
              obtain ⟨pa, as, rfl, hpa, has⟩ := dp_lst (show Dp K F _ (.list (encL true b)) from hbv)
              have hla : as.length = b.length := by rw [dpa_len has, encL_map, List.length_map]
              refine iteF ⟨_, _, _, _, rfl, rfl, S15.tup hp, atI_nat (j := 3) rfl, pa, _, rfl, .inl (S15.seq hpa), fun la hla' => ⟨_, rfl, la, td, _, _, rfl, rfl, upd_same, (Same.new hla') _ _ l15, Nat.le_trans (by show as.length + xr.length ≤ 1000 * 202; omega) (by decide), fun t2 ht2 => ?_⟩⟩
              have u16 := (Same.new (o := .lst as) hla').trans (Same.new (o := .lst (as ++ xr)) ht2)
              have F2 : F t2 = none := (S15.trans (Same.new (o := .lst as) hla')).free ht2
              have n2 : t2 ≠ cur := nh ((Same.new (o := .lst as) hla') _ _ cur15) ht2
              have n3 : t2 ≠ oL := nh ((Same.new (o := .lst as) hla') _ _ oL15) ht2
              refine ⟨j, Nat.lt_succ_self _, t2, _, _, _, _, as ++ xr, b ++ r, σ7, ds7, ys7, rfl, S15.trans u16, F2, n2, n3, upd_same, by rw [List.length_append]; omega, ?_, by rw [wfs_app, wfb, wfr]; rfl, by rw [mxs_app]; omega, (st15.up u16).le (by omega), u16 _ _ cur15, dd15.up u16.t.tups, by omega, by omega, .inl ⟨u16 _ _ oL15, runB⟩⟩
              rw [encL_map, List.map_append, ← encL_map, ← encL_map]
              exact dpa_app has dr
end
end K21
set_option Elab.async false
set_option linter.all false
set_option maxRecDepth 100000
set_option maxHeartbeats 1000000
namespace K21
open PySem PySem.Spec PyProof.Rows L2
/-! ### several addresses hidden -/
def hidL (L : List Addr) (H : Hp) : Hp := fun a => if a ∈ L then none else H a
theorem hidL_in {L : List Addr} {H : Hp} : Same (hidL L H) H := fun b u q => by
  unfold hidL at q
  split at q
  · cases q
  · exact q
theorem hidL_n {L : List Addr} {H : Hp} {a : Addr} (h : a ∈ L) : hidL L H a = none := if_pos h
theorem hidL_ne {L : List Addr} {H : Hp} {a : Addr} (h : a ∉ L) : hidL L H a = H a := if_neg h
theorem hidL_of {L : List Addr} {G H : Hp} (h : ∀ a ∈ L, G a = none) (e : Same G H) : Same G (hidL L H) := fun b u q => by
  by_cases z : b ∈ L
  · rw [h b z] at q; cases q
  · rw [hidL_ne z]; exact e b u q
theorem hidL_tups {L : List Addr} {H : Hp} (h : ∀ a ∈ L, ∀ xs, H a ≠ some (.tup xs)) : Same (tups H) (hidL L H) := fun b u q => by
  obtain ⟨ys, e, hz⟩ := tups_inv q
  rw [e, hidL_ne (fun z => h b z ys hz)]
  exact hz
theorem hidL_none {L : List Addr} {H : Hp} {a : Addr} (h : H a = none) : hidL L H a = none := by
  by_cases z : a ∈ L
  · exact hidL_n z
  · rw [hidL_ne z, h]
/-! ### the joint run -/
def runK (lp tb : V) (sL oL dL rL : Addr) : List (Key × V) := [(.inr "loops", lp), (.inr "tables", tb), (.inr "store", .ref sL), (.inr "out", .ref oL), (.inr "done", .ref dL), (.inr "results", .ref rL)]
def spFresh (K : PySem.W.Frag) : Sp := fun vs H Q _ => ∃ (lp tb : V), vs = [lp, tb] ∧ ∀ ru sL oL dL rL a b H', Same H H' → (H ru = none ∧ H sL = none ∧ H oL = none ∧ H dL = none ∧ H a = none ∧ H b = none) → (a ≠ b ∧ a ≠ ru ∧ b ≠ ru ∧ oL ≠ sL ∧ oL ≠ dL ∧ sL ≠ dL) →
  H' ru = some (.dK (runK lp tb sL oL dL rL)) → H' sL = some (.lst [.ref a, .ref b]) → H' oL = some (.lst [.bl false, .bl false]) → H' dL = some (.lst []) → H' a = some (.dK []) → H' b = some (.dK []) → Q (.ref ru) H'
def secW : Sec → Str
  | .start => "start" | .turn _ => "turn" | .fin => "end"
def secI : Sec → Option Int
  | .turn i => some i | _ => none
def itD : Option Int → PyData
  | none => .none | some i => .int i
def encS (s : Sec) : PyData := .tuple [.str (secW s), itD (secI s)]
theorem dp_itD {K : PySem.W.Frag} {H : Hp} {v : V} {o : Option Int} (h : Dp K H v (itD o)) : v = itV o := by
  cases o with
  | none => cases h; rfl
  | some i => cases h; rfl
theorem encS_at {K : PySem.W.Frag} {H : Hp} {v : V} {s : Sec} (h : Dp K H v (encS s)) : ∃ p, v = .ref p ∧ SqT K H p [.str (secW s), itV (secI s)] := by
  unfold encS at h
  obtain ⟨p, us, rfl, hp, hu⟩ := dp_tup h
  obtain ⟨u0, r0, rfl, h0, hr0⟩ := dpa_cons hu
  obtain ⟨u1, r1, rfl, h1, hr1⟩ := dpa_cons hr0
  cases hr1
  cases h0
  cases dp_itD h1
  exact ⟨p, rfl, hp⟩
def allOf (r0 : List Int) (turns : List (Int × List Int)) (re : List Int) : List (Sec × List Int) := (.start, r0) :: secsOf turns re
theorem allOf_snd (r0 : List Int) (turns : List (Int × List Int)) (re : List Int) : (allOf r0 turns re).map Prod.snd = ressOf r0 turns re := by
  unfold allOf secsOf ressOf
  rw [List.map_cons, List.map_append, List.map_map]
  rfl
theorem allOf_len (r0 : List Int) (turns : List (Int × List Int)) (re : List Int) : (allOf r0 turns re).length = turns.length + 2 := by
  unfold allOf secsOf
  simp
def spJoint (K : PySem.W.Frag) : Sp := fun vs H Q _ => ∃ (lp tb il rl d1 d2 : Addr) (L1 L2 : Lp) (U : Tab) (r0 re : List Int) (turns : List (Int × List Int)) (outs : List (List Deed)), vs = [.ref lp, .ref tb, .ref il, .ref rl, .non] ∧ SqT K H lp [.ref d1, .ref d2] ∧ LoopD K H d1 true L1 ∧ LoopD K H d2 true L2 ∧ TabAt K H tb U ∧
  H il = some (.lst ((turns.map Prod.fst).map V.int)) ∧ turns.length ≤ 10 ∧ RsAt H rl (ressOf r0 turns re) ∧ JRun U L1 L2 (allOf r0 turns re) ⟨emp, emp, false, false⟩ outs ∧ ∀ H' v, Same H H' → Dp K H' v (.list (outs.map encO)) → Q v H'
theorem hidL_mono {L : List Addr} {H H' : Hp} (e : Same H H') : Same (hidL L H) (hidL L H') := hidL_of (fun a h => hidL_n h) (hidL_in.trans e)
theorem runK_put {lp tb : V} {sL oL dL rL nr : Addr} : putK (runK lp tb sL oL dL rL) (.inr "results") (.ref nr) = runK lp tb sL oL dL nr := rfl
theorem run_len {U : Tab} {it : Option Int} {res : List Int} : ∀ (n : Nat) (ss : List Stm) (σ : Sto) (ds : List Deed) (p : Sto × List Deed × Bool), run U it res n ss σ ds = some p → p.2.1.length ≤ ds.length + n
  | 0, ss, σ, ds, p, h => by rw [run] at h; cases h
  | n + 1, [], σ, ds, p, h => by rw [run_nil] at h; cases h; show ds.length ≤ _; omega
  | n + 1, s :: r, σ, ds, p, h => by
    by_cases hs : s.pln
    · rw [run_step hs] at h
      obtain ⟨⟨σ2, ds2⟩, h1, h2⟩ := Option.bind_eq_some_iff.mp h
      have q := run_len n r σ2 ds2 p h2
      have q2 : ds2.length ≤ ds.length + 1 := by
        cases s with
        | put x y =>
          rw [stepS] at h1
          obtain ⟨_, _, z⟩ := Option.bind_eq_some_iff.mp h1
          cases z
          omega
        | call x f zs =>
          rw [stepS] at h1
          obtain ⟨_, _, z⟩ := Option.bind_eq_some_iff.mp h1
          obtain ⟨_, _, z⟩ := Option.bind_eq_some_iff.mp z
          cases z
          omega
        | act x d zs =>
          rw [stepS] at h1
          obtain ⟨_, _, z⟩ := Option.bind_eq_some_iff.mp h1
          cases z
          rw [List.length_append]
          exact Nat.le_refl _
        | leave => cases hs
        | ite t a b => cases hs
      omega
    · cases s with
      | put x y => exact absurd trivial hs
      | call x f zs => exact absurd trivial hs
      | act x d zs => exact absurd trivial hs
      | leave => rw [run_leave] at h; cases h; show ds.length ≤ _; omega
      | ite t a b =>
        rw [run_ite] at h
        obtain ⟨c, _, h2⟩ := Option.bind_eq_some_iff.mp h
        have q := run_len n _ σ ds p h2
        omega
def secS (L : Lp) : Sec → List Stm
  | .start => L.start | .turn _ => L.turn | .fin => L.fin
/-- a section is run, or not as the loop has left -/
theorem part_cases {U : Tab} {L : Lp} {sec : Sec} {res : List Int} {σ σ' : Sto} {l l' : Bool} {d d' : List Deed} (h : Part 46 U L sec res σ l d σ' l' d') (h0 : sec = .start → l = false) : (∃ i, sec = .turn i ∧ l = true ∧ σ' = σ ∧ l' = true ∧ d' = d) ∨
    (∃ n b, n ≤ 46 ∧ run U (secI sec) res n (secS L sec) σ d = some (σ', d', b) ∧ (∀ i, sec = .turn i → l = false) ∧ (sec ≠ .fin → l' = if b = true then true else l)) := by
  cases sec with
  | start =>
    obtain ⟨n, b, h1, h2, h3⟩ := h
    refine .inr ⟨n, b, h1, h2, (fun i z => by cases z), fun _ => ?_⟩
    rw [h3, h0 rfl]
    cases b <;> rfl
  | turn i =>
    rcases h with ⟨h1, h2, h3, h4⟩ | ⟨h1, n, h2, h3⟩
    · exact .inl ⟨i, rfl, h1, h2, h3, h4⟩
    · refine .inr ⟨n, l', h2, h3, fun _ _ => h1, fun _ => ?_⟩
      rw [h1]
      cases l' <;> rfl
  | fin =>
    obtain ⟨n, b, h1, h2⟩ := h
    exact .inr ⟨n, b, h1, h2, (fun i z => by cases z), fun z => absurd rfl z⟩
theorem part_len {U : Tab} {L : Lp} {sec : Sec} {res : List Int} {σ σ' : Sto} {l l' : Bool} {d d' : List Deed} (h : Part 46 U L sec res σ l d σ' l' d') (h0 : sec = .start → l = false) : d'.length ≤ d.length + 46 := by
  rcases part_cases h h0 with ⟨_, _, _, _, _, e⟩ | ⟨n, b, hn, hr, _⟩
  · rw [e]; omega
  · have := run_len _ _ _ _ _ hr
    exact Nat.le_trans this (by show d.length + n ≤ _; omega)
theorem loopD_sec {K : PySem.W.Frag} {H : Hp} {d : Addr} {L : Lp} (h : LoopD K H d true L) (sec : Sec) : ∃ sl kd, H d = some (.dK kd) ∧ valV kd (.inr (secW sec)) = some (.ref sl) ∧ SecAt K H sl true (secS L sec) := by
  obtain ⟨s1, s2, s3, h1, h2, h3, h4⟩ := h
  cases sec with
  | start => exact ⟨s1, _, h1, rfl, h2⟩
  | turn i => exact ⟨s2, _, h1, rfl, h3⟩
  | fin => exact ⟨s3, _, h1, rfl, h4⟩
theorem iteTe {b : Bool} {A B : Prop} (e : b = true) (h : A) : if b = true then A else B := by rw [if_pos e]; exact h
theorem iteFe {b : Bool} {A B : Prop} (e : b = false) (h : B) : if b = true then A else B := by rw [if_neg (by rw [e]; exact Bool.false_ne_true)]; exact h
theorem sec_cases (sec : Sec) : secW sec ≠ Str.ofString "turn" ∨ ∃ i, sec = .turn i := by
  cases sec with
  | start => exact .inl (by show Str.ofString "start" ≠ _; decide +kernel)
  | turn i => exact .inr ⟨i, rfl⟩
  | fin => exact .inl (by show Str.ofString "end" ≠ _; decide +kernel)
theorem all_fin {r0 re : List Int} {turns : List (Int × List Int)} {i : Nat} {x : Sec × List Int} (h : (allOf r0 turns re)[i]? = some x) (e : x.1 = .fin) : i = turns.length + 1 := by
  cases i with
  | zero => cases h; cases e
  | succ i =>
    have h2 : (secsOf turns re)[i]? = some x := h
    unfold secsOf at h2
    by_cases z : i < turns.length
    · rw [List.getElem?_append_left (by rw [List.length_map]; exact z), List.getElem?_map, List.getElem?_eq_getElem z] at h2
      cases h2
      cases e
    · rw [List.getElem?_append_right (by rw [List.length_map]; omega), List.length_map] at h2
      by_cases q : i = turns.length
      · rw [q]
      · rw [List.getElem?_eq_none (by simp; omega)] at h2
        cases h2
theorem all_start {r0 re : List Int} {turns : List (Int × List Int)} {i : Nat} {x : Sec × List Int} (h : (allOf r0 turns re)[i]? = some x) (e : x.1 = .start) : i = 0 := by
  cases i with
  | zero => rfl
  | succ i =>
    exfalso
    have h2 : (secsOf turns re)[i]? = some x := h
    have h3 := List.mem_of_getElem? h2
    unfold secsOf at h3
    rcases List.mem_append.mp h3 with q | q
    · obtain ⟨y, _, rfl⟩ := List.mem_map.mp q
      cases e
    · cases List.mem_singleton.mp q
      cases e
section
variable {P : Program} {w : World} {K : PySem.W.Frag} {mg : Str → Option Value} {base : Heap}
theorem sc_law_fresh_run : FnScope ["_law_loops", "_law_tables_here"] ["_law_loops", "_law_tables_here"] (defScope s_law_fresh_run) := ⟨rfl, rfl, rfl, by decide +kernel, rfl, by decide +kernel, by decide +kernel⟩
theorem ok_law_fresh_run (T : Txt K mg) : Cal P w K mg base (1) "_law_fresh_run" (spFresh K) := by
  refine cal_of T.d_law_fresh_run T.g_law_fresh_run sc_law_fresh_run (fun _ _ _ _ _ _ us hl => match us, hl with | [_, _], _ => rfl) (fun vs H Q E h => ?_) (fun cdv A outer s H vs Q E hr h => ?_)
  · obtain ⟨lp, tb, rfl, k⟩ := h
    rfl
  obtain ⟨lp, tb, rfl, k⟩ := h
  have sc := sc_law_fresh_run
  have hu := hu_of hr
  refine ⟨_, (pss_one (ps_ret (pe_disp (pps_cons pe_str (pv 0) (pps_cons pe_str (pv 1) (pps_cons pe_str (pe_lst (pa_cons pe_dnewK (pa_cons pe_dnewK pa_nil))) (pps_cons pe_str (pe_lst (pa_cons pe_bl (pa_cons pe_bl pa_nil))) (pps_cons pe_str (pe_lst pa_nil) (pps_cons pe_str (pe_lst pa_nil) pps_nil)))))) (by rfl) (by rfl) (fun z => by cases z) (by decide)))), ?_⟩
  intro ru hru
  have e0 := Same.new (o := .dK []) hru
  refine ⟨_, rfl, _, rfl, fun a ha b hb => ⟨(by show 2 ≤ sizeLine; decide), fun sL hsL => ⟨(by show 2 ≤ sizeLine; decide), fun oL hoL => ⟨(by show 0 ≤ sizeLine; decide), fun dL hdL => ⟨(by show 0 ≤ sizeLine; decide), fun rL hrL => ?_⟩⟩⟩⟩⟩
  have e1 := Same.new (o := .dK []) ha
  have e2 := Same.new (o := .dK []) hb
  have e3 := Same.new (o := .lst [.ref a, .ref b]) hsL
  have e4 := Same.new (o := .lst [.bl false, .bl false]) hoL
  have e5 := Same.new (o := .lst []) hdL
  have e6 := Same.new (o := .lst []) hrL
  have f1 := (e1.trans (e2.trans (e3.trans (e4.trans (e5.trans e6)))))
  refine ⟨f1 _ _ upd_same, [(.inr "loops", lp), (.inr "tables", tb), (.inr "store", .ref sL), (.inr "out", .ref oL), (.inr "done", .ref dL), (.inr "results", .ref rL)], rfl, (by show 6 ≤ 15; omega), ?_⟩
  have nra : a ≠ ru := (ne_of_none upd_same ha).symm
  have nrb : b ≠ ru := (ne_of_none (e1 _ _ upd_same) hb).symm
  have nrs : sL ≠ ru := (ne_of_none ((e1.trans e2) _ _ upd_same) hsL).symm
  have nro : oL ≠ ru := (ne_of_none ((e1.trans (e2.trans e3)) _ _ upd_same) hoL).symm
  have nrd : dL ≠ ru := (ne_of_none ((e1.trans (e2.trans (e3.trans e4))) _ _ upd_same) hdL).symm
  have nab : a ≠ b := ne_of_none upd_same hb
  have nos : oL ≠ sL := (ne_of_none upd_same hoL).symm
  have nsd : sL ≠ dL := ne_of_none (e4 _ _ upd_same) hdL
  have nod : oL ≠ dL := ne_of_none upd_same hdL
  have f0 := e0.trans f1
  refine k ru sL oL dL rL a b _ (fun c o h => ?_) ⟨hru, ((e0.trans (e1.trans e2)).free hsL), ((e0.trans (e1.trans (e2.trans e3))).free hoL), ((e0.trans (e1.trans (e2.trans (e3.trans e4)))).free hdL), e0.free ha, (e0.trans e1).free hb⟩ ⟨nab, nra, nrb, nos, nod, nsd⟩ upd_same ?_ ?_ ?_ ?_ ?_
  · rw [upd_ne (ne_of_none h hru)]
    exact f0 c o h
  · rw [upd_ne nrs]
    exact (e4.trans (e5.trans e6)) _ _ upd_same
  · rw [upd_ne nro]
    exact (e5.trans e6) _ _ upd_same
  · rw [upd_ne nrd]
    exact e6 _ _ upd_same
  · rw [upd_ne nra]
    exact (e2.trans (e3.trans (e4.trans (e5.trans e6)))) _ _ upd_same
  · rw [upd_ne nrb]
    exact (e3.trans (e4.trans (e5.trans e6))) _ _ upd_same
theorem sc_law_joint_played : FnScope ["_law_loops", "_law_tables_here", "_law_items", "_law_results", "_law_deed", "_law_run", "_law_sections", "_law_at", "_law_word", "_law_item", "_law_order", "_law_side"] ["_law_loops", "_law_tables_here", "_law_items", "_law_results", "_law_deed"] (defScope s_law_joint_played) := ⟨rfl, rfl, rfl, by decide +kernel, rfl, by decide +kernel, by decide +kernel⟩
theorem ok_law_joint_played (T : Txt K mg) : Cal P w K mg base (4) "_law_joint_played" (spJoint K) := by
  refine cal_of T.d_law_joint_played T.g_law_joint_played sc_law_joint_played (fun _ _ _ _ _ _ us hl => match us, hl with | [_, _, _, _, _], _ => rfl) (fun vs H Q E h => ?_) (fun cdv A outer s H vs Q E hr h => ?_)
  · obtain ⟨lp, tb, il, rl, d1, d2, L1, L2, U, r0, re, turns, outs, rfl, hlp, hL1, hL2, htb, hil, ht10, hrl, hrun, k⟩ := h
    rfl
  obtain ⟨lp, tb, il, rl, d1, d2, L1, L2, U, r0, re, turns, outs, rfl, hlp, hL1, hL2, htb, hil, ht10, hrl, hrun, k⟩ := h
  have c_law_fresh_run := ok_law_fresh_run (P := P) (w := w) (base := base) T
  have c_law_joint_part := ok_law_joint_part (P := P) (w := w) (base := base) T
  have sc := sc_law_joint_played
  have hu := hu_of hr
  refine ⟨_, (pss_cons (pset 5 sc.nd (pc c_law_fresh_run hr (by decide) (pa_cons (pv 0) (pa_cons (pv 1) pa_nil))))
      (pss_cons (pset 6 sc.nd (pe_op op_cat (pe_op op_cat (pe_lst (pa_cons (pe_tup (pa_cons pe_str (pa_cons pe_non pa_nil))) pa_nil)) (pe_lc (own := [("_law_item", 9)]) (g := gName 9) (tt := tYes) rfl sc.nd (pi_list (pv 2)) (blkOk_by (N := ["_law_loops", "_law_tables_here", "_law_items", "_law_results", "_law_deed", "_law_run", "_law_sections", "_law_at", "_law_word", "_law_item", "_law_order", "_law_side"]) (sc := defScope s_law_joint_played) (by decide +kernel)) (fun _ _ _ _ _ => (pgn 9 sc.nd)) (fun _ _ _ _ _ => pts_nil) (fun _ _ _ _ _ => (pe_tup (pa_cons pe_str (pa_cons (pv 9) pa_nil)))))) (pe_lst (pa_cons (pe_tup (pa_cons pe_str (pa_cons pe_non pa_nil))) pa_nil))))
      (pss_cons (ps_for PassesOwn.never rfl (pi_enum rfl T.b_enumerate (pa_cons (pv 6) pa_nil)) (pg_tup rfl (pgs_cons (pgn 7 sc.nd) (pgs_cons (pg_tup rfl (pgs_cons (pgn 8 sc.nd) (pgs_cons (pgn 9 sc.nd) pgs_nil))) pgs_nil)))
        (pss_cons (ps_expr (pe_bm PySem.F.plainAttrs_list PySem.F.slot_list_append PySem.F.type_list_append mt_append (pe_dget hu (pv 5) pe_str (fun _ _ => rfl)) (pa_cons (pe_lst pa_nil) pa_nil)))
        (pss_cons (ps_dput hu (pv 5) pe_str (pbt call_list_of T.b_list v_list (pa_cons (pe_ix ix_list (pv 3) (pv 7) (fun _ _ => rfl)) pa_nil)) rfl)
        (pss_cons (pset 10 sc.nd (pe_ifExp (PW.pt (pw_and (pt_cmpR op_eq (pv 8) pe_str (nomark _)) (pw_and1 (pt_cmpR op_notN (pv 4) pe_non (nomark _))))) (pe_lst (pa_cons pe_int (pa_cons pe_int pa_nil))) (pe_lst (pa_cons pe_int (pa_cons pe_int pa_nil)))))
        (pss_one (ps_for PassesOwn.never rfl (pi_list (pv 10)) (pgn 11 sc.nd)
          (pss_one (ps_if (PW.pt (pw_or (pt_cmpR op_ne (pv 8) pe_str (nomark _)) (pw_or1 (PW.pt (pw_and (pt_not (pt_val (pe_ix ix_list (pe_dget hu (pv 5) pe_str (fun _ _ => rfl)) (pv 11) (fun _ _ => rfl)))) (pw_and1 (PW.pt (pw_or (pt_cmpR op_eq (pv 11) pe_int (nomark _)) (pw_or1 (pt_cmpR op_isN (pv 4) pe_non (nomark _))))))))))) (pss_one (ps_expr (pc c_law_joint_part hr (by decide) (pa_cons (pv 5) (pa_cons (pv 11) (pa_cons (pe_dget hu (pe_ix ix_tup (pe_dget hu (pv 5) pe_str (fun _ _ => rfl)) (pv 11) (fun _ _ => rfl)) (pv 8) (fun _ _ => rfl)) (pa_cons (pv 9) (pa_cons (pv 4) pa_nil)))))))) pss_nil))))))))
      (pss_one (ps_ret (pe_dget hu (pv 5) pe_str (fun _ _ => rfl))))))), ?_⟩
  refine ⟨_, rfl, _, rfl, .ref lp, .ref tb, rfl, fun ru sL oL dL rL a b H1 s1 ⟨nru, nsL, noL, ndL, na, nb⟩ ⟨nab, nar, nbr, nos, nod, nsd⟩ g1 g2 g3 g4 g5 g6 => ?_⟩
  refine ⟨(by show 2 ≤ sizeLine; decide), fun p1 k1 => ⟨(by show 1 ≤ sizeLine; decide), fun p2 k2 => ?_⟩⟩
  have u1 := Same.new (o := .tup [.str (.ofString "start"), .non]) k1
  have u2 := Same.new (o := .lst [.ref p1]) k2
  have ilen : ((turns.map Prod.fst).map V.int).length = turns.length := by rw [List.length_map, List.length_map]
  refine ⟨_, rfl, il, rfl, ⟨_, SqL.of ((s1.trans (u1.trans u2)) _ _ hil)⟩, fun D hD => ?_⟩
  refine lc_rel (walk_list (xs := (turns.map Prod.fst).map V.int)) hD (by rw [ilen]; omega) (fun i v X => ∃ (h : i < turns.length) (p : Addr), v = .ref p ∧ X p = some (.tup [.str (.ofString "turn"), .int turns[i].1])) (fun i v X Y e ⟨h, p, e1, d⟩ => ⟨h, p, e1, e _ _ d⟩) (fun X e => e.seq (SqL.of ((s1.trans (u1.trans u2)) _ _ hil))) ?_ ?_
  · rintro i x H3 H4 hi e3 ⟨ys, hys⟩ ⟨rfl, hx⟩ R kR
    have hi' : i < turns.length := by rw [ilen] at hi; exact hi
    have hx' : x = .int turns[i].1 := by
      rw [List.getElem?_map, List.getElem?_map, List.getElem?_eq_getElem hi'] at hx
      exact (Option.some.inj hx).symm
    subst hx'
    refine ⟨rfl, _, rfl, (by show 2 ≤ sizeLine; decide), fun p hp => ?_⟩
    refine kR _ _ (Same.new hp) ⟨hi', p, rfl, ?_⟩
    rw [hid_ne (nh hys hp)]
    exact upd_same
  intro H3 ys e3 hD3 hylen hyp
  rw [ilen] at hylen
  have e03 := (s1.trans (u1.trans u2)).trans (e3.trans hid_in)
  have e13 := (u1.trans u2).trans (e3.trans hid_in)
  have u23 := u2.trans (e3.trans hid_in)
  refine ⟨p2, D, _, _, rfl, rfl, (e3.trans hid_in) _ _ upd_same, hD3, Nat.le_trans (by show 1 + ys.length ≤ 1000; omega) (by decide), fun p5 k5 => ⟨(by show 2 ≤ sizeLine; decide), fun p3 k3 => ⟨(by show 1 ≤ sizeLine; decide), fun p4 k4 => ⟨p5, p4, _, _, rfl, rfl, ?_, upd_same, Nat.le_trans (by show ([V.ref p1] ++ ys).length + 1 ≤ 1000; rw [List.length_append]; show 1 + ys.length + 1 ≤ 1000; omega) (by decide), fun se kse => ?_⟩⟩⟩⟩
  · exact ((Same.new k3).trans (Same.new k4)) _ _ upd_same
  have v5 := Same.new (o := .lst ([V.ref p1] ++ ys)) k5
  have v3 := Same.new (o := .tup [.str (.ofString "end"), .non]) k3
  have v4 := Same.new (o := .lst [.ref p3]) k4
  have vse := Same.new (o := .lst (([V.ref p1] ++ ys) ++ [.ref p3])) kse
  have E3 := v5.trans (v3.trans (v4.trans vse))
  have E1 := e13.trans E3
  have E0 := e03.trans E3
  have t1 := (u23.trans E3) _ _ (upd_same (H := H1) (a := p1) (o := .tup [.str (.ofString "start"), .non]))
  have t3 := (v4.trans vse) _ _ (upd_same (a := p3) (o := .tup [.str (.ofString "end"), .non]))
  have se5 : upd (upd (upd (upd H3 p5 (.lst ([V.ref p1] ++ ys))) p3 (.tup [.str (.ofString "end"), .non])) p4 (.lst [.ref p3])) se (.lst (([V.ref p1] ++ ys) ++ [.ref p3])) se = some (.lst (([V.ref p1] ++ ys) ++ [.ref p3])) := upd_same
  have dys : DpAll K (tups (upd (upd (upd (upd H3 p5 (.lst ([V.ref p1] ++ ys))) p3 (.tup [.str (.ofString "end"), .non])) p4 (.lst [.ref p3])) se (.lst (([V.ref p1] ++ ys) ++ [.ref p3])))) ys (turns.map fun x => encS (.turn x.1)) := by
    refine dpAll_ix (by rw [hylen, List.length_map]) fun i v d h1 h2 => ?_
    obtain ⟨h, p, rfl, q⟩ := hyp i v h1
    rw [List.getElem?_map, List.getElem?_eq_getElem h] at h2
    cases h2
    exact .tup (SqT.of (tups_some (E3 _ _ (hid_in _ _ q)))) (.cons (.str _) (.cons (.int _) .nil))
  have nseo : se ≠ oL := nh ((e13.trans (v5.trans (v3.trans v4))) _ _ g3) kse
  have nsed : se ≠ dL := nh ((e13.trans (v5.trans (v3.trans v4))) _ _ g4) kse
  generalize upd (upd (upd (upd H3 p5 (.lst ([V.ref p1] ++ ys))) p3 (.tup [.str (.ofString "end"), .non])) p4 (.lst [.ref p3])) se (.lst (([V.ref p1] ++ ys) ++ [.ref p3])) = H5 at *
  have slen : ([V.ref p1] ++ ys ++ [V.ref p3]).length = (allOf r0 turns re).length := by
    rw [allOf_len, List.length_append, List.length_append, hylen]
    simp
    omega
  have dse : DpAll K (tups H5) ([V.ref p1] ++ ys ++ [V.ref p3]) ((allOf r0 turns re).map fun x => encS x.1) := by
    have e : (allOf r0 turns re).map (fun x => encS x.1) = [encS .start] ++ (turns.map fun x => encS (.turn x.1)) ++ [encS .fin] := by
      unfold allOf secsOf
      rw [List.map_cons, List.map_append, List.map_map]
      rfl
    rw [e]
    exact dpa_app (dpa_app (.cons (.tup (SqT.of (tups_some t1)) (.cons (.str _) (.cons .non .nil))) .nil) dys) (.cons (.tup (SqT.of (tups_some t3)) (.cons (.str _) (.cons .non .nil))) .nil)
  generalize hsv : [V.ref p1] ++ ys ++ [V.ref p3] = sv at *
  replace g1 := E1 _ _ g1
  replace g2 := E1 _ _ g2
  replace g3 := E1 _ _ g3
  replace g4 := E1 _ _ g4
  replace g5 := E1 _ _ g5
  replace g6 := E1 _ _ g6
  have hLL : ∀ z ∈ [ru, a, b, oL, dL], H z = none := by
    intro z hz
    simp only [List.mem_cons, List.not_mem_nil, or_false] at hz
    rcases hz with rfl | rfl | rfl | rfl | rfl <;> assumption
  have hsl : sL ∉ [ru, a, b, oL, dL] := by
    intro hz
    simp only [List.mem_cons, List.not_mem_nil, or_false] at hz
    rcases hz with rfl | rfl | rfl | rfl | rfl
    · rw [g1] at g2; cases g2
    · rw [g5] at g2; cases g2
    · rw [g6] at g2; cases g2
    · exact nos rfl
    · exact nsd rfl
  have hse : se ∉ [ru, a, b, oL, dL] := by
    intro hz
    simp only [List.mem_cons, List.not_mem_nil, or_false] at hz
    rcases hz with rfl | rfl | rfl | rfl | rfl
    · rw [g1] at se5; cases se5
    · rw [g5] at se5; cases se5
    · rw [g6] at se5; cases se5
    · exact nseo rfl
    · exact nsed rfl
  refine ⟨_, rfl, se, _, rfl, SqL.of se5, ?_⟩
  refine for_it (walk_enum (xs := sv)) (fun i σs H7 => ∃ (x7 x8 x9 x10 x11 : Option V) (rL7 : Addr) (S : JS) (refs : List V) (oA oB : List (List Deed)) (o1 o2 : Bool), σs = [some (.ref lp), some (.ref tb), some (.ref il), some (.ref rl), some .non, some (.ref ru), some (.ref se), x7, x8, x9, x10, x11] ∧ Same H H7 ∧ H7 ru = some (.dK (runK (.ref lp) (.ref tb) sL oL dL rL7)) ∧ H7 oL = some (.lst [.bl o1, .bl o2]) ∧ H7 dL = some (.lst refs) ∧ refs.length = i ∧ StoAt H7 a S.s1 (50 * i) ∧ StoAt H7 b S.s2 (50 * i) ∧
    H7 sL = some (.lst [.ref a, .ref b]) ∧ H7 se = some (.lst sv) ∧ DpAll K (hidL [ru, a, b, oL, dL] H7) sv ((allOf r0 turns re).map fun x => encS x.1) ∧ DpAll K (hidL [ru, a, b, oL, dL] H7) refs (oA.map encO) ∧ outs = oA ++ oB ∧ JRun U L1 L2 ((allOf r0 turns re).drop i) S oB ∧ (i < (allOf r0 turns re).length → o1 = S.l1 ∧ o2 = S.l2) ∧ (i = 0 → S.l1 = false ∧ S.l2 = false)) ?_ ?_ ?_ ?_
  · refine ⟨none, none, none, none, none, rL, ⟨emp, emp, false, false⟩, [], [], outs, false, false, rfl, E0, g1, g3, g4, rfl, ⟨[], g5, Nat.zero_le _, fun x => rfl⟩, ⟨[], g6, Nat.zero_le _, fun x => rfl⟩, g2, se5, dse.up (hidL_tups fun z hz xs q => ?_), .nil, rfl, hrun, fun _ => ⟨rfl, rfl⟩, fun _ => ⟨rfl, rfl⟩⟩
    simp only [List.mem_cons, List.not_mem_nil, or_false] at hz
    rcases hz with rfl | rfl | rfl | rfl | rfl
    · rw [g1] at q; cases q
    · rw [g5] at q; cases q
    · rw [g6] at q; cases q
    · rw [g3] at q; cases q
    · rw [g4] at q; cases q
  · rintro i σs H7 _ ⟨_, _, _, _, _, _, _, _, _, _, _, _, _, _, _, _, _, _, _, _, _, q, _⟩
    exact SqL.of q
  · rintro i x σs H7 H8 hi ⟨x7, x8, x9, x10, x11, rL7, S, refs, oA, oB, o1, o2, rfl, s7, ru7, oL7, dL7, n7, a7, b7, sL7, se7, dse7, dr7, ho7, hr7, hl7, hz7⟩ ⟨T1, y1, y2, rfl, hT, rfl, hy1, hy2⟩
    cases hy1
    rw [slen] at hi
    have ed : (allOf r0 turns re).drop i = (allOf r0 turns re)[i] :: (allOf r0 turns re).drop (i + 1) := List.drop_eq_getElem_cons hi
    have hai : (allOf r0 turns re)[i]? = some (allOf r0 turns re)[i] := List.getElem?_eq_getElem hi
    rw [ed] at hr7
    obtain ⟨S', ds, oB', ⟨d, PA, PB⟩, rfl, hr8⟩ := hr7
    generalize (allOf r0 turns re)[i] = yy at *
    obtain ⟨sec, res⟩ := yy
    have hi10 : i ≤ 11 := by rw [allOf_len] at hi; omega
    have hres : (ressOf r0 turns re)[i]? = some res := by rw [← allOf_snd, List.getElem?_map, hai]; rfl
    obtain ⟨rv, hrv, hrr⟩ := id hrl
    obtain ⟨hr10, b0, hb0, hb0'⟩ := hrr i res hres
    have hz8 : sec = .start → S.l1 = false ∧ S.l2 = false := fun z => hz7 (all_start hai z)
    obtain ⟨ho1', ho2'⟩ := hl7 hi
    have hsv : (sv : List V)[i]? = some y2 := hy2
    obtain ⟨p, rfl, hp⟩ := encS_at (s := sec) (dpAll_at dse7 hsv (by rw [List.getElem?_map, hai]; rfl))
    replace hp := hidL_in.tup hp
    have u8 := Same.new (o := .tup [.int (i : Nat), .ref p]) hT
    have S8 := s7.trans u8
    have ru8 := u8 _ _ ru7
    have oL8 := u8 _ _ oL7
    have dL8 := u8 _ _ dL7
    have a8 := a7.up u8
    have b8 := b7.up u8
    have sL8 := u8 _ _ sL7
    have se8 := u8 _ _ se7
    have dse8 := dse7.up (hidL_mono (L := [ru, a, b, oL, dL]) u8)
    have dr8 := dr7.up (hidL_mono (L := [ru, a, b, oL, dL]) u8)
    replace hp := u8.tup hp
    refine ⟨T1, _, rfl, SqT.of upd_same, rfl, _, _, rfl, _, _, rfl, p, _, rfl, hp, rfl, _, _, rfl, _, _, rfl, rfl, rfl, ?_⟩
    generalize upd H7 T1 (.tup [.int (i : Nat), .ref p]) = H8 at *
    obtain ⟨ksa, hksa, _⟩ := id a8
    obtain ⟨ksb, hksb, _⟩ := id b8
    have hHP : Same H (hidL [ru, a, b, oL, dL] H8) := hidL_of hLL S8
    have hPH : Same (hidL [ru, a, b, oL, dL] H8) H8 := hidL_in
    have sLP : hidL [ru, a, b, oL, dL] H8 sL = some (.lst [.ref a, .ref b]) := (hidL_ne hsl).trans sL8
    have seP : hidL [ru, a, b, oL, dL] H8 se = some (.lst sv) := (hidL_ne hse).trans se8
    have hPn : ∀ z ∈ [ru, a, b, oL, dL], hidL [ru, a, b, oL, dL] H8 z = none := fun z h => hidL_n h
    generalize hPPe : hidL [ru, a, b, oL, dL] H8 = PP at *
    -- done.append([])
    refine ⟨_, rfl, ru, _, rfl, .inl ⟨_, .inr "done", .inl ru8, rfl, rfl⟩, .inl ⟨rfl, _, SqL.of dL8⟩, (by show 0 ≤ sizeLine; decide), fun cur hcur => ⟨dL, _, _, rfl, rfl, (Same.new hcur) _ _ dL8, Nat.lt_of_le_of_lt (by omega : refs.length ≤ 100) (by decide), ?_⟩⟩
    have hcurP : PP cur = none := hPH.free hcur
    have hcurH : H cur = none := hHP.free hcurP
    have ncd : dL ≠ cur := ne_of_none dL8 hcur
    have ncs : sL ≠ cur := ne_of_none sL8 hcur
    have nco : oL ≠ cur := ne_of_none oL8 hcur
    have ncru : ru ≠ cur := ne_of_none ru8 hcur
    have nca : a ≠ cur := ne_of_none hksa hcur
    have ncb : b ≠ cur := ne_of_none hksb hcur
    have ndru : ru ≠ dL := fun z => by rw [z, dL8] at ru8; cases ru8
    have nda : a ≠ dL := fun z => by rw [z, dL8] at hksa; cases hksa
    have ndb : b ≠ dL := fun z => by rw [z, dL8] at hksb; cases hksb
    have v1 := Same.new (o := .lst []) hcur
    have t9 : Same PP (upd (upd H8 cur (.lst [])) dL (.lst (refs ++ [.ref cur]))) := (hPH.trans v1).mut (hPn dL (by simp))
    have ru9 := (upd_ne (o := .lst (refs ++ [.ref cur])) ndru).trans (v1 _ _ ru8)
    have oL9 := (upd_ne (o := .lst (refs ++ [.ref cur])) nod).trans (v1 _ _ oL8)
    have cur9 := (upd_ne (o := .lst (refs ++ [.ref cur])) (Ne.symm ncd)).trans (upd_same (H := H8) (a := cur) (o := .lst []))
    have dL9 : upd (upd H8 cur (.lst [])) dL (.lst (refs ++ [.ref cur])) dL = some (.lst (refs ++ [.ref cur])) := upd_same
    have a9 : StoAt (upd (upd H8 cur (.lst [])) dL (.lst (refs ++ [.ref cur]))) a S.s1 (50 * i) := by
      obtain ⟨ks, q1, q2⟩ := a8.up v1
      exact ⟨ks, (upd_ne nda).trans q1, q2⟩
    have b9 : StoAt (upd (upd H8 cur (.lst [])) dL (.lst (refs ++ [.ref cur]))) b S.s2 (50 * i) := by
      obtain ⟨ks, q1, q2⟩ := b8.up v1
      exact ⟨ks, (upd_ne ndb).trans q1, q2⟩
    generalize upd (upd H8 cur (.lst [])) dL (.lst (refs ++ [.ref cur])) = H9 at *
    -- the results
    refine ⟨_, rfl, _, rfl, rl, _, _, _, rfl, rfl, SqL.of ((hHP.trans t9) _ _ hrv), atI_nat hb0, b0, _, rfl, .inl (SqL.of ((hHP.trans t9) _ _ hb0')), fun nr hnr => ⟨_, rfl, ru, _, rfl, DPut.k (k := .inr "results") ((Same.new hnr) _ _ ru9) (by show 6 < sizeLine; decide), ?_⟩⟩
    rw [runK_put]
    have nrc : nr ≠ cur := nh cur9 hnr
    have nro : nr ≠ oL := nh oL9 hnr
    have nrru : nr ≠ ru := nh ru9 hnr
    have v2 := Same.new (o := .lst (res.map V.int)) hnr
    have ruoL : oL ≠ ru := fun z => by rw [z, ru9] at oL9; cases oL9
    have t10 : Same PP (upd (upd H9 nr (.lst (res.map V.int))) ru (.dK (runK (.ref lp) (.ref tb) sL oL dL nr))) := (t9.trans v2).mut (hPn ru (by simp))
    have ru10 : upd (upd H9 nr (.lst (res.map V.int))) ru (.dK (runK (.ref lp) (.ref tb) sL oL dL nr)) ru = some (.dK (runK (.ref lp) (.ref tb) sL oL dL nr)) := upd_same
    have X10 : ∀ {z : Addr} {o : HO}, z ≠ ru → H9 z = some o → upd (upd H9 nr (.lst (res.map V.int))) ru (.dK (runK (.ref lp) (.ref tb) sL oL dL nr)) z = some o := fun h q => (upd_ne h).trans (v2 _ _ q)
    have oL10 := X10 ruoL oL9
    have cur10 := X10 (Ne.symm ncru) cur9
    have dL10 := X10 (Ne.symm ndru) dL9
    have nr10 : upd (upd H9 nr (.lst (res.map V.int))) ru (.dK (runK (.ref lp) (.ref tb) sL oL dL nr)) nr = some (.lst (res.map V.int)) := (upd_ne nrru).trans upd_same
    have a10 : StoAt (upd (upd H9 nr (.lst (res.map V.int))) ru (.dK (runK (.ref lp) (.ref tb) sL oL dL nr))) a S.s1 (50 * i) := by
      obtain ⟨ks, q1, q2⟩ := a9
      exact ⟨ks, X10 nar q1, q2⟩
    have b10 : StoAt (upd (upd H9 nr (.lst (res.map V.int))) ru (.dK (runK (.ref lp) (.ref tb) sL oL dL nr))) b S.s2 (50 * i) := by
      obtain ⟨ks, q1, q2⟩ := b9
      exact ⟨ks, X10 nbr q1, q2⟩
    clear X10
    generalize upd (upd H9 nr (.lst (res.map V.int))) ru (.dK (runK (.ref lp) (.ref tb) sL oL dL nr)) = H10 at *
    -- the order
    apply use_rest2 (fun od X => Same H10 X ∧ H10 od = none ∧ X od = some (.lst [.int 0, .int 1]))
    · intro go
      refine ⟨_, rfl, rfl, _, rfl, ?_⟩
      have fin : ∀ (X : Prop), X → X := fun _ h => h
      refine ite2 (fun _ => ?_) (fun _ => iteF ?_)
      · refine ⟨_, rfl, rfl, _, rfl, iteF ?_⟩
        refine ⟨(by show 2 ≤ sizeLine; decide), fun od hod => ?_⟩
        have q1 := Same.new (o := .lst [.int 0, .int 1]) hod
        have q2 : upd H10 od (.lst [.int 0, .int 1]) od = some (.lst [.int 0, .int 1]) := upd_same
        generalize upd H10 od (.lst [.int 0, .int 1]) = H11 at *
        exact go od H11 ⟨q1, hod, q2⟩
      · refine ⟨(by show 2 ≤ sizeLine; decide), fun od hod => ?_⟩
        have q1 := Same.new (o := .lst [.int 0, .int 1]) hod
        have q2 : upd H10 od (.lst [.int 0, .int 1]) od = some (.lst [.int 0, .int 1]) := upd_same
        generalize upd H10 od (.lst [.int 0, .int 1]) = H11 at *
        exact go od H11 ⟨q1, hod, q2⟩
    rintro od H11 ⟨e11, hod, od11⟩
    have odc : od ≠ cur := nh cur10 hod
    have odo : od ≠ oL := nh oL10 hod
    have nar' : a ≠ ru := nar
    refine ⟨_, rfl, od, rfl, ⟨_, SqL.of od11⟩, ?_⟩
    refine for_it (walk_list (xs := [V.int 0, V.int 1])) (fun k σs H9 => ∃ (x11 : Option V) (σA σB : Sto) (bA bB : Nat) (ysk : List V) (dk : List Deed) (o1 o2 : Bool), σs = [some (.ref lp), some (.ref tb), some (.ref il), some (.ref rl), some .non, some (.ref ru), some (.ref se), some (.int (i : Nat)), some (.str (secW sec)), some (itV (secI sec)), some (.ref od), x11] ∧ Same PP H9 ∧ H9 ru = some (.dK (runK (.ref lp) (.ref tb) sL oL dL nr)) ∧ H9 oL = some (.lst [.bl o1, .bl o2]) ∧ H9 dL = some (.lst (refs ++ [.ref cur])) ∧ H9 nr = some (.lst (res.map V.int)) ∧ H9 od = some (.lst [.int 0, .int 1]) ∧ StoAt H9 a σA bA ∧ StoAt H9 b σB bB ∧ H9 cur = some (.lst ysk) ∧ DpAll K (tups H9) ysk (dk.map encD) ∧ bA ≤ 50 * (i + 1) ∧ bB ≤ 50 * (i + 1) ∧
      (k = 0 → σA = S.s1 ∧ σB = S.s2 ∧ dk = [] ∧ o1 = S.l1 ∧ o2 = S.l2 ∧ bA = 50 * i ∧ bB = 50 * i) ∧ (k = 1 → σA = S'.s1 ∧ σB = S.s2 ∧ dk = d ∧ (sec ≠ .fin → o1 = S'.l1) ∧ o2 = S.l2 ∧ bB = 50 * i) ∧ (k = 2 → σA = S'.s1 ∧ σB = S'.s2 ∧ dk = ds ∧ (sec ≠ .fin → o1 = S'.l1 ∧ o2 = S'.l2))) ?_ ?_ ?_ ?_
    · exact ⟨_, S.s1, S.s2, 50 * i, 50 * i, [], [], o1, o2, rfl, t10.trans e11, e11 _ _ ru10, e11 _ _ oL10, e11 _ _ dL10, e11 _ _ nr10, od11, a10.up e11, b10.up e11, e11 _ _ cur10, .nil, by omega, by omega, (fun _ => ⟨rfl, rfl, rfl, ho1', ho2', rfl, rfl⟩), (fun z => by cases z), (fun z => by cases z)⟩
    · rintro k σs H9 _ ⟨_, _, _, _, _, _, _, _, _, _, _, _, _, _, _, q, _⟩
      exact SqL.of q
    · rintro k x σs K9 K12 hk ⟨x11, σA, σB, bA, bB, ysk, dk, o1, o2, rfl, t9, ru9, oL9, dL9, nr9, od9, sa9, sb9, cur9, dd9, hbA, hbB, hC0, hC1, hC2⟩ ⟨hKK, hx⟩
      subst K12
      have sL9 := t9 _ _ sLP
      have dlen : d.length ≤ 46 := by
        have := part_len PA (fun z => (hz8 z).1)
        simpa using this
      rcases k with _ | _ | k
      · -- side 0
        cases hx
        obtain ⟨rfl, rfl, rfl, rfl, rfl, rfl, rfl⟩ := hC0 rfl
        obtain ⟨ksm, hksm, _⟩ := id sa9
        obtain ⟨kso, hkso, _⟩ := id sb9
        have nc_st : cur ≠ a := fun z => by rw [z, hksm] at cur9; cases cur9
        have no_st : oL ≠ a := fun z => by rw [z, hksm] at oL9; cases oL9
        have nc_ot : cur ≠ b := fun z => by rw [z, hkso] at cur9; cases cur9
        have no_ot : oL ≠ b := fun z => by rw [z, hkso] at oL9; cases oL9
        rcases part_cases PA (fun z => (hz8 z).1) with ⟨i1, es, el, eσ, el', ed⟩ | ⟨n, bb, hn, hrn, hlt, hle⟩
        · -- it has left
          refine ⟨_, rfl, rfl, _, rfl, ?_⟩
          have es' : sec = .turn i1 := es
          rw [decide_eq_true (congrArg V.str (show secW sec = Str.ofString "turn" by rw [es']; rfl))]
          refine iteF ?_
          refine ⟨_, rfl, ru, _, rfl, .inl ⟨_, .inr "out", .inl ru9, rfl, rfl⟩, _, rfl, oL, _, _, V.bl S.l1, rfl, rfl, SqL.of oL9, atI_nat (j := 0) rfl, _, rfl, ?_⟩
          refine iteFe (b := !S.l1) (by rw [el]; rfl) (iteF ?_)
          exact ⟨_, _, _, _, _, ysk, _, _, _, rfl, t9, ru9, oL9, dL9, nr9, od9, sa9, sb9, cur9, dd9, by omega, by omega, (fun z => by cases z), (fun _ => ⟨eσ.symm, rfl, ed.symm, fun _ => el.trans el'.symm, rfl, rfl⟩), (fun z => by cases z)⟩
        · apply use_rest (fun X => X = K9)
          · intro go
            rcases sec_cases sec with hne | ⟨i1, hi1⟩
            · refine ⟨_, rfl, rfl, _, rfl, ?_⟩
              rw [decide_eq_false (fun z => hne (V.str.inj z))]
              exact iteT (iteT (go _ rfl))
            · have el := hlt i1 hi1
              refine ⟨_, rfl, rfl, _, rfl, ?_⟩
              rw [decide_eq_true (congrArg V.str (show secW sec = Str.ofString "turn" by rw [hi1]; rfl))]
              refine iteF ?_
              refine ⟨_, rfl, ru, _, rfl, .inl ⟨_, .inr "out", .inl ru9, rfl, rfl⟩, _, rfl, oL, _, _, V.bl S.l1, rfl, rfl, SqL.of oL9, atI_nat (j := 0) rfl, _, rfl, ?_⟩
              refine iteTe (b := !S.l1) (by rw [el]; rfl) ?_
              refine ⟨_, rfl, rfl, _, rfl, ?_⟩
              exact iteT (iteT (go _ rfl))
          rintro KX hKX
          subst KX
          obtain ⟨sl, kd, hd, hv, ⟨xs, hxs, dxs, wfx, mxx⟩⟩ := loopD_sec hL1 sec
          have HG : Same H (hid oL (hid cur (hid a K9))) := hid3_of na hcurH noL (hHP.trans t9)
          have GH : Same (hid oL (hid cur (hid a K9))) K9 := hid3_in
          have Gz : ∀ z, z ≠ oL → z ≠ cur → z ≠ a → hid oL (hid cur (hid a K9)) z = K9 z := fun z h1 h2 h3 => by rw [hid_ne h1, hid_ne h2, hid_ne h3]
          obtain ⟨G1, G2, G3⟩ := hid3_n (H := K9) (a := a) (b := cur) (c := oL)
          have nrst : nr ≠ a := fun z => by rw [z, hksm] at nr9; cases nr9
          have odst : od ≠ a := fun z => by rw [z, hksm] at od9; cases od9
          have dLst : dL ≠ a := fun z => by rw [z, hksm] at dL9; cases dL9
          have sLst : sL ≠ a := fun z => by rw [z, hksm] at sL9; cases sL9
          have ruo : ru ≠ oL := fun z => by rw [z, oL9] at ru9; cases ru9
          have ruc : ru ≠ cur := fun z => by rw [z, cur9] at ru9; cases ru9
          have hR : RunAt K (hid oL (hid cur (hid a K9))) ru 0 a cur oL U res := ⟨.ref lp, tb, sL, dL, nr, a, b, refs, (Gz _ ruo ruc nar.symm).trans ru9, (Gz _ nos.symm ncs sLst).trans sL9, rfl, (Gz _ nod.symm ncd dLst).trans dL9, (Gz _ nro nrc nrst).trans nr9, hr10, htb.up HG⟩
          refine ⟨_, rfl, _, rfl, _, rfl, ru, _, rfl, .inl ⟨_, .inr "loops", .inl ru9, rfl, rfl⟩, _, rfl, lp, _, _, _, rfl, rfl, (hHP.trans t9).tup hlp, atI_nat (j := 0) rfl, _, rfl, d1, _, rfl, .inl ⟨kd, .inr (secW sec), .inl ((hHP.trans t9) _ _ hd), rfl, hv.symm⟩, _, rfl, _, rfl, ?_⟩
          refine ⟨ru, a, cur, oL, sl, 0, xs, secS L1 sec, secI sec, U, res, _, _, _, n, ysk, _, _, _, bb, hid oL (hid cur (hid a K9)), 0, rfl, GH, hR, HG _ _ hxs, dxs.up HG, wfx, mxx, sa9, by omega, by omega, G1, G2, G3, nco, cur9, dd9, by simp; omega, oL9, rfl, hrn, fun H11 ys11 s11 st11 cur11 dd11 oL11 => ?_⟩
          have t11 : Same PP H11 := (hid3_of (hPn a (by simp)) hcurP (hPn oL (by simp)) t9).trans s11
          have oth11 := StoAt.up (H := hid oL (hid cur (hid a K9))) (by obtain ⟨ks, q1, q2⟩ := sb9; exact ⟨ks, (Gz _ (Ne.symm no_ot) (Ne.symm nc_ot) nab.symm).trans q1, q2⟩) s11
          refine ⟨_, _, _, _, _, ys11, _, (if bb = true then true else S.l1), S.l2, rfl, t11, s11 _ _ ((Gz _ ruo ruc nar.symm).trans ru9), ?_, s11 _ _ ((Gz _ nod.symm ncd dLst).trans dL9), s11 _ _ ((Gz _ nro nrc nrst).trans nr9), s11 _ _ ((Gz _ odo odc odst).trans od9), st11, oth11, cur11, dd11, by omega, by omega, (fun z => by cases z), (fun _ => ⟨rfl, rfl, rfl, fun z => (hle z).symm, rfl, rfl⟩), (fun z => by cases z)⟩
          rw [oL11]
          cases bb <;> rfl
      · -- side 1
        cases hx
        obtain ⟨rfl, rfl, rfl, ho1, rfl, rfl⟩ := hC1 rfl
        obtain ⟨ksm, hksm, _⟩ := id sb9
        obtain ⟨kso, hkso, _⟩ := id sa9
        have nc_st : cur ≠ b := fun z => by rw [z, hksm] at cur9; cases cur9
        have no_st : oL ≠ b := fun z => by rw [z, hksm] at oL9; cases oL9
        have nc_ot : cur ≠ a := fun z => by rw [z, hkso] at cur9; cases cur9
        have no_ot : oL ≠ a := fun z => by rw [z, hkso] at oL9; cases oL9
        rcases part_cases PB (fun z => (hz8 z).2) with ⟨i1, es, el, eσ, el', ed⟩ | ⟨n, bb, hn, hrn, hlt, hle⟩
        · -- it has left
          refine ⟨_, rfl, rfl, _, rfl, ?_⟩
          have es' : sec = .turn i1 := es
          rw [decide_eq_true (congrArg V.str (show secW sec = Str.ofString "turn" by rw [es']; rfl))]
          refine iteF ?_
          refine ⟨_, rfl, ru, _, rfl, .inl ⟨_, .inr "out", .inl ru9, rfl, rfl⟩, _, rfl, oL, _, _, V.bl S.l2, rfl, rfl, SqL.of oL9, atI_nat (j := 1) rfl, _, rfl, ?_⟩
          refine iteFe (b := !S.l2) (by rw [el]; rfl) (iteF ?_)
          exact ⟨_, _, _, _, _, ysk, _, _, _, rfl, t9, ru9, oL9, dL9, nr9, od9, sa9, sb9, cur9, dd9, by omega, by omega, (fun z => by cases z), (fun z => by cases z), (fun _ => ⟨rfl, eσ.symm, ed.symm, fun z => ⟨ho1 z, el.trans el'.symm⟩⟩)⟩
        · apply use_rest (fun X => X = K9)
          · intro go
            rcases sec_cases sec with hne | ⟨i1, hi1⟩
            · refine ⟨_, rfl, rfl, _, rfl, ?_⟩
              rw [decide_eq_false (fun z => hne (V.str.inj z))]
              exact iteT (iteT (go _ rfl))
            · have el := hlt i1 hi1
              refine ⟨_, rfl, rfl, _, rfl, ?_⟩
              rw [decide_eq_true (congrArg V.str (show secW sec = Str.ofString "turn" by rw [hi1]; rfl))]
              refine iteF ?_
              refine ⟨_, rfl, ru, _, rfl, .inl ⟨_, .inr "out", .inl ru9, rfl, rfl⟩, _, rfl, oL, _, _, V.bl S.l2, rfl, rfl, SqL.of oL9, atI_nat (j := 1) rfl, _, rfl, ?_⟩
              refine iteTe (b := !S.l2) (by rw [el]; rfl) ?_
              refine ⟨_, rfl, rfl, _, rfl, ?_⟩
              exact iteF ⟨_, rfl, rfl, _, rfl, iteT (go _ rfl)⟩
          rintro KX hKX
          subst KX
          obtain ⟨sl, kd, hd, hv, ⟨xs, hxs, dxs, wfx, mxx⟩⟩ := loopD_sec hL2 sec
          have HG : Same H (hid oL (hid cur (hid b K9))) := hid3_of nb hcurH noL (hHP.trans t9)
          have GH : Same (hid oL (hid cur (hid b K9))) K9 := hid3_in
          have Gz : ∀ z, z ≠ oL → z ≠ cur → z ≠ b → hid oL (hid cur (hid b K9)) z = K9 z := fun z h1 h2 h3 => by rw [hid_ne h1, hid_ne h2, hid_ne h3]
          obtain ⟨G1, G2, G3⟩ := hid3_n (H := K9) (a := b) (b := cur) (c := oL)
          have nrst : nr ≠ b := fun z => by rw [z, hksm] at nr9; cases nr9
          have odst : od ≠ b := fun z => by rw [z, hksm] at od9; cases od9
          have dLst : dL ≠ b := fun z => by rw [z, hksm] at dL9; cases dL9
          have sLst : sL ≠ b := fun z => by rw [z, hksm] at sL9; cases sL9
          have ruo : ru ≠ oL := fun z => by rw [z, oL9] at ru9; cases ru9
          have ruc : ru ≠ cur := fun z => by rw [z, cur9] at ru9; cases ru9
          have hR : RunAt K (hid oL (hid cur (hid b K9))) ru 1 b cur oL U res := ⟨.ref lp, tb, sL, dL, nr, a, b, refs, (Gz _ ruo ruc nbr.symm).trans ru9, (Gz _ nos.symm ncs sLst).trans sL9, rfl, (Gz _ nod.symm ncd dLst).trans dL9, (Gz _ nro nrc nrst).trans nr9, hr10, htb.up HG⟩
          refine ⟨_, rfl, _, rfl, _, rfl, ru, _, rfl, .inl ⟨_, .inr "loops", .inl ru9, rfl, rfl⟩, _, rfl, lp, _, _, _, rfl, rfl, (hHP.trans t9).tup hlp, atI_nat (j := 1) rfl, _, rfl, d2, _, rfl, .inl ⟨kd, .inr (secW sec), .inl ((hHP.trans t9) _ _ hd), rfl, hv.symm⟩, _, rfl, _, rfl, ?_⟩
          refine ⟨ru, b, cur, oL, sl, 1, xs, secS L2 sec, secI sec, U, res, _, _, _, n, ysk, _, _, _, bb, hid oL (hid cur (hid b K9)), 1, rfl, GH, hR, HG _ _ hxs, dxs.up HG, wfx, mxx, sb9, by omega, by omega, G1, G2, G3, nco, cur9, dd9, by omega, oL9, rfl, hrn, fun H11 ys11 s11 st11 cur11 dd11 oL11 => ?_⟩
          have t11 : Same PP H11 := (hid3_of (hPn b (by simp)) hcurP (hPn oL (by simp)) t9).trans s11
          have oth11 := StoAt.up (H := hid oL (hid cur (hid b K9))) (by obtain ⟨ks, q1, q2⟩ := sa9; exact ⟨ks, (Gz _ (Ne.symm no_ot) (Ne.symm nc_ot) nab).trans q1, q2⟩) s11
          refine ⟨_, _, _, _, _, ys11, _, o1, (if bb = true then true else S.l2), rfl, t11, s11 _ _ ((Gz _ ruo ruc nbr.symm).trans ru9), ?_, s11 _ _ ((Gz _ nod.symm ncd dLst).trans dL9), s11 _ _ ((Gz _ nro nrc nrst).trans nr9), s11 _ _ ((Gz _ odo odc odst).trans od9), oth11, st11, cur11, dd11, hbA, by omega, (fun z => by cases z), (fun z => by cases z), (fun _ => ⟨rfl, rfl, rfl, fun z => ⟨ho1 z, (hle z).symm⟩⟩)⟩
          rw [oL11]
          cases bb <;> rfl
      · exact absurd hk (by show ¬ (k + 1 + 1 < 2); omega)
    · rintro σs H12 ⟨x11, σA, σB, bA, bB, ysk, dk, o1, o2, rfl, t9, ru9, oL9, dL9, nr9, od9, sa9, sb9, cur9, dd9, hbA, hbB, hC0, hC1, hC2⟩
      obtain ⟨rfl, rfl, rfl, hoo⟩ := hC2 rfl
      obtain ⟨ks1, hks1, _⟩ := id sa9
      obtain ⟨ks2, hks2, _⟩ := id sb9
      have tPP : Same PP (hidL [ru, a, b, oL, dL] H12) := hidL_of hPn t9
      refine ⟨_, _, _, _, _, nr, S', refs ++ [.ref cur], oA ++ [_], oB', o1, o2, rfl, hHP.trans t9, ru9, oL9, dL9, by rw [List.length_append, n7]; rfl, sa9.le hbA, sb9.le hbB, t9 _ _ sLP, t9 _ _ seP, dse8.up tPP, ?_, by rw [ho7, List.append_assoc]; rfl, hr8, fun hlt => hoo fun z => ?_, fun z => by cases z⟩
      · rw [List.map_append]
        refine dpa_app (dr8.up tPP) (.cons ?_ .nil)
        have hcl : cur ∉ [ru, a, b, oL, dL] := by
          intro hz
          simp only [List.mem_cons, List.not_mem_nil, or_false] at hz
          rcases hz with q | q | q | q | q
          · exact ncru q.symm
          · exact nca q.symm
          · exact ncb q.symm
          · exact nco q.symm
          · exact ncd q.symm
        refine .lst (SqL.of (xs := ysk) ((hidL_ne hcl).trans cur9)) (dd9.up (hidL_tups fun z hz xs q => ?_))
        simp only [List.mem_cons, List.not_mem_nil, or_false] at hz
        rcases hz with rfl | rfl | rfl | rfl | rfl
        · rw [ru9] at q; cases q
        · rw [hks1] at q; cases q
        · rw [hks2] at q; cases q
        · rw [oL9] at q; cases q
        · rw [dL9] at q; cases q
      · have q := all_fin hai z
        rw [allOf_len] at hlt
        omega
  · rintro σs H7 ⟨x7, x8, x9, x10, x11, rL7, S, refs, oA, oB, o1, o2, rfl, s7, ru7, oL7, dL7, n7, a7, b7, sL7, se7, dse7, dr7, ho7, hr7, hl7, hz7⟩
    rw [slen, List.drop_length] at hr7
    cases hr7
    refine ⟨_, rfl, ru, _, rfl, .inl ⟨_, .inr "done", .inl ru7, rfl, rfl⟩, k _ _ s7 (.lst (SqL.of dL7) ?_)⟩
    rw [ho7, List.append_nil]
    exact dr7.up hidL_in
end
end K21
set_option Elab.async false
set_option linter.all false
set_option maxRecDepth 100000
set_option maxHeartbeats 1000000
namespace K21
open PySem PySem.Spec PyProof.Rows L2
/-- refs to tuples of ints -/
def TupsAt (H : Hp) (rs : List V) (ps : List (List Int)) : Prop := rs.length = ps.length ∧ ∀ (i : Nat) (v : List Int), ps[i]? = some v → ∃ p : Addr, rs[i]? = some (.ref p) ∧ H p = some (.tup (v.map V.int))
theorem TupsAt.up {H H' : Hp} {rs : List V} {ps : List (List Int)} (h : TupsAt H rs ps) (e : TSame H H') : TupsAt H' rs ps := ⟨h.1, fun i v q => by
  obtain ⟨p, a, b⟩ := h.2 i v q
  exact ⟨p, a, e p _ b⟩⟩
theorem TupsAt.app {H : Hp} {rs zs : List V} {ps qs : List (List Int)} (h : TupsAt H rs ps) (g : TupsAt H zs qs) : TupsAt H (rs ++ zs) (ps ++ qs) := by
  refine ⟨by rw [List.length_append, List.length_append, h.1, g.1], fun i v q => ?_⟩
  by_cases hi : i < ps.length
  · rw [List.getElem?_append_left hi] at q
    rw [List.getElem?_append_left (by rw [h.1]; exact hi)]
    exact h.2 i v q
  · rw [List.getElem?_append_right (by omega)] at q
    rw [List.getElem?_append_right (by rw [h.1]; omega), h.1]
    exact g.2 _ v q
def pwF (m : Nat) (v : List Int) : List (List Int) := (List.range m).map fun (j : Nat) => v ++ [(j : Int)]
def pw (m : Nat) : Nat → List (List Int)
  | 0 => [[]]
  | i + 1 => (pw m i).flatMap (pwF m)
theorem flat_len {m : Nat} : ∀ l : List (List Int), (l.flatMap (pwF m)).length = l.length * m
  | [] => by simp
  | a :: r => by
    rw [List.flatMap_cons, List.length_append, flat_len r, List.length_cons]
    have : (pwF m a).length = m := by unfold pwF; rw [List.length_map, List.length_range]
    rw [this, Nat.add_mul]
    omega
theorem pw_len (m : Nat) : ∀ i, (pw m i).length = m ^ i
  | 0 => rfl
  | i + 1 => by
    rw [pw, flat_len, pw_len m i, Nat.pow_succ]
def spPairs (K : PySem.W.Frag) : Sp := fun vs H Q _ => ∃ (m : Nat), vs = [.int m, .int 2] ∧ 1 ≤ m ∧ m ≤ 3 ∧ ∀ l H' rs, Same H H' → H l = none → H' l = some (.lst rs) → TupsAt H' rs (pw m 2) → Q (.ref l) H'
def spOfOne (K : PySem.W.Frag) : Sp := fun vs H Q _ => ∃ (dl : Addr) (m : Nat) (ns : List Int), vs = [.ref dl, .int m, .str ""] ∧ H dl = some (.lst (ns.map V.int)) ∧ m ≤ ns.length ∧ 1 ≤ m ∧ m ≤ 3 ∧
  ∀ l H' kd, Same H H' → H l = none → H' l = some (.dT kd) → (∀ i : Nat, i < m → ∃ r : Int, valV kd [.inl (i : Int)] = some (.int r) ∧ 0 ≤ r ∧ r < m) → Q (.ref l) H'
theorem p62 : (2 : Int) ^ 62 = 4611686018427387904 := by decide
section
variable {P : Program} {w : World} {K : PySem.W.Frag} {mg : Str → Option Value} {base : Heap}
theorem sc_law_pairs : FnScope ["_law_many", "_law_number", "_law_out", "_law_k", "_law_longer_ones", "_law_one", "_law_thing_here"] ["_law_many", "_law_number"] (defScope s_law_pairs) := ⟨rfl, rfl, rfl, by decide +kernel, rfl, by decide +kernel, by decide +kernel⟩
theorem ok_law_pairs (T : Txt K mg) : Cal P w K mg base (1) "_law_pairs" (spPairs K) := by
  refine cal_of T.d_law_pairs T.g_law_pairs sc_law_pairs (fun _ _ _ _ _ _ us hl => match us, hl with | [_, _], _ => rfl) (fun vs H Q E h => ?_) (fun cdv A outer s H vs Q E hr h => ?_)
  · obtain ⟨m, rfl, hm1, hm3, k⟩ := h
    rfl
  obtain ⟨m, rfl, hm1, hm3, k⟩ := h
  have sc := sc_law_pairs
  have hu := hu_of hr
  refine ⟨_, (pss_cons (pset 2 sc.nd (pe_lst (pa_cons (pe_tup pa_nil) pa_nil)))
      (pss_cons (ps_for PassesOwn.never rfl (pi_range1 rfl T.b_range (pa_cons (pv 1) pa_nil)) (pgn 3 sc.nd)
        (pss_cons (pset 4 sc.nd (pe_lst pa_nil))
        (pss_cons (ps_for PassesOwn.never rfl (pi_list (pv 2)) (pgn 5 sc.nd)
          (pss_one (ps_expr (pe_bm PySem.F.plainAttrs_list PySem.F.slot_list_extend PySem.F.type_list_extend mt_extend (pv 4) (pa_cons (pe_lc (own := [("_law_thing_here", 6)]) (g := gName 6) (tt := tYes) rfl sc.nd (pi_range1 rfl T.b_range (pa_cons (pv 0) pa_nil)) (blkOk_by (N := ["_law_many", "_law_number", "_law_out", "_law_k", "_law_longer_ones", "_law_one", "_law_thing_here"]) (sc := defScope s_law_pairs) (by decide +kernel)) (fun _ _ _ _ _ => (pgn 6 sc.nd)) (fun _ _ _ _ _ => pts_nil) (fun _ _ _ _ _ => (pe_op (show OpR _ (binaryOp .Add) (rCatA K) from op_catA) (pv 5) (pe_tup (pa_cons (pv 6) pa_nil))))) pa_nil)))))
        (pss_one (pset 2 sc.nd (pv 4))))))
      (pss_one (ps_ret (pv 2))))), ?_⟩
  refine ⟨(by show 0 ≤ sizeLine; decide), fun p0 k0 => ⟨(by show 1 ≤ sizeLine; decide), fun lo k1 => ?_⟩⟩
  have e01 := (Same.new (o := .tup []) k0).trans (Same.new (o := .lst [.ref p0]) k1)
  have hloH : H lo = none := (Same.new (o := .tup []) k0).free k1
  have hp62 := p62
  refine ⟨_, rfl, _, rfl, (by decide), (by decide), ?_⟩
  have h2 : (2 : Int).toNat = 2 := rfl
  refine for_it (walk_range (lo := 0) (n := 2)) (fun i σs H7 => ∃ (x3 x4 x5 : Option V) (lo : Addr) (rs : List V), σs = [some (.int m), some (.int 2), some (.ref lo), x3, x4, x5, none] ∧ Same H H7 ∧ H lo = none ∧ H7 lo = some (.lst rs) ∧ TupsAt H7 rs (pw m i)) ?_ (fun _ _ _ _ _ => trivial) ?_ ?_
  · refine ⟨_, _, _, lo, [.ref p0], rfl, e01, hloH, upd_same, rfl, fun i v q => ?_⟩
    cases i with
    | succ i => simp [pw] at q
    | zero =>
      have : v = [] := by simpa [pw] using q.symm
      subst this
      exact ⟨p0, rfl, (Same.new k1) _ _ upd_same⟩
  · rintro i x σs K7 K8 hi ⟨x3, x4, x5, lo, rs, rfl, s7, hlo, l7, t7⟩ ⟨hKK, rfl⟩
    subst K8
    have plen : (pw m i).length ≤ 9 := by
      rw [pw_len]
      have hi2 : i ≤ 1 := by omega
      calc m ^ i ≤ 3 ^ i := Nat.pow_le_pow_left hm3 i
        _ ≤ 3 ^ 1 := Nat.pow_le_pow_right (by omega) hi2
        _ ≤ 9 := by decide
    refine ⟨(by show 0 ≤ sizeLine; decide), fun ll hll => ?_⟩
    have u8 := Same.new (o := .lst []) hll
    have hllH : H ll = none := s7.free hll
    have nlo : lo ≠ ll := ne_of_none l7 hll
    refine ⟨_, rfl, lo, rfl, ⟨_, SqL.of (u8 _ _ l7)⟩, ?_⟩
    refine for_it (walk_list (xs := rs)) (fun t σs H9 => ∃ (x5 : Option V) (zs : List V), σs = [some (.int m), some (.int 2), some (.ref lo), some (.int (0 + (i : Nat))), some (.ref ll), x5, none] ∧ Same K7 H9 ∧ H9 ll = some (.lst zs) ∧ TupsAt H9 zs (((pw m i).take t).flatMap (pwF m))) ?_ ?_ ?_ ?_
    · exact ⟨_, [], rfl, u8, upd_same, rfl, fun i v q => by simp at q⟩
    · rintro t σs H9 _ ⟨_, _, _, q, _⟩
      exact SqL.of (q _ _ l7)
    · rintro t x σs H9 K10 ht ⟨x5, zs, rfl, s9, l9, t9⟩ ⟨hKK, hx⟩
      subst K10
      have ht' : t < (pw m i).length := by rw [← t7.1]; exact ht
      obtain ⟨p, hp, hpt⟩ := t7.2 t _ (List.getElem?_eq_getElem ht')
      rw [hp] at hx
      cases hx
      have hpt9 := s9 _ _ hpt
      generalize hu : (pw m i)[t] = u at *
      have zlen : zs.length ≤ 27 := by
        rw [t9.1, flat_len, List.length_take]
        have h1 : min t (pw m i).length ≤ 9 := by omega
        calc min t (pw m i).length * m ≤ 9 * 3 := Nat.mul_le_mul h1 hm3
          _ ≤ 27 := by decide
      refine ⟨_, rfl, .inl ⟨rfl, _, SqL.of l9⟩, _, rfl, _, rfl, (by omega), (by omega), fun D hD => ?_⟩
      rw [show ((m : Nat) : Int).toNat = m from Int.toNat_natCast m]
      refine lc_rel (walk_range (lo := 0) (n := m)) hD (by omega) (fun j v X => ∃ q : Addr, v = .ref q ∧ X q = some (.tup ((u ++ [(j : Int)]).map V.int))) (fun j v X Y e ⟨q, a, b⟩ => ⟨q, a, e _ _ b⟩) (fun _ _ => trivial) ?_ ?_
      · rintro j x H3 H4 hj e3 ⟨ys, hys⟩ ⟨rfl, hx⟩ R kR
        have hx : x = .int (j : Int) := by rw [hx]; show V.int (0 + _) = _; rw [Int.zero_add]
        subst hx
        have hp3 := e3 _ _ hpt9
        refine ⟨rfl, _, rfl, _, rfl, (by show 1 ≤ sizeLine; decide), fun q hq => ?_⟩
        have hq3 := (Same.new (o := .tup [.int (j : Nat)]) hq) _ _ hp3
        have ulen : (u.map V.int).length ≤ 20 := by
          have : u.length ≤ 2 := by
            have hi2 : i < 2 := hi
            rcases i with _ | _ | i
            · have : u = [] := by
                rw [← hu]
                have hh : t = 0 := by simp [pw] at ht'; exact ht'
                subst hh
                rfl
              rw [this]; exact Nat.zero_le _
            · have := List.getElem_mem ht'
              rw [hu] at this
              simp only [pw, List.flatMap_cons, List.flatMap_nil, List.append_nil, pwF, List.nil_append] at this
              obtain ⟨z, _, e⟩ := List.mem_map.mp this
              rw [← e]
              simp
            · omega
          rw [List.length_map]
          omega
        refine ⟨p, q, _, _, rfl, rfl, SqT.of hq3, SqT.of upd_same, Nat.le_trans (by show (u.map V.int).length + 1 ≤ 100; omega) (by decide), fun e => ?_, fun _ e => ?_, fun _ _ r hr => ?_⟩
        · have : u = [] := List.map_eq_nil_iff.mp e
          refine kR _ _ (Same.new hq) ⟨q, rfl, ?_⟩
          rw [hid_ne (nh hys hq), this]
          exact upd_same
        · cases e
        · refine kR _ _ ((Same.new hq).trans (Same.new hr)) ⟨r, rfl, ?_⟩
          rw [hid_ne (nh ((Same.new hq) _ _ hys) hr), List.map_append]
          exact upd_same
      intro H3 ys e3 hD3 hlen hys
      have e93 := e3.trans hid_in
      have l3 := e93 _ _ l9
      have nD : D ≠ ll := nh l9 hD
      refine ⟨ll, D, zs, ys, rfl, rfl, l3, hD3, Nat.le_trans (by omega : zs.length + ys.length ≤ 100) (by decide), ?_⟩
      have tl : TSame H3 (upd H3 ll (.lst (zs ++ ys))) := (TSame.refl H3).mut (fun xs z => by rw [l3] at z; cases z)
      refine ⟨_, zs ++ ys, rfl, (s9.trans e93).mut hll, upd_same, ?_⟩
      have et : ((pw m i).take (t + 1)).flatMap (pwF m) = ((pw m i).take t).flatMap (pwF m) ++ pwF m u := by
        rw [List.take_succ, List.getElem?_eq_getElem ht', hu, List.flatMap_append]
        simp
      rw [et]
      refine ((t9.up e93.t).app ⟨?_, fun j v q => ?_⟩).up tl
      · unfold pwF
        rw [List.length_map, List.length_range, hlen]
      · unfold pwF at q
        by_cases hj : j < m
        · rw [List.getElem?_map, List.getElem?_range hj] at q
          cases q
          obtain ⟨r, hr1, hr2⟩ := hys j (ys[j]'(by omega)) (List.getElem?_eq_getElem (by omega))
          exact ⟨r, by rw [List.getElem?_eq_getElem (by omega), hr1], hid_in _ _ hr2⟩
        · rw [List.getElem?_eq_none (by rw [List.length_map, List.length_range]; omega)] at q
          cases q
    · rintro σs H9 ⟨x5, zs, rfl, s9, l9, t9⟩
      refine ⟨_, rfl, _, _, _, ll, zs, rfl, s7.trans s9, hllH, l9, ?_⟩
      rw [t7.1, List.take_length] at t9
      exact t9
  · rintro σs H7 ⟨x3, x4, x5, lo, rs, rfl, s7, hlo, l7, t7⟩
    exact ⟨_, rfl, k lo H7 rs s7 hlo l7 t7⟩
theorem sc_law_of_one : FnScope ["_law_draws", "_law_many", "_law_rule", "_law_out", "_law_images", "_law_thing_here"] ["_law_draws", "_law_many", "_law_rule"] (defScope s_law_of_one) := ⟨rfl, rfl, rfl, by decide +kernel, rfl, by decide +kernel, by decide +kernel⟩
theorem ok_law_of_one (T : Txt K mg) : Cal P w K mg base (1) "_law_of_one" (spOfOne K) := by
  refine cal_of T.d_law_of_one T.g_law_of_one sc_law_of_one (fun _ _ _ _ _ _ us hl => match us, hl with | [_, _, _], _ => rfl) (fun vs H Q E h => ?_) (fun cdv A outer s H vs Q E hr h => ?_)
  · obtain ⟨dl, m, ns, rfl, hdl, hml, hm1, hm3, k⟩ := h
    rfl
  obtain ⟨dl, m, ns, rfl, hdl, hml, hm1, hm3, k⟩ := h
  have sc := sc_law_of_one
  have hu := hu_of hr
  refine ⟨_, (pss_cons (ps_par (i := 3) (j := 4) rfl sc.nd rfl rfl (by decide) rfl rfl (pa_cons (pe_dnewT) (pa_cons (pe_op op_cat (pe_lc (own := [("_law_thing_here", 5)]) (g := gName 5) rfl sc.nd (pi_range1 rfl T.b_range (pa_cons (pv 1) pa_nil)) (blkOk_by (N := ["_law_draws", "_law_many", "_law_rule", "_law_out", "_law_images", "_law_thing_here"]) (sc := defScope s_law_of_one) (by decide +kernel)) (fun _ _ _ _ _ => (pgn 5 sc.nd)) (fun _ _ _ _ _ => pts_one (pt_cmpR op_eq (pe_op op_mod (pbt call_int1 T.b_int v_int (pa_cons (pe_ix (show IxR _ (rIxL K) from ix_list) (pv 0) (pv 5) (fun _ _ => rfl)) pa_nil)) pe_int) pe_int (nomark _))) (fun _ _ _ _ _ => (pv 5))) (pe_lst (pa_cons pe_int pa_nil))) pa_nil)) rfl)
      (pss_cons (ps_for PassesOwn.never rfl (pi_range1 rfl T.b_range (pa_cons (pv 1) pa_nil)) (pgn 5 sc.nd)
        (pss_cons (ps_dput hu (pv 3) (pe_tup (pa_cons (pv 5) pa_nil)) (pe_op op_mod (pbt call_int1 T.b_int v_int (pa_cons (pe_ix ix_list (pv 0) (pv 5) (fun _ _ => rfl)) pa_nil)) (pv 1)) rfl)
        (pss_one (ps_if (PW.pt (pw_and (pt_cmpR op_eq (pv 2) pe_str (nomark _)) (pw_and1 (pt_cmpR op_in_seq (pv 5) (pv 4) (by rfl))))) (pss_one (ps_never)) (pss_one (ps_if (pt_cmpR op_eq (pv 2) pe_str (nomark _)) (pss_one (ps_never)) pss_nil))))))
      (pss_one (ps_ret (pv 3))))), ?_⟩
  have hp62 := p62
  refine fun od hod => ⟨_, rfl, _, rfl, (by omega), (by omega), fun D hD => ?_⟩
  have ati : ∀ (i : Nat), i < ns.length → ∃ q : Int, atI (ns.map V.int) (i : Int) = some (.int q) := fun i hi => ⟨ns[i], atI_nat (by rw [List.getElem?_map, List.getElem?_eq_getElem hi]; rfl)⟩
  rw [show ((m : Nat) : Int).toNat = m from Int.toNat_natCast m]
  have u1 := Same.new (o := .dT []) hod
  refine lc_it (walk_range (lo := 0) (n := m)) (fun i X => Same (upd H od (.dT [])) (hid D X) ∧ ∃ ys, X D = some (.lst ys) ∧ ys.length ≤ i) ⟨?_, [], upd_same, Nat.le_refl _⟩ (fun _ _ _ _ => trivial) ?_ ?_
  · rw [hid_upd]
    exact hid_of hD (Same.refl _)
  · rintro i x X X2 hi ⟨sX, ys, hys, hyl⟩ ⟨rfl, hx⟩
    have hx : x = .int (i : Int) := by rw [hx]; show V.int (0 + _) = _; rw [Int.zero_add]
    subst hx
    obtain ⟨q, hq⟩ := ati i (by omega)
    refine ⟨rfl, _, rfl, _, rfl, _, _, _, _, rfl, rfl, SqL.of ((u1.trans (sX.trans hid_in)) _ _ hdl), hq, .inl ⟨_, rfl, _, _, rfl, rfl, (by show (0 : Int) < 2; omega), rfl, _, rfl, ?_⟩⟩
    refine ite2 (fun _ => ?_) (fun _ => ⟨sX, ys, hys, by omega⟩)
    refine ⟨_, rfl, ys, hys, Nat.lt_of_le_of_lt (by omega : ys.length ≤ 10) (by decide), ?_, _, upd_same, by rw [List.length_append]; simp; omega⟩
    rw [hid_upd]
    exact sX
  rintro X ⟨sX, ys, hys, hyl⟩
  refine ⟨(by show 1 ≤ sizeLine; decide), fun q1 k1 => ⟨D, q1, _, _, rfl, rfl, (Same.new k1) _ _ hys, upd_same, Nat.le_trans (by show ys.length + 1 ≤ 10; omega) (by decide), fun im k2 => ?_⟩⟩
  refine ⟨_, _, rfl, ?_⟩
  have u2 := (Same.new (o := .lst [.int 0]) k1).trans (Same.new (o := .lst (ys ++ [.int 0])) k2)
  have eX := (sX.trans hid_in).trans u2
  have od2 := eX _ _ (upd_same (H := H) (a := od) (o := .dT []))
  have S2 := u1.trans eX
  generalize upd (upd X q1 (.lst [.int 0])) im (.lst (ys ++ [.int 0])) = H5 at *
  refine ⟨_, rfl, _, rfl, (by omega), (by omega), ?_⟩
  rw [show ((m : Nat) : Int).toNat = m from Int.toNat_natCast m]
  refine for_it (walk_range (lo := 0) (n := m)) (fun i σs H7 => ∃ (x5 : Option V) (kd : List (List Key × V)), σs = [some (.ref dl), some (.int m), some (.str ""), some (.ref od), some (.ref im), x5] ∧ Same H H7 ∧ H7 od = some (.dT kd) ∧ kd.length ≤ i ∧ ∀ j : Nat, j < i → ∃ r : Int, valV kd [.inl (j : Int)] = some (.int r) ∧ 0 ≤ r ∧ r < m) ?_ (fun _ _ _ _ _ => trivial) ?_ ?_
  · exact ⟨_, [], rfl, S2, od2, Nat.le_refl _, fun j hj => absurd hj (Nat.not_lt_zero _)⟩
  · rintro i x σs H7 K8 hi ⟨x5, kd, rfl, s7, od7, kl7, h7⟩ ⟨hKK, hx⟩
    have hx : x = .int (i : Int) := by rw [hx]; show V.int (0 + _) = _; rw [Int.zero_add]
    subst hx
    subst K8
    obtain ⟨q, hq⟩ := ati i (by omega)
    refine ⟨_, rfl, _, rfl, _, _, _, _, rfl, rfl, SqL.of (s7 _ _ hdl), hq, .inl ⟨_, rfl, _, rfl, _, _, rfl, rfl, (by show (0 : Int) < m; omega), _, rfl, _, rfl, (by show 1 ≤ sizeLine; decide), fun tp htp => ?_⟩⟩
    have v1 := Same.new (o := .tup [.int (i : Int)]) htp
    refine ⟨od, _, rfl, DPut.t (k := [.inl (i : Int)]) (v1 _ _ od7) upd_same (Nat.lt_of_le_of_lt (by omega : kd.length ≤ 10) (by decide)), ?_⟩
    refine ⟨_, rfl, rfl, _, rfl, iteF ?_⟩
    refine iteF ⟨_, rfl, rfl, _, rfl, iteF ?_⟩
    refine ⟨_, _, rfl, (s7.trans v1).mut hod, upd_same, Nat.le_trans (length_putK _ _ _) (by omega), fun j hj => ?_⟩
    rw [valV_put]
    by_cases e : j = i
    · subst e
      rw [if_pos rfl]
      exact ⟨_, rfl, Int.emod_nonneg _ (by omega), Int.emod_lt_of_pos _ (by omega)⟩
    · rw [if_neg (fun z => e (by
        have z1 := List.cons.inj z
        have z2 := Sum.inl.inj z1.1
        omega))]
      exact h7 j (by omega)
  · rintro σs H7 ⟨x5, kd, rfl, s7, od7, kl7, h7⟩
    exact ⟨_, rfl, k od H7 kd s7 hod od7 h7⟩
end
end K21
set_option Elab.async false
set_option linter.all false
set_option maxRecDepth 100000
set_option maxHeartbeats 2000000
namespace K21
open PySem PySem.Spec PyProof.Rows L2
def F1 (m : Nat) (kf : List (List Key × V)) : Prop := ∀ i : Nat, i < m → ∃ r : Int, valV kf [.inl (i : Int)] = some (.int r) ∧ 0 ≤ r ∧ r < m
def F2 (m : Nat) (kg : List (List Key × V)) : Prop := ∀ i j : Nat, i < m → j < m → ∃ r : Int, valV kg [.inl (i : Int), .inl (j : Int)] = some (.int r) ∧ 0 ≤ r ∧ r < m
def spTables (K : PySem.W.Frag) : Sp := fun vs H Q _ => ∃ (dl va : Addr) (m : Nat) (ns : List Int), vs = [.ref dl, .ref va, .int m] ∧ H dl = some (.lst (ns.map V.int)) ∧ ns.length = 38 ∧ VocAt K H va ∧ 1 ≤ m ∧ m ≤ 3 ∧
  ∀ H' tb cc f t df dg tp kf kg l, Same H H' → H tb = none → H' tb = some (.dK [(.inr "constants", .ref cc), (.inr "functions", .ref f), (.inr "tests", .ref t)]) → H' f = some (.dK [(.inr "f", .ref df), (.inr "g", .ref dg)]) → H' df = some (.dT kf) → H' dg = some (.dT kg) → F1 m kf → F2 m kg →
    H' t = some (.dK [(.inr "p", .ref tp)]) → H' tp = some (.lst l) → (∃ qs : List (List Int), DpAll K (tups H') l (qs.map encI)) → (tb ≠ f ∧ tb ≠ t) → Q (.ref tb) H'
theorem unlock {H H' : Hp} {d : Addr} {u : HO} (hd : H d = some u) (e : Same (hid d H) H') : Same H (upd H' d u) := fun b o q => by
  by_cases z : b = d
  · subst z
    rw [upd_same]
    exact hd.symm.trans q
  · rw [upd_ne z]
    exact e b o ((hid_ne z).trans q)
theorem pw2_get {m : Nat} {t : Nat} (ht : t < (pw m 2).length) : ∃ i j : Nat, i < m ∧ j < m ∧ (pw m 2)[t] = [(i : Int), (j : Int)] := by
  have h := List.getElem_mem ht
  generalize (pw m 2)[t] = v at h ⊢
  simp only [pw, List.flatMap_cons, List.flatMap_nil, List.append_nil, pwF, List.nil_append, List.mem_flatMap, List.mem_map, List.mem_range] at h
  obtain ⟨v, ⟨i, hi, rfl⟩, j, hj, e⟩ := h
  exact ⟨i, j, hi, hj, e.symm⟩
theorem pw2_mem {m i j : Nat} (hi : i < m) (hj : j < m) : [(i : Int), (j : Int)] ∈ pw m 2 := by
  simp only [pw, List.flatMap_cons, List.flatMap_nil, List.append_nil, pwF, List.nil_append, List.mem_flatMap, List.mem_map, List.mem_range]
  exact ⟨[(i : Int)], ⟨i, hi, rfl⟩, j, hj, rfl⟩
section
variable {P : Program} {w : World} {K : PySem.W.Frag} {mg : Str → Option Value} {base : Heap}
theorem sc_law_tables : FnScope ["_law_draws", "_law_vocabulary_here", "_law_many", "_law_constants", "_law_functions", "_law_tests", "_law_at", "_law_name", "_law_own", "_law_rule", "_law_k", "_law_pair", "_law_some", "_law_row_here", "_law_tables_here", "_law_thing_here", "_law_one", "_law_other"] ["_law_draws", "_law_vocabulary_here", "_law_many"] (defScope s_law_tables) := ⟨rfl, rfl, rfl, by decide +kernel, rfl, by decide +kernel, by decide +kernel⟩
theorem ok_law_tables (T : Txt K mg) : Cal P w K mg base (2) "_law_tables" (spTables K) := by
  refine cal_of T.d_law_tables T.g_law_tables sc_law_tables (fun _ _ _ _ _ _ us hl => match us, hl with | [_, _, _], _ => rfl) (fun vs H Q E h => ?_) (fun cdv A outer s H vs Q E hr h => ?_)
  · obtain ⟨dl, va, m, ns, rfl, hdl, hns, hv, hm1, hm3, k⟩ := h
    rfl
  obtain ⟨dl, va, m, ns, rfl, hdl, hns, hv, hm1, hm3, k⟩ := h
  have c_law_pairs := ok_law_pairs (P := P) (w := w) (base := base) T
  have c_law_of_one := ok_law_of_one (P := P) (w := w) (base := base) T
  have sc := sc_law_tables
  have hu := hu_of hr
  refine ⟨_, (pss_cons (pset 3 sc.nd (pbt (call_dictP rfl) T.b_dict v_dict (pa_cons (pe_lc (own := [("_law_k", 10), ("_law_name", 7)]) (g := gTup K 2 (gCons (gName 10) (gCons (gName 7) gNil))) (tt := tYes) rfl sc.nd (pi_enum rfl T.b_enumerate (pa_cons (pe_ix ix_tup (pv 1) pe_int (fun _ _ => rfl)) pa_nil)) (blkOk_by (N := ["_law_draws", "_law_vocabulary_here", "_law_many", "_law_constants", "_law_functions", "_law_tests", "_law_at", "_law_name", "_law_own", "_law_rule", "_law_k", "_law_pair", "_law_some", "_law_row_here", "_law_tables_here", "_law_thing_here", "_law_one", "_law_other"]) (sc := defScope s_law_tables) (by decide +kernel)) (fun _ _ _ _ _ => (pg_tup rfl (pgs_cons (pgn 10 sc.nd) (pgs_cons (pgn 7 sc.nd) pgs_nil)))) (fun _ _ _ _ _ => pts_nil) (fun _ _ _ _ _ => (pe_tup (pa_cons (pv 7) (pa_cons (pe_op op_mod (pbt call_int1 T.b_int v_int (pa_cons (pe_ix (show IxR _ (rIxL K) from ix_list) (pv 0) (pv 10) (fun _ _ => rfl)) pa_nil)) (pv 2)) pa_nil))))) pa_nil)))
      (pss_cons (ps_asg (pe_tup (pa_cons pe_dnewK (pa_cons pe_dnewK pa_nil))) (pg_tup rfl (pgs_cons (pgn 4 sc.nd) (pgs_cons (pgn 5 sc.nd) pgs_nil))))
      (pss_cons (ps_lock (ps_for PassesOwn.never rfl (pi_enumK rfl T.b_enumerate (pa_cons (pe_ix ix_tup (pv 1) pe_int (fun _ _ => rfl)) pa_nil)) (pg_tup rfl (pgs_cons (pgn 6 sc.nd) (pgs_cons (pgn 7 sc.nd) pgs_nil)))
        (pss_cons (ps_asg (pe_tup (pa_cons (pe_slice sl_list (pv 0) (po_some (pe_op op_add pe_int (pe_op op_mul pe_int (pv 6)))) (po_some (pe_op op_add pe_int (pe_op op_mul pe_int (pv 6))))) (pa_cons (pe_dget2 hu (pe_ix ix_tup (pv 1) pe_int (fun _ _ => rfl)) (pv 7) pe_str ⟨rfl, rfl, rfl, rfl⟩) pa_nil))) (pg_tup rfl (pgs_cons (pgn 8 sc.nd) (pgs_cons (pgn 9 sc.nd) pgs_nil))))
        (pss_one (ps_if (pt_cmpR op_eq (pe_dget hu (pe_ix ix_tup (pv 1) pe_int (fun _ _ => rfl)) (pv 7) (fun _ _ => rfl)) pe_int (nomark _)) (pss_one (ps_dput hu (pv 4) (pv 7) (pc c_law_of_one hr (by decide) (pa_cons (pv 8) (pa_cons (pv 2) (pa_cons (pv 9) pa_nil)))) rfl)) (pss_cons (ps_dput hu (pv 4) (pv 7) pe_dnewT rfl)
          (pss_cons (ps_for PassesOwn.never rfl (pi_enum rfl T.b_enumerate (pa_cons (pc c_law_pairs hr (by decide) (pa_cons (pv 2) (pa_cons pe_int pa_nil))) pa_nil)) (pg_tup rfl (pgs_cons (pgn 10 sc.nd) (pgs_cons (pgn 11 sc.nd) pgs_nil)))
            (pss_one (ps_dput hu (pe_dget hu (pv 4) (pv 7) (fun _ _ => rfl)) (pv 11) (pe_op op_mod (pbt call_int1 T.b_int v_int (pa_cons (pe_ix ix_list (pv 8) (pv 10) (fun _ _ => rfl)) pa_nil)) (pv 2)) rfl)))
          (pss_one (ps_if (pt_cmpR op_eq (pv 9) pe_str (nomark _)) (pss_one (ps_never)) pss_nil)))))))))
      (pss_cons (ps_lock (ps_for PassesOwn.never rfl (pi_enumK rfl T.b_enumerate (pa_cons (pe_ix ix_tup (pv 1) pe_int (fun _ _ => rfl)) pa_nil)) (pg_tup rfl (pgs_cons (pgn 6 sc.nd) (pgs_cons (pgn 7 sc.nd) pgs_nil)))
        (pss_cons (ps_asg (pe_tup (pa_cons (pe_slice sl_list (pv 0) (po_some (pe_op op_add pe_int (pe_op op_mul pe_int (pv 6)))) (po_some (pe_op op_add pe_int (pe_op op_mul pe_int (pv 6))))) (pa_cons (pe_dget2 hu (pe_ix ix_tup (pv 1) pe_int (fun _ _ => rfl)) (pv 7) pe_str ⟨rfl, rfl, rfl, rfl⟩) pa_nil))) (pg_tup rfl (pgs_cons (pgn 8 sc.nd) (pgs_cons (pgn 9 sc.nd) pgs_nil))))
        (pss_cons (pset 12 sc.nd (pe_lc (own := [("_law_k", 10), ("_law_pair", 11)]) (g := gTup K 2 (gCons (gName 10) (gCons (gName 11) gNil))) rfl sc.nd (pi_enum rfl T.b_enumerate (pa_cons (pc c_law_pairs hr (by decide) (pa_cons (pv 2) (pa_cons (pe_dget hu (pe_ix ix_tup (pv 1) pe_int (fun _ _ => rfl)) (pv 7) (fun _ _ => rfl)) pa_nil))) pa_nil)) (blkOk_by (N := ["_law_draws", "_law_vocabulary_here", "_law_many", "_law_constants", "_law_functions", "_law_tests", "_law_at", "_law_name", "_law_own", "_law_rule", "_law_k", "_law_pair", "_law_some", "_law_row_here", "_law_tables_here", "_law_thing_here", "_law_one", "_law_other"]) (sc := defScope s_law_tables) (by decide +kernel)) (fun _ _ _ _ _ => (pg_tup rfl (pgs_cons (pgn 10 sc.nd) (pgs_cons (pgn 11 sc.nd) pgs_nil)))) (fun _ _ _ _ _ => pts_one (pt_cmpR op_eq (pe_op op_mod (pbt call_int1 T.b_int v_int (pa_cons (pe_ix (show IxR _ (rIxL K) from ix_list) (pv 8) (pv 10) (fun _ _ => rfl)) pa_nil)) pe_int) pe_int (nomark _))) (fun _ _ _ _ _ => (pv 11))))
        (pss_cons (ps_if (pt_cmpR op_eq (pv 9) pe_str (nomark _)) (pss_one (ps_never)) pss_nil)
        (pss_cons (ps_if (pt_cmpR op_eq (pv 9) pe_str (nomark _)) (pss_cons (ps_never)
          (pss_one (ps_never))) pss_nil)
        (pss_one (ps_dput hu (pv 5) (pv 7) (pv 12) rfl))))))))
      (pss_cons (pset 14 sc.nd (pe_disp (pps_cons pe_str (pv 3) (pps_cons pe_str (pv 4) (pps_cons pe_str (pv 5) pps_nil))) (by rfl) (by rfl) (fun z => by cases z) (by decide)))
      (pss_cons (ps_if (pt_cmpR (op_neNil hr.units0) (pe_ix ix_tup (pv 1) pe_int (fun _ _ => rfl)) (pe_lst pa_nil) (nomark _)) (pss_one (ps_never)) pss_nil)
      (pss_one (ps_ret (pv 14))))))))), ?_⟩
  have hp62 := p62
  obtain ⟨c', f, t, d, r, x, y, g0, g1, g2, g3, g4, g5, g6, g7⟩ := id hv
  have ati : ∀ (i : Nat), i < ns.length → ∃ q : Int, atI (ns.map V.int) (i : Int) = some (.int q) := fun i hi => ⟨ns[i], atI_nat (by rw [List.getElem?_map, List.getElem?_eq_getElem hi]; rfl)⟩
  have nft : f ≠ t := fun z => by rw [z, g3] at g2; cases g2
  -- the constants
  refine ⟨_, rfl, _, _, _, _, rfl, rfl, g0, rfl, c', _, rfl, SqL.of g1, fun D hD => ?_⟩
  refine lc_rel (walk_enum (xs := [V.str (.ofString "a"), V.str (.ofString "b")])) hD (by show 2 ≤ 100000; omega) (fun j v X => ∃ (p : Addr) (n : Int) (nm : Str), v = .ref p ∧ X p = some (.tup [.str nm, .int n])) (fun j v X Y e ⟨p, n, nm, a, b⟩ => ⟨p, n, nm, a, e _ _ b⟩) (fun X e => e.seq (SqL.of g1)) ?_ ?_
  · rintro i v X X' hi eX ⟨ys, hys⟩ ⟨T1, a1, a2, rfl, hT1, rfl, ha1, ha2⟩ R kR
    cases ha1
    obtain ⟨nm, rfl⟩ : ∃ nm : Str, a2 = .str nm := by
      match i, ha2 with
      | 0, ha2 => cases ha2; exact ⟨_, rfl⟩
      | 1, ha2 => cases ha2; exact ⟨_, rfl⟩
      | i + 2, ha2 => cases ha2
    obtain ⟨q, hq⟩ := ati i (by have : i < 2 := hi; omega)
    have e1 := Same.new (o := .tup [.int (i : Nat), .str nm]) hT1
    refine ⟨T1, _, rfl, SqT.of upd_same, rfl, _, _, rfl, _, _, rfl, rfl, rfl, ?_⟩
    refine ⟨_, rfl, _, rfl, _, rfl, _, _, _, _, rfl, rfl, SqL.of ((eX.trans e1) _ _ hdl), hq, .inl ⟨_, rfl, _, rfl, _, _, rfl, rfl, (by show (0 : Int) < m; omega), (by show 2 ≤ sizeLine; decide), fun p hp => ?_⟩⟩
    refine kR _ _ (e1.trans (Same.new hp)) ⟨p, q % m, nm, rfl, ?_⟩
    rw [hid_ne (nh (e1 _ _ hys) hp)]
    exact upd_same
  intro H3 ys e3 hD3 hlen hys
  obtain ⟨v0, v1, rfl⟩ : ∃ a b, ys = [a, b] := by
    match ys, hlen with
    | [a, b], _ => exact ⟨a, b, rfl⟩
  obtain ⟨q0, n0, m0, rfl, hq0⟩ := hys 0 _ rfl
  obtain ⟨q1, n1, m1, rfl, hq1⟩ := hys 1 _ rfl
  refine ⟨D, [q0, q1], [(.inr m0, .int n0), (.inr m1, .int n1)], rfl, SqL.of hD3, .cons (SqT.of (hid_in _ _ hq0)) (.cons (SqT.of (hid_in _ _ hq1)) .nil), fun cc hcc => ?_⟩
  have e4 := (e3.trans hid_in).trans (Same.new (o := .dK (mergeK [] [(.inr m0, .int n0), (.inr m1, .int n1)])) hcc)
  generalize upd H3 cc (.dK (mergeK [] [(.inr m0, .int n0), (.inr m1, .int n1)])) = H4 at *
  -- two dicts
  refine fun fn hfn ts hts => ⟨(by show 2 ≤ sizeLine; decide), fun tp htp => ⟨tp, _, rfl, SqT.of upd_same, rfl, _, _, rfl, _, _, rfl, rfl, ?_⟩⟩
  have w1 := Same.new (o := .dK []) hfn
  have w2 := Same.new (o := .dK []) hts
  have w3 := Same.new (o := .tup [.ref fn, .ref ts]) htp
  have e5 := e4.trans (w1.trans (w2.trans w3))
  have fn5 := (w2.trans w3) _ _ (upd_same (H := H4) (a := fn) (o := .dK []))
  have ts5 := w3 _ _ (upd_same (a := ts) (o := .dK []))
  have fnH : H fn = none := e4.free hfn
  have tsH : H ts = none := (e4.trans w1).free hts
  have nfs : fn ≠ ts := ne_of_none upd_same hts
  replace ts5 : upd (upd (upd H4 fn (.dK [])) ts (.dK [])) tp (.tup [.ref fn, .ref ts]) ts = some (.dK []) := ts5
  replace fn5 : upd (upd (upd H4 fn (.dK [])) ts (.dK [])) tp (.tup [.ref fn, .ref ts]) fn = some (.dK []) := fn5
  generalize upd (upd (upd H4 fn (.dK [])) ts (.dK [])) tp (.tup [.ref fn, .ref ts]) = H5 at *
  have nff : fn ≠ f := (ne_of_none g2 fnH).symm
  have nfst : ts ≠ f := (ne_of_none g2 tsH).symm
  have nft2 : fn ≠ t := (ne_of_none g3 fnH).symm
  have ntt2 : ts ≠ t := (ne_of_none g3 tsH).symm
  -- the functions
  refine ⟨f, .dK dF, e5 _ _ g2, trivial, fun od => ?_⟩
  have hidva : ∀ {z : Addr} {X : Hp}, z ≠ z → False := fun h => h rfl
  have G0 : Same (hid f H) (upd H5 f (.frz od (.dK dF))) := fun b o q => by
    by_cases z : b = f
    · rw [z, hid_at] at q; cases q
    · rw [hid_ne z] at q
      rw [upd_ne z]
      exact e5 _ _ q
  have gva : SqT K (hid f H) va [.ref c', .ref f, .ref t, .ref d, .ref r, .ref x, .ref y] := by
    rcases g0 with (h | ⟨o, h⟩) | h
    · exact .inl (.inl (by rw [hid_ne (fun z => by rw [z, g2] at h; cases h)]; exact h))
    · exact .inl (.inr ⟨o, by rw [hid_ne (fun z => by rw [z, g2] at h; cases h)]; exact h⟩)
    · exact .inr h
  have gdl : hid f H dl = some (.lst (ns.map V.int)) := by rw [hid_ne (fun z => by rw [z, g2] at hdl; cases hdl)]; exact hdl
  have nfr : r ≠ f := fun z => by rw [z, g2] at g5; cases g5
  have gr : hid f H r = some (.dK []) := by rw [hid_ne nfr]; exact g5
  have gf : upd H5 f (.frz od (.dK dF)) f = some (.frz od (.dK dF)) := upd_same
  have gfn : upd H5 f (.frz od (.dK dF)) fn = some (.dK []) := (upd_ne nff).trans fn5
  have gts : upd H5 f (.frz od (.dK dF)) ts = some (.dK []) := (upd_ne nfst).trans ts5
  have Ffn : hid f H fn = none := hid_none fnH
  have Fts : hid f H ts = none := hid_none tsH
  generalize upd H5 f (.frz od (.dK dF)) = H6 at *
  refine ⟨_, rfl, _, _, _, _, rfl, rfl, G0.tup gva, rfl, f, od, dF, rfl, gf, ?_⟩
  refine for_it walk_enumK (fun i σs H7 => ∃ (x6 x7 x8 x9 x10 x11 : Option V), σs = [some (.ref dl), some (.ref va), some (.int m), some (.ref cc), some (.ref fn), some (.ref ts), x6, x7, x8, x9, x10, x11, none, none, none, none, none, none] ∧ Same (hid f H) H7 ∧ H7 f = some (.frz od (.dK dF)) ∧ H7 ts = some (.dK []) ∧
    ((i = 0 ∧ H7 fn = some (.dK [])) ∨ (i = 1 ∧ ∃ df kf, H7 fn = some (.dK [(.inr "f", .ref df)]) ∧ H7 df = some (.dT kf) ∧ F1 m kf) ∨ (i = 2 ∧ ∃ df kf dg kg, H7 fn = some (.dK [(.inr "f", .ref df), (.inr "g", .ref dg)]) ∧ H7 df = some (.dT kf) ∧ F1 m kf ∧ H7 dg = some (.dT kg) ∧ F2 m kg))) ?_ ?_ ?_ ?_
  · exact ⟨_, _, _, _, _, _, rfl, G0, gf, gts, .inl ⟨rfl, gfn⟩⟩
  · rintro i σs H7 _ ⟨_, _, _, _, _, _, _, _, q, _⟩
    exact q
  · rintro i x0 σs K7 K8 hi ⟨x6, x7, x8, x9, x10, x11, rfl, s7, f7, ts7, h7⟩ ⟨T1, a1, a2, rfl, hT, rfl, ha1, ha2⟩
    cases ha1
    have hi2 : i < 2 := hi
    obtain ⟨nm, hnm⟩ : ∃ nm : Str, a2 = .str nm ∧ ((i = 0 ∧ nm = Str.ofString "f") ∨ (i = 1 ∧ nm = Str.ofString "g")) := by
      match i, hi2, ha2 with
      | 0, _, ha2 => cases ha2; exact ⟨_, rfl, .inl ⟨rfl, rfl⟩⟩
      | 1, _, ha2 => cases ha2; exact ⟨_, rfl, .inr ⟨rfl, rfl⟩⟩
    obtain ⟨rfl, hnm⟩ := hnm
    have u8 := Same.new (o := .tup [.int (i : Nat), .str nm]) hT
    refine ⟨T1, _, rfl, SqT.of upd_same, rfl, _, _, rfl, _, _, rfl, rfl, ?_⟩
    have s8 := s7.trans u8
    have f8 := u8 _ _ f7
    have ts8 := u8 _ _ ts7
    have h8 : ∀ {b : Addr} {o : HO}, K7 b = some o → upd K7 T1 (.tup [.int (i : Nat), .str nm]) b = some o := fun q => u8 _ _ q
    generalize upd K7 T1 (.tup [.int (i : Nat), .str nm]) = H8 at *
    refine ⟨_, rfl, _, rfl, _, _, rfl, rfl, .inl ⟨by omega, by omega⟩, _, _, rfl, rfl, _, rfl, _, rfl, _, _, rfl, rfl, .inl ⟨by omega, by omega⟩, _, _, rfl, rfl, _, rfl, dl, _, rfl, SqL.of (s8 _ _ gdl), fun ow how => ?_⟩
    have ec : cutV (ns.map V.int) (some (2 + 9 * (i : Nat))) (some (11 + 9 * (i : Nat))) = ((ns.drop (2 + 9 * i)).take 9).map V.int := by
      rw [List.map_take, List.map_drop]
      have z := cut_mid (ns.map V.int) (2 + 9 * i) (11 + 9 * i) (by omega) (by rw [List.length_map]; omega)
      rw [show 11 + 9 * i - (2 + 9 * i) = 9 by omega] at z
      rw [← z]
      congr 2
    rw [ec]
    have olen : ((ns.drop (2 + 9 * i)).take 9).length = 9 := by rw [List.length_take, List.length_drop]; omega
    generalize (ns.drop (2 + 9 * i)).take 9 = own at *
    have v1 := Same.new (o := .lst (own.map V.int)) how
    refine ⟨_, rfl, _, _, _, _, rfl, rfl, (s8.trans v1).tup gva, rfl, r, rfl, .inl ⟨[], .inl ((s8.trans v1) _ _ gr)⟩, _, rfl, none, .inl ⟨[], .inr nm, .inl ((s8.trans v1) _ _ gr), rfl, rfl⟩, (by show 2 ≤ sizeLine; decide), fun t2 ht2 => ⟨t2, _, rfl, SqT.of upd_same, rfl, _, _, rfl, _, _, rfl, rfl, ?_⟩⟩
    have v2 := v1.trans (Same.new (o := .tup [.ref ow, (none : Option V).getD (.str "")]) ht2)
    have ow9 := (Same.new (o := .tup [.ref ow, (none : Option V).getD (.str "")]) ht2) _ _ (upd_same (H := H8) (a := ow) (o := .lst (own.map V.int)))
    have s9 := s8.trans v2
    have f9 := v2 _ _ f8
    have ts9 := v2 _ _ ts8
    have h9 : ∀ {b : Addr} {o : HO}, K7 b = some o → upd (upd H8 ow (.lst (own.map V.int))) t2 (.tup [.ref ow, (none : Option V).getD (.str "")]) b = some o := fun q => v2 _ _ (h8 q)
    replace ow9 : upd (upd H8 ow (.lst (own.map V.int))) t2 (.tup [.ref ow, (none : Option V).getD (.str "")]) ow = some (.lst (own.map V.int)) := ow9
    generalize upd (upd H8 ow (.lst (own.map V.int))) t2 (.tup [.ref ow, (none : Option V).getD (.str "")]) = H9 at *
    have oati : ∀ (j : Nat), j < 9 → ∃ q : Int, atI (own.map V.int) (j : Int) = some (.int q) := fun j hj => ⟨own[j], atI_nat (by rw [List.getElem?_map, List.getElem?_eq_getElem (by omega)]; rfl)⟩
    rcases hnm with ⟨rfl, rfl⟩ | ⟨rfl, rfl⟩
    · -- f
      have fn7 : K7 fn = some (.dK []) := by
        rcases h7 with ⟨_, q⟩ | ⟨q, _⟩ | ⟨q, _⟩
        · exact q
        · cases q
        · cases q
      refine ⟨_, rfl, _, _, _, _, rfl, rfl, s9.tup gva, rfl, _, rfl, f, _, rfl, .inl ⟨dF, .inr "f", .inr ⟨od, f9⟩, rfl, rfl⟩, rfl, _, rfl, iteT ?_⟩
      refine ⟨_, rfl, _, rfl, _, rfl, ow, m, own, rfl, ow9, by omega, hm1, hm3, fun df H10 kf s10 dfn df10 hF1 => ?_⟩
      have fn10 := s10 _ _ (h9 fn7)
      have ndf : df ≠ fn := fun z => by rw [z, fn10] at df10; cases df10
      have nff10 : f ≠ fn := Ne.symm nff
      refine ⟨_, rfl, _, rfl, fn, _, rfl, DPut.k (k := .inr "f") fn10 (by show 0 < sizeLine; decide), ?_⟩
      exact ⟨_, _, _, _, _, _, rfl, (s9.trans s10).mut Ffn, (upd_ne nff10).trans (s10 _ _ f9), (upd_ne (Ne.symm nfs)).trans (s10 _ _ ts9), .inr (.inl ⟨rfl, df, kf, upd_same, (upd_ne ndf).trans df10, hF1⟩)⟩
    · -- g
      obtain ⟨df, kf, fn7, df7, hF1⟩ : ∃ df kf, K7 fn = some (.dK [(.inr "f", .ref df)]) ∧ K7 df = some (.dT kf) ∧ F1 m kf := by
        rcases h7 with ⟨q, _⟩ | ⟨_, q⟩ | ⟨q, _⟩
        · cases q
        · exact q
        · cases q
      refine ⟨_, rfl, _, _, _, _, rfl, rfl, s9.tup gva, rfl, _, rfl, f, _, rfl, .inl ⟨dF, .inr "g", .inr ⟨od, f9⟩, rfl, rfl⟩, rfl, _, rfl, iteF ?_⟩
      refine fun dg hdg => ⟨_, rfl, _, rfl, fn, _, rfl, DPut.k (k := .inr "g") ((Same.new hdg) _ _ (h9 fn7)) (by show 1 < sizeLine; decide), ?_⟩
      have w10 := Same.new (o := .dT []) hdg
      have ndgfn : dg ≠ fn := nh (h9 fn7) hdg
      have ndgf : dg ≠ f := nh f9 hdg
      have ndgts : dg ≠ ts := nh ts9 hdg
      have ndgdf : dg ≠ df := nh (h9 df7) hdg
      have ndgow : dg ≠ ow := nh ow9 hdg
      have ndf : df ≠ fn := fun z => by
        have := h9 df7
        rw [z, h9 fn7] at this; cases this
      have now_ : ow ≠ fn := fun z => by
        rw [z, h9 fn7] at ow9; cases ow9
      have dgG : hid f H dg = none := s9.free hdg
      have s11 : Same (hid f H) (upd (upd H9 dg (.dT [])) fn (.dK (putK [(.inr "f", .ref df)] (.inr "g") (.ref dg)))) := (s9.trans w10).mut Ffn
      have fn11 : upd (upd H9 dg (.dT [])) fn (.dK (putK [(.inr "f", .ref df)] (.inr "g") (.ref dg))) fn = some (.dK [(.inr "f", .ref df), (.inr "g", .ref dg)]) := upd_same
      have X11 : ∀ {b : Addr} {o : HO}, b ≠ fn → H9 b = some o → upd (upd H9 dg (.dT [])) fn (.dK (putK [(.inr "f", .ref df)] (.inr "g") (.ref dg))) b = some o := fun h q => (upd_ne h).trans (w10 _ _ q)
      have f11 := X11 (Ne.symm nff) f9
      have ts11 := X11 (Ne.symm nfs) ts9
      have df11 := X11 ndf (h9 df7)
      have ow11 := X11 now_ ow9
      have dg11 : upd (upd H9 dg (.dT [])) fn (.dK (putK [(.inr "f", .ref df)] (.inr "g") (.ref dg))) dg = some (.dT []) := (upd_ne ndgfn).trans upd_same
      clear X11
      generalize upd (upd H9 dg (.dT [])) fn (.dK (putK [(.inr "f", .ref df)] (.inr "g") (.ref dg))) = H11 at *
      refine ⟨_, rfl, m, rfl, hm1, hm3, fun lp H12 rs s12 lpn lp12 tp12 => ?_⟩
      refine ⟨lp, rs, rfl, SqL.of lp12, ?_⟩
      have s912 := s11.trans s12
      have nlpdg : lp ≠ dg := nh dg11 lpn
      have Z12 : ∀ {X : Hp} {b : Addr} {o : HO}, Same (hid dg H12) X → b ≠ dg → H12 b = some o → X b = some o := fun e h q => e _ _ ((hid_ne h).trans q)
      refine for_it (walk_enum (xs := rs)) (fun u σs H13 => ∃ (x10 x11 : Option V) (kg : List (List Key × V)), σs = [some (.ref dl), some (.ref va), some (.int m), some (.ref cc), some (.ref fn), some (.ref ts), some (.int ((1 : Nat) : Int)), some (.str "g"), some (.ref ow), some (.str ""), x10, x11, none, none, none, none, none, none] ∧ Same (hid dg H12) H13 ∧ H13 dg = some (.dT kg) ∧ kg.length ≤ u ∧
        ∀ v : Nat, v < u → ∀ q, (pw m 2)[v]? = some q → ∃ z : Int, valV kg (q.map Sum.inl) = some (.int z) ∧ 0 ≤ z ∧ z < m) ?_ ?_ ?_ ?_
      · exact ⟨_, _, [], rfl, hid_in, s12 _ _ dg11, Nat.le_refl _, fun v h => absurd h (Nat.not_lt_zero _)⟩
      · rintro u σs H13 _ ⟨_, _, _, _, q, _⟩
        exact SqL.of (Z12 q nlpdg lp12)
      · rintro u x0 σs K13 K14 hu ⟨y10, y11, kg, rfl, s13, dg13, kl13, hk13⟩ ⟨T2, b1, b2, rfl, hT2, rfl, hb1, hb2⟩
        cases hb1
        have hu' : u < (pw m 2).length := by rw [← tp12.1]; exact hu
        have pl9 : (pw m 2).length ≤ 9 := by
          rw [pw_len]
          calc m ^ 2 ≤ 3 ^ 2 := Nat.pow_le_pow_left hm3 2
            _ ≤ 9 := by decide
        obtain ⟨pt, hpt, hptt⟩ := tp12.2 u _ (List.getElem?_eq_getElem hu')
        have hb2' : rs[u]? = some b2 := hb2
        rw [hpt] at hb2'
        cases hb2'
        have npt : pt ≠ dg := fun z => by
          rw [z, s12 _ _ dg11] at hptt; cases hptt
        have e14 := Same.new (o := .tup [.int (u : Nat), .ref pt]) hT2
        refine ⟨T2, _, rfl, SqT.of upd_same, rfl, _, _, rfl, _, _, rfl, rfl, ?_⟩
        have s14 := s13.trans e14
        have dg14 := e14 _ _ dg13
        generalize upd K13 T2 (.tup [.int (u : Nat), .ref pt]) = H14 at *
        obtain ⟨q, hq⟩ := oati u (by omega)
        refine ⟨_, rfl, _, rfl, _, _, _, _, rfl, rfl, SqL.of (Z12 s14 (Ne.symm ndgow) (s12 _ _ ow11)), hq, .inl ⟨_, rfl, _, rfl, _, _, rfl, rfl, (by show (0 : Int) < m; omega), ?_⟩⟩
        refine ⟨_, rfl, _, rfl, fn, _, rfl, .inl ⟨_, .inr "g", .inl (Z12 s14 (Ne.symm ndgfn) (s12 _ _ fn11)), rfl, rfl⟩, _, rfl, dg, _, rfl, DPut.t (k := ((pw m 2)[u]).map Sum.inl) dg14 (by rw [List.map_map]; exact Z12 s14 npt hptt) (Nat.lt_of_le_of_lt (by omega : kg.length ≤ 10) (by decide)), ?_⟩
        refine ⟨_, _, _, rfl, s14.mut hid_at, upd_same, Nat.le_trans (length_putK _ _ _) (by omega), fun v hv q' hq' => ?_⟩
        rw [valV_put]
        by_cases e : q'.map Sum.inl = ((pw m 2)[u]).map (Sum.inl : Int → Key)
        · rw [if_pos e]
          exact ⟨_, rfl, Int.emod_nonneg _ (by omega), Int.emod_lt_of_pos _ (by omega)⟩
        · rw [if_neg e]
          refine hk13 v ?_ q' hq'
          rcases Nat.lt_or_ge v u with h | h
          · exact h
          · exfalso
            have : v = u := by omega
            subst this
            rw [List.getElem?_eq_getElem hu'] at hq'
            cases hq'
            exact e rfl
      · rintro σs H13 ⟨y10, y11, kg, rfl, s13, dg13, kl13, hk13⟩
        rw [tp12.1] at hk13
        refine ⟨_, rfl, rfl, _, rfl, iteF ?_⟩
        refine ⟨_, _, _, _, _, _, rfl, ?_, Z12 s13 (Ne.symm ndgf) (s12 _ _ f11), Z12 s13 (Ne.symm ndgts) (s12 _ _ ts11), .inr (.inr ⟨rfl, df, kf, dg, kg, Z12 s13 (Ne.symm ndgfn) (s12 _ _ fn11), Z12 s13 (Ne.symm ndgdf) (s12 _ _ df11), hF1, dg13, fun i j hi hj => ?_⟩)⟩
        · exact (hid_of dgG s912).trans s13
        · obtain ⟨v, hv, e⟩ := List.mem_iff_getElem.mp (pw2_mem hi hj)
          exact hk13 v hv [(i : Int), (j : Int)] (by rw [List.getElem?_eq_getElem hv, e])
  · rintro σs H7 ⟨x6, x7, x8, x9, x10, x11, rfl, s7, f7, ts7, h7⟩
    obtain ⟨df, kf, dg, kg, fn7, df7, hF1, dg7, hF2⟩ : ∃ df kf dg kg, H7 fn = some (.dK [(.inr "f", .ref df), (.inr "g", .ref dg)]) ∧ H7 df = some (.dT kf) ∧ F1 m kf ∧ H7 dg = some (.dT kg) ∧ F2 m kg := by
      rcases h7 with ⟨q, _⟩ | ⟨q, _⟩ | ⟨_, q⟩
      · cases q
      · cases q
      · exact q
    refine ⟨f7, ?_⟩
    have S8 : Same H (upd H7 f (.dK dF)) := unlock g2 s7
    have fn8 : upd H7 f (.dK dF) fn = some (.dK [(.inr "f", .ref df), (.inr "g", .ref dg)]) := (upd_ne nff).trans fn7
    have ts8 : upd H7 f (.dK dF) ts = some (.dK []) := (upd_ne nfst).trans ts7
    have df8 : upd H7 f (.dK dF) df = some (.dT kf) := (upd_ne (fun z => by rw [z, f7] at df7; cases df7)).trans df7
    have dg8 : upd H7 f (.dK dF) dg = some (.dT kg) := (upd_ne (fun z => by rw [z, f7] at dg7; cases dg7)).trans dg7
    generalize upd H7 f (.dK dF) = H8 at *
    have t8 := S8 _ _ g3
    -- the tests
    have va8 := S8.tup g0
    refine ⟨t, .dK dT, t8, trivial, fun od2 => ?_⟩
    have G9 : Same (hid t H8) (upd H8 t (.frz od2 (.dK dT))) := fun b o q => by
      by_cases z : b = t
      · rw [z, hid_at] at q; cases q
      · rw [hid_ne z] at q
        rw [upd_ne z]
        exact q
    have hva8 : SqT K (hid t H8) va [.ref c', .ref f, .ref t, .ref d, .ref r, .ref x, .ref y] := by
      rcases va8 with (h | ⟨o, h⟩) | h
      · exact .inl (.inl (by rw [hid_ne (fun z => by rw [z, t8] at h; cases h)]; exact h))
      · exact .inl (.inr ⟨o, by rw [hid_ne (fun z => by rw [z, t8] at h; cases h)]; exact h⟩)
      · exact .inr h
    have hdl8 : hid t H8 dl = some (.lst (ns.map V.int)) := by
      have h := S8 _ _ hdl
      rw [hid_ne (fun z => by rw [z, t8] at h; cases h)]; exact h
    have hr8 : hid t H8 r = some (.dK []) := by
      have h := S8 _ _ g5
      rw [hid_ne (fun z => by rw [z, t8] at h; cases h)]; exact h
    have hx8 := S8 _ _ g6
    have t9 : upd H8 t (.frz od2 (.dK dT)) t = some (.frz od2 (.dK dT)) := upd_same
    have ts9 : upd H8 t (.frz od2 (.dK dT)) ts = some (.dK []) := (upd_ne ntt2).trans ts8
    have GG : Same (hid ts (hid t H8)) (upd H8 t (.frz od2 (.dK dT))) := hid_in.trans G9
    generalize upd H8 t (.frz od2 (.dK dT)) = H9 at *
    have gL : ∀ {b : Addr} {xs : List V}, hid t H8 b = some (.lst xs) → hid ts (hid t H8) b = some (.lst xs) := fun q => by
      rw [hid_ne (fun z => by rw [z, hid_ne ntt2, ts8] at q; cases q)]
      exact q
    have gva : SqT K (hid ts (hid t H8)) va [.ref c', .ref f, .ref t, .ref d, .ref r, .ref x, .ref y] := by
      have hts : hid t H8 ts = some (.dK []) := (hid_ne ntt2).trans ts8
      rcases hva8 with (h | ⟨o, h⟩) | h
      · exact .inl (.inl (by rw [hid_ne (fun z => by rw [z, hts] at h; cases h)]; exact h))
      · exact .inl (.inr ⟨o, by rw [hid_ne (fun z => by rw [z, hts] at h; cases h)]; exact h⟩)
      · exact .inr h
    have nrts : r ≠ ts := ne_of_none g5 tsH
    have gr : hid ts (hid t H8) r = some (.dK []) := by rw [hid_ne nrts]; exact hr8
    have gdl := gL hdl8
    have Gts : hid ts (hid t H8) ts = none := hid_at
    have Gt : hid ts (hid t H8) t = none := hid_none hid_at
    refine ⟨_, rfl, _, _, _, _, rfl, rfl, GG.tup gva, rfl, t, od2, dT, rfl, t9, ?_⟩
    refine for_it walk_enumK (fun i σs H7 => ∃ (x6 x7 x8 x9 x10 x11 x12 : Option V), σs = [some (.ref dl), some (.ref va), some (.int m), some (.ref cc), some (.ref fn), some (.ref ts), x6, x7, x8, x9, x10, x11, x12, none, none, none, none, none] ∧ Same (hid ts (hid t H8)) H7 ∧ H7 t = some (.frz od2 (.dK dT)) ∧
      ((i = 0 ∧ H7 ts = some (.dK [])) ∨ (i = 1 ∧ ∃ (tp : Addr) (l : List V) (qs : List (List Int)), H7 ts = some (.dK [(.inr "p", .ref tp)]) ∧ H7 tp = some (.lst l) ∧ DpAll K (tups H7) l (qs.map encI)))) ?_ ?_ ?_ ?_
    · exact ⟨_, _, _, _, _, _, _, rfl, GG, t9, .inl ⟨rfl, ts9⟩⟩
    · rintro i σs H7 _ ⟨_, _, _, _, _, _, _, _, _, q, _⟩
      exact q
    · rintro i x0 σs K7 K8 hi ⟨y6, y7, y8, y9, y10, y11, y12, rfl, s7', t7', h7'⟩ ⟨T1, a1, a2, rfl, hT, rfl, ha1, ha2⟩
      cases ha1
      obtain rfl : i = 0 := by have : i < 1 := hi; omega
      have ts7' : K7 ts = some (.dK []) := by
        rcases h7' with ⟨_, q⟩ | ⟨q, _⟩
        · exact q
        · cases q
      obtain rfl : a2 = .str (.ofString "p") := by cases ha2; rfl
      have u8 := Same.new (o := .tup [.int ((0 : Nat) : Int), .str (.ofString "p")]) hT
      refine ⟨T1, _, rfl, SqT.of upd_same, rfl, _, _, rfl, _, _, rfl, rfl, ?_⟩
      have s8 := s7'.trans u8
      have t8' := u8 _ _ t7'
      have ts8' := u8 _ _ ts7'
      generalize upd K7 T1 (.tup [.int ((0 : Nat) : Int), .str (.ofString "p")]) = H10 at *
      refine ⟨_, rfl, _, rfl, _, _, rfl, rfl, .inl ⟨by omega, by omega⟩, _, _, rfl, rfl, _, rfl, _, rfl, _, _, rfl, rfl, .inl ⟨by omega, by omega⟩, _, _, rfl, rfl, _, rfl, dl, _, rfl, SqL.of (s8 _ _ gdl), fun ow how => ?_⟩
      have ec : cutV (ns.map V.int) (some (20 + 9 * ((0 : Nat) : Int))) (some (29 + 9 * ((0 : Nat) : Int))) = ((ns.drop 20).take 9).map V.int := by
        rw [List.map_take, List.map_drop]
        exact cut_mid (ns.map V.int) 20 29 (by omega) (by rw [List.length_map]; omega)
      rw [ec]
      have olen : ((ns.drop 20).take 9).length = 9 := by rw [List.length_take, List.length_drop]; omega
      generalize (ns.drop 20).take 9 = own at *
      have v1 := Same.new (o := .lst (own.map V.int)) how
      refine ⟨_, rfl, _, _, _, _, rfl, rfl, (s8.trans v1).tup gva, rfl, r, rfl, .inl ⟨[], .inl ((s8.trans v1) _ _ gr)⟩, _, rfl, none, .inl ⟨[], .inr "p", .inl ((s8.trans v1) _ _ gr), rfl, rfl⟩, (by show 2 ≤ sizeLine; decide), fun t2 ht2 => ⟨t2, _, rfl, SqT.of upd_same, rfl, _, _, rfl, _, _, rfl, rfl, ?_⟩⟩
      have v2 := v1.trans (Same.new (o := .tup [.ref ow, (none : Option V).getD (.str "")]) ht2)
      have ow9 := (Same.new (o := .tup [.ref ow, (none : Option V).getD (.str "")]) ht2) _ _ (upd_same (H := H10) (a := ow) (o := .lst (own.map V.int)))
      have s9 := s8.trans v2
      have t9' := v2 _ _ t8'
      have ts9' := v2 _ _ ts8'
      replace ow9 : upd (upd H10 ow (.lst (own.map V.int))) t2 (.tup [.ref ow, (none : Option V).getD (.str "")]) ow = some (.lst (own.map V.int)) := ow9
      generalize upd (upd H10 ow (.lst (own.map V.int))) t2 (.tup [.ref ow, (none : Option V).getD (.str "")]) = H11 at *
      have oati : ∀ (j : Nat), j < 9 → ∃ q : Int, atI (own.map V.int) (j : Int) = some (.int q) := fun j hj => ⟨own[j], atI_nat (by rw [List.getElem?_map, List.getElem?_eq_getElem (by omega)]; rfl)⟩
      refine ⟨_, rfl, _, rfl, _, _, _, _, rfl, rfl, s9.tup gva, rfl, _, rfl, t, _, rfl, .inl ⟨dT, .inr "p", .inr ⟨od2, t9'⟩, rfl, rfl⟩, m, rfl, hm1, hm3, fun lp H12 rs s12 lpn lp12 tp12 => ?_⟩
      refine ⟨lp, rs, rfl, SqL.of lp12, fun D hD => ?_⟩
      have pl9 : (pw m 2).length ≤ 9 := by
        rw [pw_len]
        calc m ^ 2 ≤ 3 ^ 2 := Nat.pow_le_pow_left hm3 2
          _ ≤ 9 := by decide
      refine lc_it (walk_enum (xs := rs)) (fun j X => Same H12 (hid D X) ∧ ∃ (zs : List V) (qs : List (List Int)), X D = some (.lst zs) ∧ zs.length ≤ j ∧ DpAll K (tups H12) zs (qs.map encI)) ⟨?_, [], [], upd_same, Nat.le_refl _, .nil⟩ (fun j X _ q => SqL.of ((q.1.trans hid_in) _ _ lp12)) ?_ ?_
      · rw [hid_upd]
        exact hid_of hD (Same.refl _)
      · rintro j x X X2 hj ⟨sX, zs, qs, hzs, hzl, hdz⟩ ⟨T2, b1, b2, rfl, hT2, rfl, hb1, hb2⟩
        cases hb1
        have hj' : j < (pw m 2).length := by rw [← tp12.1]; exact hj
        obtain ⟨pt, hpt, hptt⟩ := tp12.2 j _ (List.getElem?_eq_getElem hj')
        have hb2' : rs[j]? = some b2 := hb2
        rw [hpt] at hb2'
        cases hb2'
        have e14 := Same.new (o := .tup [.int (j : Nat), .ref pt]) hT2
        obtain ⟨q, hq⟩ := oati j (by omega)
        have hzs2 := e14 _ _ hzs
        have sX2 : Same H12 (hid D (upd X T2 (.tup [.int (j : Nat), .ref pt]))) := sX.trans e14.hid
        refine ⟨T2, _, rfl, SqT.of upd_same, rfl, _, _, rfl, _, _, rfl, rfl, rfl, ?_⟩
        refine ⟨_, rfl, _, rfl, _, _, _, _, rfl, rfl, SqL.of ((sX2.trans hid_in) _ _ (s12 _ _ ow9)), hq, .inl ⟨_, rfl, _, _, rfl, rfl, (by show (0 : Int) < 2; omega), rfl, _, rfl, ?_⟩⟩
        refine ite2 (fun _ => ?_) (fun _ => ⟨sX2, zs, qs, hzs2, by omega, hdz⟩)
        refine ⟨_, rfl, zs, hzs2, Nat.lt_of_le_of_lt (by omega : zs.length ≤ 10) (by decide), ?_, zs ++ [.ref pt], qs ++ [(pw m 2)[j]], upd_same, by rw [List.length_append]; simp; omega, ?_⟩
        · rw [hid_upd]
          exact sX2
        · rw [List.map_append]
          exact dpa_app hdz (.cons (.tup (SqT.of (tups_some hptt)) (dpAll_ints _)) .nil)
      rintro X ⟨sX, zs, qs, hzs, hzl, hdz⟩
      have eX := s12.trans (sX.trans hid_in)
      refine ⟨_, rfl, rfl, _, rfl, iteF ?_⟩
      refine ⟨_, rfl, rfl, _, rfl, iteF ?_⟩
      have tsX := eX _ _ ts9'
      have nDts : D ≠ ts := fun z => by rw [z, tsX] at hzs; cases hzs
      refine ⟨_, rfl, _, rfl, _, rfl, ts, _, rfl, DPut.k (k := .inr "p") tsX (by show 0 < sizeLine; decide), ?_⟩
      refine ⟨_, _, _, _, _, _, _, rfl, (s9.trans eX).mut Gts, (upd_ne (Ne.symm ntt2)).trans (eX _ _ t9'), .inr ⟨rfl, D, zs, qs, upd_same, (upd_ne nDts).trans hzs, ?_⟩⟩
      refine (hdz.up ((sX.trans hid_in).t.tups)).up (((TSame.refl X).mut (fun ws z => by rw [tsX] at z; cases z)).tups)
    · rintro σs H10 ⟨y6, y7, y8, y9, y10, y11, y12, rfl, s10, t10, h10⟩
      obtain ⟨tp, l, qs, ts10, tp10, dl10⟩ : ∃ (tp : Addr) (l : List V) (qs : List (List Int)), H10 ts = some (.dK [(.inr "p", .ref tp)]) ∧ H10 tp = some (.lst l) ∧ DpAll K (tups H10) l (qs.map encI) := by
        rcases h10 with ⟨q, _⟩ | ⟨_, q⟩
        · cases q
        · exact q
      refine ⟨t10, ?_⟩
      have nfnt : fn ≠ t := nft2
      have s11 : Same (hid ts H8) (upd H10 t (.dK dT)) := fun b o q => by
        by_cases z : b = t
        · subst z
          rw [upd_same]
          exact t8.symm.trans ((hid_ne (Ne.symm ntt2)).symm.trans q)
        · rw [upd_ne z]
          refine s10 _ _ ?_
          by_cases z2 : b = ts
          · rw [z2, hid_at] at q; cases q
          · rw [hid_ne z2] at q ⊢
            rw [hid_ne z]
            exact q
      have S11 : Same H (upd H10 t (.dK dT)) := (hid_of tsH S8).trans s11
      have ts11 : upd H10 t (.dK dT) ts = some (.dK [(.inr "p", .ref tp)]) := (upd_ne ntt2).trans ts10
      have tp11 : upd H10 t (.dK dT) tp = some (.lst l) := (upd_ne (fun z => by rw [z, t10] at tp10; cases tp10)).trans tp10
      have dl11 : DpAll K (tups (upd H10 t (.dK dT))) l (qs.map encI) := dl10.up (((TSame.refl H10).mut (fun ws z => by rw [t10] at z; cases z)).tups)
      have X11 : ∀ {b : Addr} {o : HO}, b ≠ ts → H8 b = some o → upd H10 t (.dK dT) b = some o := fun h q => s11 _ _ ((hid_ne h).trans q)
      have fn11 := X11 nfs fn8
      have df11 := X11 (fun z => by rw [z, ts8] at df8; cases df8) df8
      have dg11 := X11 (fun z => by rw [z, ts8] at dg8; cases dg8) dg8
      clear X11
      generalize upd H10 t (.dK dT) = H11 at *
      intro tb htb
      have vb := Same.new (o := .dK []) htb
      refine ⟨_, rfl, _, rfl, _, rfl, upd_same, [(.inr "constants", .ref cc), (.inr "functions", .ref fn), (.inr "tests", .ref ts)], rfl, (by show 3 ≤ 15; omega), ?_⟩
      have tbH : H tb = none := S11.free htb
      have Y : Same H11 (upd (upd H11 tb (.dK [])) tb (.dK (mergeK [] [(.inr "constants", .ref cc), (.inr "functions", .ref fn), (.inr "tests", .ref ts)]))) := fun b o q => by
        rw [upd_ne (ne_of_none q htb)]
        exact vb b o q
      have tb12 : upd (upd H11 tb (.dK [])) tb (.dK (mergeK [] [(.inr "constants", .ref cc), (.inr "functions", .ref fn), (.inr "tests", .ref ts)])) tb = some (.dK [(.inr "constants", .ref cc), (.inr "functions", .ref fn), (.inr "tests", .ref ts)]) := upd_same
      generalize upd (upd H11 tb (.dK [])) tb (.dK (mergeK [] [(.inr "constants", .ref cc), (.inr "functions", .ref fn), (.inr "tests", .ref ts)])) = H12 at *
      have S12 := S11.trans Y
      refine ⟨_, rfl, _, _, _, _, rfl, rfl, S12.tup g0, rfl, (by show 0 ≤ sizeLine; decide), fun q hq => ⟨x, q, [], rfl, rfl, SqL.of ((S12.trans (Same.new hq)) _ _ g6), SqL.of upd_same, _, rfl, iteF ?_⟩⟩
      have vq := Same.new (o := .lst []) hq
      refine ⟨_, rfl, k _ tb cc fn ts df dg tp kf kg l (S12.trans vq) tbH (vq _ _ tb12) ((Y.trans vq) _ _ fn11) ((Y.trans vq) _ _ df11) ((Y.trans vq) _ _ dg11) hF1 hF2 ((Y.trans vq) _ _ ts11) ((Y.trans vq) _ _ tp11) ⟨qs, dl11.up ((Y.trans vq).t.tups)⟩ ⟨?_, ?_⟩⟩
      · exact (ne_of_none fn11 htb).symm
      · exact (ne_of_none ts11 htb).symm
end
end K21
set_option Elab.async false
set_option linter.all false
set_option maxRecDepth 100000
set_option maxHeartbeats 1000000
namespace K21
open PySem PySem.Spec PyProof.Rows L2
/-- what is asked of where a statement stands -/
structure Pl (turn : Bool) (P Rg srcs : List Str) : Prop where
  pr : ∀ x ∈ regRS, P.contains x = true ∧ Rg.contains x = true
  sr : ∀ y ∈ srcs, srcOk turn (some P) y = true ∧ srcIn Rg y = true
/-- a statement that leaves all as it is -/
structure GS (turn : Bool) (P Rg : List Str) (s : Stm) : Prop where
  chk : chkS turn s (some P) = some (some P)
  regs : ∀ f : List Str, (∀ x ∈ regRS, f.contains x = true) → s.regs f = f
  lst : s.lst = true
  nmd : s.nmd Rg = true
  nL : s.nL = 0
  nI : s.nI ≤ 1
structure GL (turn : Bool) (P Rg : List Str) (ss : List Stm) : Prop where
  chk : chkL turn ss (some P) = some (some P)
  regs : ∀ f : List Str, (∀ x ∈ regRS, f.contains x = true) → regsL ss f = f
  lst : lstL ss = true
  nmd : nmdL Rg ss = true
  nL : nLs ss = 0
  nI : nIs ss ≤ ss.length
theorem lst_ok {s : Stm} {r : List Stm} (h0 : s.nL = 0) (h1 : s.lst = true) (h2 : lstL r = true) : lstL (s :: r) = true := by
  cases s with
  | leave => simp [Stm.nL] at h0
  | put x y => rw [lstL, h1, h2] <;> first | rfl | (intro z; cases z)
  | call x f ys => rw [lstL, h1, h2] <;> first | rfl | (intro z; cases z)
  | act x d ys => rw [lstL, h1, h2] <;> first | rfl | (intro z; cases z)
  | ite t a b => rw [lstL, h1, h2] <;> first | rfl | (intro z; cases z)
theorem gl_of {turn : Bool} {P Rg : List Str} : ∀ {ss : List Stm}, (∀ s ∈ ss, GS turn P Rg s) → GL turn P Rg ss
  | [], _ => ⟨chkL_nil, fun f _ => by rw [regsL], by rw [lstL], by rw [nmdL], by rw [nLs], by rw [nIs]; exact Nat.zero_le _⟩
  | s :: r, h => by
    have g := h s List.mem_cons_self
    have q := gl_of fun x hx => h x (List.mem_cons_of_mem _ hx)
    refine ⟨?_, fun f hf => ?_, lst_ok g.nL g.lst q.lst, ?_, ?_, ?_⟩
    · rw [chkL_cons, g.chk, Option.bind_some, q.chk]
    · rw [regsL, g.regs f hf, q.regs f hf]
    · rw [nmdL_cons, g.nmd, q.nmd]; rfl
    · rw [nLs_cons, g.nL, q.nL]
    · rw [nIs_cons, List.length_cons]
      have := g.nI
      have := q.nI
      omega
theorem addPut_in {x : Str} {P : List Str} (h : P.contains x = true) : addPut x (some P) = some P := by
  rw [addPut_some, if_pos h]
theorem regs_in {x : Str} {f : List Str} (h : f.contains x = true) : (if f.contains x then f else f ++ [x]) = f := if_pos h
theorem regOk_rs : ∀ x ∈ regRS, regOk x = true := by decide +kernel
theorem all_src {turn : Bool} {P Rg srcs ys : List Str} (hp : Pl turn P Rg srcs) (h : ∀ y ∈ ys, y ∈ srcs) : ys.all (srcOk turn (some P)) = true ∧ ys.all (srcIn Rg) = true :=
  ⟨List.all_eq_true.mpr fun y hy => (hp.sr y (h y hy)).1, List.all_eq_true.mpr fun y hy => (hp.sr y (h y hy)).2⟩
theorem gs_plain {turn : Bool} {P Rg srcs : List Str} (hp : Pl turn P Rg srcs) {s : Stm} (h : plainIn srcs regRS s) : GS turn P Rg s := by
  cases s with
  | leave => cases h
  | ite t a b => cases h
  | put x y =>
    obtain ⟨h1, h2⟩ := h
    obtain ⟨a1, a2⟩ := hp.pr x h1
    obtain ⟨b1, b2⟩ := hp.sr y h2
    refine ⟨?_, fun f hf => ?_, by rw [Stm.lst] <;> (intros; contradiction), ?_, by simp [Stm.nL], by simp [Stm.nI]⟩
    · rw [chkS, regOk_rs x h1, b1]
      show some (addPut x (some P)) = _
      rw [addPut_in a1]
    · rw [Stm.regs, regs_in (hf x h1)]
    · rw [Stm.nmd, a2, b2]; rfl
  | call x f ys =>
    obtain ⟨h1, h2, h3⟩ := h
    obtain ⟨a1, a2⟩ := hp.pr x h1
    obtain ⟨b1, b2⟩ := all_src hp h3
    refine ⟨?_, fun f hf => ?_, by rw [Stm.lst] <;> (intros; contradiction), ?_, by simp [Stm.nL], by simp [Stm.nI]⟩
    · rw [chkS, regOk_rs x h1, decide_eq_true h2, b1]
      show some (addPut x (some P)) = _
      rw [addPut_in a1]
    · rw [Stm.regs, regs_in (hf x h1)]
    · rw [Stm.nmd, a2, b2]; rfl
  | act x d ys =>
    obtain ⟨h1, h2, h3⟩ := h
    obtain ⟨b1, b2⟩ := all_src hp h3
    cases x with
    | none =>
      refine ⟨?_, fun f hf => by rw [Stm.regs], by rw [Stm.lst] <;> (intros; contradiction), ?_, by simp [Stm.nL], by simp [Stm.nI]⟩
      · rw [chkS, decide_eq_true h2, b1]; rfl
      · rw [Stm.nmd, b2]
    | some x =>
      obtain ⟨a1, a2⟩ := hp.pr x (h1 x rfl)
      refine ⟨?_, fun f hf => ?_, by rw [Stm.lst] <;> (intros; contradiction), ?_, by simp [Stm.nL], by simp [Stm.nI]⟩
      · rw [chkS, regOk_rs x (h1 x rfl), decide_eq_true h2, b1]
        show some (addPut x (some P)) = _
        rw [addPut_in a1]
      · rw [Stm.regs, regs_in (hf x (h1 x rfl))]
      · rw [Stm.nmd, a2, b2]; rfl
theorem tst_src {turn : Bool} {P Rg srcs : List Str} (hp : Pl turn P Rg srcs) {t : Tst} (h : tstSrc srcs t) : tstOk turn (some P) t = true ∧ tstIn Rg t = true := by
  cases t with
  | same y z =>
    obtain ⟨a1, a2⟩ := hp.sr y h.1
    obtain ⟨b1, b2⟩ := hp.sr z h.2
    exact ⟨by rw [tstOk, a1, b1]; rfl, by rw [tstIn, a2, b2]; rfl⟩
  | ask p ys =>
    obtain ⟨b1, b2⟩ := all_src hp h.2
    exact ⟨by rw [tstOk, decide_eq_true h.1, b1]; rfl, by rw [tstIn, b2]⟩
theorem meet_self (P : List Str) : meet (some P) (some P) = some P := by
  show some (P.filter P.contains) = some P
  rw [List.filter_eq_self.mpr fun x hx => List.contains_iff_mem.mpr hx]
/-- an if of two such lists -/
theorem gs_ite {turn : Bool} {P Rg srcs : List Str} (hp : Pl turn P Rg srcs) {t : Tst} (ht : tstSrc srcs t) {a b : List Stm} (ga : GL turn P Rg a) (gb : GL turn P Rg b) (hn : nIs a + nIs b = 0) : GS turn P Rg (.ite t a b) := by
  obtain ⟨t1, t2⟩ := tst_src hp ht
  refine ⟨?_, fun f hf => ?_, ?_, ?_, ?_, ?_⟩
  · rw [chkS, t1, ga.chk, gb.chk]
    show some (meet (some P) (some P)) = _
    rw [meet_self]
  · rw [Stm.regs, ga.regs f hf, gb.regs f hf]
  · rw [Stm.lst, ga.lst, gb.lst]; rfl
  · rw [nmd_ite, t2, ga.nmd, gb.nmd]; rfl
  · rw [nL_ite, ga.nL, gb.nL]
  · rw [nI_ite]; omega
theorem nIs_plain {srcs regs : List Str} : ∀ {ss : List Stm}, (∀ s ∈ ss, plainIn srcs regs s) → nIs ss = 0
  | [], _ => by rw [nIs]
  | s :: r, h => by
    rw [nIs_cons, nIs_plain fun x hx => h x (List.mem_cons_of_mem _ hx)]
    have := h s List.mem_cons_self
    cases s with
    | leave => cases this
    | ite t a b => cases this
    | put x y => simp [Stm.nI]
    | call x f ys => simp [Stm.nI]
    | act x d ys => simp [Stm.nI]
theorem gs_blk {turn : Bool} {P Rg srcs : List Str} (hp : Pl turn P Rg srcs) {dep : Nat} {ss : List Stm} (h : blkIn srcs regRS dep ss) : ∀ s ∈ ss, GS turn P Rg s := fun s hs => by
  rcases h s hs with q | ⟨_, t, p, q, rfl, ht, ⟨_, hp1⟩, ⟨_, hq1⟩⟩
  · exact gs_plain hp q
  · exact gs_ite hp ht (gl_of fun x hx => gs_plain hp (hp1 x hx)) (gl_of fun x hx => gs_plain hp (hq1 x hx)) (by rw [nIs_plain hp1, nIs_plain hq1])
theorem regsL_app : ∀ (a b : List Stm) (f : List Str), regsL (a ++ b) f = regsL b (regsL a f)
  | [], b, f => by rw [List.nil_append, regsL]
  | s :: r, b, f => by rw [List.cons_append, regsL_cons, regsL_app r b, regsL_cons]
theorem GL.app {turn : Bool} {P Rg : List Str} {a b : List Stm} (h : GL turn P Rg a) (g : GL turn P Rg b) : GL turn P Rg (a ++ b) := by
  refine ⟨?_, fun f hf => ?_, ?_, ?_, ?_, ?_⟩
  · rw [chkL_app, h.chk, Option.bind_some, g.chk]
  · rw [regsL_app, h.regs f hf, g.regs f hf]
  · exact lstL_of _ (by rw [nLs_app, h.nL, g.nL])
  · rw [nmdL_app, h.nmd, g.nmd]; rfl
  · rw [nLs_app, h.nL, g.nL]
  · rw [nIs_app, List.length_append]
    have := h.nI
    have := g.nI
    omega
theorem wt_mem {s : Stm} : ∀ {ss : List Stm}, s ∈ ss → s.wt ≤ wts ss
  | [], h => by cases h
  | a :: r, h => by
    rw [wts_cons]
    rcases List.mem_cons.mp h with e | e
    · rw [e]; omega
    · have := wt_mem e
      omega
theorem nI_wt : ∀ s : Stm, s.nI ≤ s.wt
  | .put x y => by simp [Stm.nI]
  | .call x f ys => by simp [Stm.nI]
  | .act x d ys => by simp [Stm.nI]
  | .leave => by simp [Stm.nI]
  | .ite t a b => by
    have ew : (Stm.ite t a b).wt = 1 + (wts a + wts b) := by rw [Stm.wt]
    have h1 := nIs_wts a
    have h2 := nIs_wts b
    rw [nI_ite, ew]
    omega
where nIs_wts : ∀ ss : List Stm, nIs ss ≤ wts ss
  | [] => by rw [nIs]; exact Nat.zero_le _
  | s :: r => by
    have h1 := nI_wt s
    have h2 := nIs_wts r
    rw [nIs_cons, wts_cons]
    omega
end K21
set_option Elab.async false
set_option linter.all false
set_option maxRecDepth 100000
set_option maxHeartbeats 1000000
namespace K21
open PySem PySem.Spec PyProof.Rows L2
def P2 : List Str := ["r", "s"]
def P3 : List Str := ["r", "s", "t"]
theorem pl_t22 : Pl true P2 rs2 srcT := ⟨by decide +kernel, by decide +kernel⟩
theorem pl_t33 : Pl true P3 rs3 srcT := ⟨by decide +kernel, by decide +kernel⟩
theorem pl_t23 : Pl true P2 rs3 irs := ⟨by decide +kernel, by decide +kernel⟩
theorem pl_t22i : Pl true P2 rs2 irs := ⟨by decide +kernel, by decide +kernel⟩
theorem pl_e2 : Pl false P2 rs2 srcE := ⟨by decide +kernel, by decide +kernel⟩
theorem pl_e3 : Pl false P2 rs3 srcE := ⟨by decide +kernel, by decide +kernel⟩
theorem pl_s2 : Pl false P2 rs2 [.ofString "a", .ofString "b", .ofString "r"] := ⟨by decide +kernel, by decide +kernel⟩
theorem pl_s3 : Pl false P2 rs3 [.ofString "a", .ofString "b", .ofString "r"] := ⟨by decide +kernel, by decide +kernel⟩
theorem start_blk {t : Tst} {rest : List Stm} (h : rest ∈ lSt t) (ht : tstSrc [.ofString "a", .ofString "b", .ofString "r"] t) : blkIn [.ofString "a", .ofString "b", .ofString "r"] regRS 1 rest ∧ wts rest ≤ 2 := by
  have hput : plainIn [.ofString "a", .ofString "b", .ofString "r"] regRS (.put (.ofString "s") (.ofString "r")) := ⟨by decide +kernel, by decide +kernel⟩
  simp only [lSt, List.mem_cons, List.not_mem_nil, or_false] at h
  rcases h with rfl | rfl | rfl | rfl
  · exact ⟨(fun s hs => by cases hs), by rw [wts]; omega⟩
  · refine ⟨fun s hs => .inl ?_, by rw [wts_cons, wts]; simp [Stm.wt]⟩
    cases List.mem_singleton.mp hs
    exact ⟨by decide +kernel, by decide +kernel, by decide +kernel⟩
  · refine ⟨fun s hs => .inl ?_, by rw [wts_cons, wts]; simp [Stm.wt]⟩
    cases List.mem_singleton.mp hs
    exact ⟨fun z hz => by cases hz; decide +kernel, by decide +kernel, by decide +kernel⟩
  · refine ⟨fun s hs => .inr ⟨by omega, ?_⟩, ?_⟩
    · cases List.mem_singleton.mp hs
      exact ⟨t, _, _, rfl, ht, ⟨by simp, fun x hx => by cases List.mem_singleton.mp hx; exact hput⟩, ⟨by simp, fun x hx => by cases hx⟩⟩
    · rw [wts_cons, wts]
      have ew : (Stm.ite t [.put (.ofString "s") (.ofString "r")] []).wt = 1 + (wts [.put (.ofString "s") (.ofString "r")] + wts []) := by rw [Stm.wt]
      rw [ew, wts_cons, wts]
      simp [Stm.wt]
/-- the start of the law's loops -/
structure StOk (Rg : List Str) (ss : List Stm) : Prop where
  chk : chkL false ss (some []) = some (some P2)
  regs : regsL ss [] = P2
  lst : lstL ss = true
  nmd : nmdL Rg ss = true
  nL : nLs ss = 0
  small : wts ss ≤ 10
theorem st_two {y z : Str} (hy : y ∈ [Str.ofString "a", Str.ofString "b"]) (hz : z ∈ [Str.ofString "a", Str.ofString "b"]) : chkL false [.put (.ofString "r") y, .put (.ofString "s") z] (some []) = some (some P2) ∧ nmdL rs2 [.put (.ofString "r") y, .put (.ofString "s") z] = true ∧ nmdL rs3 [.put (.ofString "r") y, .put (.ofString "s") z] = true := by
  simp only [List.mem_cons, List.not_mem_nil, or_false] at hy hz
  rcases hy with rfl | rfl <;> rcases hz with rfl | rfl <;> exact ⟨by decide +kernel, by decide +kernel, by decide +kernel⟩
theorem p2_in : ∀ x ∈ regRS, P2.contains x = true := by decide +kernel
theorem st_ok {Rg : List Str} (hRg : Rg = rs2 ∨ Rg = rs3) {ss : List Stm} (h : startOk ss) : StOk Rg ss := by
  obtain ⟨y, z, t, rest, rfl, hy, hz, hr, ht⟩ := h
  obtain ⟨hb, hw⟩ := start_blk hr ht
  obtain ⟨c1, c2, c3⟩ := st_two hy hz
  have hp : Pl false P2 Rg [.ofString "a", .ofString "b", .ofString "r"] := by
    rcases hRg with rfl | rfl
    · exact pl_s2
    · exact pl_s3
  have g := gl_of (gs_blk hp hb)
  have e : (.put (.ofString "r") y :: .put (.ofString "s") z :: rest : List Stm) = [.put (.ofString "r") y, .put (.ofString "s") z] ++ rest := rfl
  have n2 : nLs [.put (.ofString "r") y, .put (.ofString "s") z] = 0 := by simp [nLs, Stm.nL]
  rw [e]
  refine ⟨?_, ?_, ?_, ?_, ?_, ?_⟩
  · rw [chkL_app, c1, Option.bind_some, g.chk]
  · rw [regsL_app, show regsL [.put (.ofString "r") y, .put (.ofString "s") z] [] = P2 by
      rw [regsL_cons, regsL_cons, regsL, Stm.regs, Stm.regs]
      decide +kernel, g.regs P2 p2_in]
  · exact lstL_of _ (by rw [nLs_app, n2, g.nL])
  · rw [nmdL_app, g.nmd]
    rcases hRg with rfl | rfl
    · rw [c2]; rfl
    · rw [c3]; rfl
  · rw [nLs_app, n2, g.nL]
  · rw [wts_app, wts_cons, wts_cons, wts]
    simp only [Stm.wt]
    omega
theorem ofS_t : regOk (.ofString "t") = true := by decide +kernel
theorem lp_ok {ss st st' se : List Stm} (h1 : startOk ss) (h2 : blkIn srcT regRS 1 st) (h2w : wts st ≤ 3) (h2n : st ≠ []) (hW : WlOk st st') (h3 : blkIn srcE regRS 1 se) (h3w : wts se ≤ 3) : ∃ Rg, LpOk ⟨ss, st', se⟩ Rg := by
  obtain ⟨y, z, h, l, hy, hz, hh, hl, hW⟩ := hW
  have hhw := wt_mem hh
  have hlw := wt_mem hl
  have nIw : ∀ x : List Stm, wts x ≤ 18 → nIs x < 20 := fun x q => by
    have := nI_wt.nIs_wts x
    omega
  by_cases hc : st' = (.ite (.same y z) [.leave] [.put (.ofString "t") (.ofString "item")] :: st) ++ [.act none (.ofString "tell") [.ofString "t"]]
  · -- with t
    subst hc
    have g := gl_of (gs_blk pl_t33 h2)
    have s1 := st_ok (.inr rfl : rs3 = rs2 ∨ rs3 = rs3) h1
    have g3 := gl_of (gs_blk pl_e3 h3)
    have ht := tst_src pl_t23 (t := .same y z) ⟨hy, hz⟩
    have ci : chkS true (.ite (.same y z) [.leave] [.put (.ofString "t") (.ofString "item")]) (some P2) = some (some P3) := by
      rw [chkS, ht.1]
      decide +kernel
    have ca : chkL true [.act none (.ofString "tell") [.ofString "t"]] (some P3) = some (some P3) := by decide +kernel
    have wi : (Stm.ite (.same y z) [.leave] [.put (.ofString "t") (.ofString "item")]).wt = 3 := by
      have ew : (Stm.ite (.same y z) [.leave] [.put (.ofString "t") (.ofString "item")]).wt = 1 + (wts [.leave] + wts [.put (.ofString "t") (.ofString "item")]) := by rw [Stm.wt]
      rw [ew, wts_cons, wts_cons, wts]
      simp [Stm.wt]
    have wa : wts ((.ite (.same y z) [.leave] [.put (.ofString "t") (.ofString "item")] :: st) ++ [.act none (.ofString "tell") [.ofString "t"]]) ≤ 7 := by
      rw [wts_app, wts_cons, wi, wts_cons, wts]
      simp only [Stm.wt]
      omega
    refine ⟨rs3, .inr rfl, ?_, ⟨P2, some P3, some P2, s1.chk, ?_, g3.chk⟩, ⟨s1.lst, ?_, g3.lst⟩, ⟨s1.nmd, ?_, g3.nmd⟩, ⟨by have := s1.small; show wts ss ≤ 45; omega, Nat.le_trans wa (by omega), by show wts se ≤ 45; omega⟩, ⟨nIw _ (by have := s1.small; show wts ss ≤ 18; omega), nIw _ (Nat.le_trans wa (by omega)), nIw _ (by show wts se ≤ 18; omega)⟩, ⟨s1.nL, g3.nL⟩⟩
    · show regsL se (regsL _ (regsL ss [])) = rs3
      have er : (Stm.ite (.same y z) [.leave] [.put (.ofString "t") (.ofString "item")]).regs P2 = P3 := by
        rw [Stm.regs, regsL_cons, regsL_cons, regsL, regsL, Stm.regs, Stm.regs]
        decide +kernel
      have r1 : regsL (.ite (.same y z) [.leave] [.put (.ofString "t") (.ofString "item")] :: st) P2 = P3 := by rw [regsL_cons, er, g.regs P3 (by decide +kernel)]
      have r2 : regsL [.act none (.ofString "tell") [.ofString "t"]] P3 = P3 := by decide +kernel
      rw [s1.regs, regsL_app, r1, r2, g3.regs P3 (by decide +kernel)]
      rfl
    · show chkL true _ (some P2) = some (some P3)
      rw [chkL_app, chkL_cons, ci, Option.bind_some, g.chk, Option.bind_some, ca]
    · have hs : ∀ r, lstL st = true → lstL r = true → nLs r = 0 → lstL (st ++ r) = true := fun r _ _ hr => lstL_of _ (by rw [nLs_app, g.nL, hr])
      show lstL (Stm.ite (.same y z) [.leave] [.put (.ofString "t") (.ofString "item")] :: (st ++ [.act none (.ofString "tell") [.ofString "t"]])) = true
      have q := hs [.act none (.ofString "tell") [.ofString "t"]] g.lst (by decide +kernel) (by decide +kernel)
      rw [lstL, q, Stm.lst] <;> first | decide +kernel | (intro w; cases w)
    · show nmdL rs3 (Stm.ite (.same y z) [.leave] [.put (.ofString "t") (.ofString "item")] :: (st ++ [.act none (.ofString "tell") [.ofString "t"]])) = true
      rw [nmdL_cons, nmd_ite, ht.2, nmdL_app, g.nmd]
      decide +kernel
  · -- r and s alone
    have G := gs_blk pl_t22 h2
    have g := gl_of G
    have s1 := st_ok (.inl rfl : rs2 = rs2 ∨ rs2 = rs3) h1
    have g3 := gl_of (gs_blk pl_e2 h3)
    have ht := tst_src pl_t22i (t := .same y z) ⟨hy, hz⟩
    have Gh := G h hh
    have Gl := G l hl
    have key : ∃ q, chkL true st' (some P2) = some q ∧ regsL st' P2 = P2 ∧ lstL st' = true ∧ nmdL rs2 st' = true ∧ wts st' ≤ 18 := by
      rcases hW with rfl | rfl | rfl | e
      · exact ⟨_, g.chk, g.regs P2 p2_in, g.lst, g.nmd, by omega⟩
      · have ga : GL true P2 rs2 (st.take (st.length - 1)) := gl_of fun s hs => G s (List.mem_of_mem_take hs)
        have gb : GL true P2 rs2 (st.drop (st.length - 1)) := gl_of fun s hs => G s (List.mem_of_mem_drop hs)
        have wi : (Stm.ite (.same y z) [h, .leave] []).wt = 1 + (wts [h, .leave] + wts []) := by rw [Stm.wt]
        have wsum : wts (st.take (st.length - 1)) + wts (st.drop (st.length - 1)) = wts st := by rw [← wts_app, List.take_append_drop]
        have hlv : lstL [h, Stm.leave] = true := lst_ok Gh.nL Gh.lst (by decide +kernel)
        refine ⟨some P2, ?_, ?_, ?_, ?_, ?_⟩
        · have ci : chkS true (.ite (.same y z) [h, .leave] []) (some P2) = some (some P2) := by
            rw [chkS, ht.1, chkL_cons, Gh.chk, Option.bind_some, chkL_cons, chkS, chkL_nil]
            rfl
          have c2 : chkL true [.ite (.same y z) [h, .leave] []] (some P2) = some (some P2) := by rw [chkL_cons, ci, Option.bind_some, chkL_nil]
          rw [chkL_app, chkL_app, ga.chk, Option.bind_some, c2, Option.bind_some, gb.chk]
        · rw [regsL_app, regsL_app, ga.regs P2 p2_in, regsL_cons, Stm.regs, regsL_cons, Gh.regs P2 p2_in, regsL_cons, Stm.regs, regsL, regsL, regsL, gb.regs P2 p2_in]
        · have e1 : ∀ (a b : List Stm), nLs a = 0 → lstL b = true → lstL (a ++ b) = true := by
            intro a
            induction a with
            | nil => intro b _ hb; exact hb
            | cons s r ih =>
              intro b h0 hb
              rw [nLs_cons] at h0
              rw [List.cons_append]
              have hs1 : s.lst = true := by
                have q := lstL_of [s] (by rw [nLs_cons, nLs]; omega)
                cases s with
                | ite t a b => rw [lstL] at q <;> first | simpa [lstL] using q | (intro w; cases w)
                | put x y => rw [Stm.lst] <;> (intros; contradiction)
                | call x f ys => rw [Stm.lst] <;> (intros; contradiction)
                | act x d ys => rw [Stm.lst] <;> (intros; contradiction)
                | leave => simp [Stm.nL] at h0
              exact lst_ok (by omega) hs1 (ih b (by omega) hb)
          rw [List.append_assoc]
          refine e1 _ _ ga.nL ?_
          show lstL (Stm.ite (.same y z) [h, .leave] [] :: st.drop (st.length - 1)) = true
          rw [lstL, gb.lst, Stm.lst, hlv] <;> first | decide +kernel | (intro w; cases w)
        · rw [nmdL_app, nmdL_app, ga.nmd, gb.nmd, nmdL_cons, nmd_ite, ht.2, nmdL_cons, Gh.nmd]
          decide +kernel
        · rw [wts_app, wts_app, wts_cons, wi, wts_cons, wts_cons, wts]
          simp only [Stm.wt]
          omega
      · have hs := tst_src pl_t22i (t := .same (.ofString "item") (.ofString "s")) ⟨by decide +kernel, by decide +kernel⟩
        have wi : (Stm.ite (.same (.ofString "item") (.ofString "s")) [] [.leave]).wt = 1 + (wts [] + wts [.leave]) := by rw [Stm.wt]
        have wo : (Stm.ite (.same y z) [.ite (.same (.ofString "item") (.ofString "s")) [] [.leave], l] [h]).wt = 1 + (wts [.ite (.same (.ofString "item") (.ofString "s")) [] [.leave], l] + wts [h]) := by rw [Stm.wt]
        have ci : chkS true (.ite (.same (.ofString "item") (.ofString "s")) [] [.leave]) (some P2) = some (some P2) := by
          rw [chkS, hs.1]
          decide +kernel
        have li : (Stm.ite (.same (.ofString "item") (.ofString "s")) [] [.leave]).lst = true := by decide +kernel
        refine ⟨some P2, ?_, ?_, ?_, ?_, ?_⟩
        · have cA : chkL true [.ite (.same (.ofString "item") (.ofString "s")) [] [.leave], l] (some P2) = some (some P2) := by rw [chkL_cons, ci, Option.bind_some, chkL_cons, Gl.chk, Option.bind_some, chkL_nil]
          have cB : chkL true [h] (some P2) = some (some P2) := by rw [chkL_cons, Gh.chk, Option.bind_some, chkL_nil]
          rw [chkL_cons, chkS, ht.1, cA, cB]
          show (some (meet (some P2) (some P2))).bind _ = _
          rw [meet_self, Option.bind_some, g.chk]
        · have er : (Stm.ite (.same (.ofString "item") (.ofString "s")) [] [.leave]).regs P2 = P2 := by decide +kernel
          have r1 : regsL [.ite (.same (.ofString "item") (.ofString "s")) [] [.leave], l] P2 = P2 := by rw [regsL_cons, er, regsL_cons, Gl.regs P2 p2_in, regsL]
          have r2 : regsL [h] P2 = P2 := by rw [regsL_cons, Gh.regs P2 p2_in, regsL]
          rw [regsL_cons, Stm.regs, r1, r2, g.regs P2 p2_in]
        · have l1 : lstL [.ite (.same (.ofString "item") (.ofString "s")) [] [.leave], l] = true := by
            rw [lstL, li, lst_ok Gl.nL Gl.lst (by rw [lstL])] <;> first | rfl | (intro w; cases w)
          have l2 : lstL [h] = true := lst_ok Gh.nL Gh.lst (by rw [lstL])
          rw [lstL, g.lst, Stm.lst, l1, l2] <;> first | rfl | (intro w; cases w)
        · have n1 : nmdL rs2 [.ite (.same (.ofString "item") (.ofString "s")) [] [.leave], l] = true := by
            have n0 : nmdL rs2 [l] = true := by
              rw [nmdL_cons, Gl.nmd, nmdL]
              rfl
            rw [nmdL_cons, nmd_ite, hs.2, n0]
            decide +kernel
          have n2 : nmdL rs2 [h] = true := by
            rw [nmdL_cons, Gh.nmd, nmdL]
            rfl
          rw [nmdL_cons, nmd_ite, ht.2, n1, n2, g.nmd]
          rfl
        · rw [wts_cons, wo, wts_cons, wi, wts_cons, wts_cons, wts_cons, wts]
          simp only [Stm.wt]
          omega
      · exact absurd e hc
    obtain ⟨q, k1, k2, k3, k4, k5⟩ := key
    refine ⟨rs2, .inl rfl, ?_, ⟨P2, q, some P2, s1.chk, k1, g3.chk⟩, ⟨s1.lst, k3, g3.lst⟩, ⟨s1.nmd, k4, g3.nmd⟩, ⟨by have := s1.small; show wts ss ≤ 45; omega, by show wts st' ≤ 45; omega, by show wts se ≤ 45; omega⟩, ⟨nIw _ (by have := s1.small; show wts ss ≤ 18; omega), nIw _ k5, nIw _ (by show wts se ≤ 18; omega)⟩, ⟨s1.nL, g3.nL⟩⟩
    show regsL se (regsL st' (regsL ss [])) = rs2
    rw [s1.regs, k2, g3.regs P2 p2_in]
    rfl
/-! ### what is checked can be run; the deeds' names -/
theorem regOk_ni {x : Str} (h : regOk x = true) : x ≠ Str.ofString "item" := by
  intro z
  subst z
  exact absurd h (by decide +kernel)
mutual
theorem chk_wf {turn : Bool} : ∀ (s : Stm) (p q : Put), chkS turn s p = some q → s.wf = true
  | .put x y, p, q, h => by
    rw [chkS] at h
    split at h
    · rename_i e
      rw [Stm.wf, decide_eq_false (regOk_ni (Bool.and_eq_true_iff.mp e).1)]
      rfl
    · cases h
  | .call x f ys, p, q, h => by
    rw [chkS] at h
    split at h
    · rename_i e
      obtain ⟨e1, e2⟩ := Bool.and_eq_true_iff.mp e
      rw [Stm.wf, decide_eq_false (regOk_ni e1), decide_eq_true (ariF_le (of_decide_eq_true (Bool.and_eq_true_iff.mp e2).1))]
      rfl
    · cases h
  | .act (some x) d ys, p, q, h => by
    rw [chkS] at h
    split at h
    · rename_i e
      obtain ⟨e1, e2⟩ := Bool.and_eq_true_iff.mp e
      rw [Stm.wf, decide_eq_false (fun z => regOk_ni e1 (Option.some.inj z)), decide_eq_true (ariD_le (of_decide_eq_true (Bool.and_eq_true_iff.mp e2).1))]
      rfl
    · cases h
  | .act none d ys, p, q, h => by
    rw [chkS] at h
    split at h
    · rename_i e
      rw [Stm.wf, decide_eq_false (fun z => by cases z), decide_eq_true (ariD_le (of_decide_eq_true (Bool.and_eq_true_iff.mp e).1))]
      rfl
    · cases h
  | .leave, p, q, h => by rw [Stm.wf]
  | .ite t a b, p, q, h => by
    rw [chkS] at h
    split at h
    · rename_i e
      obtain ⟨q1, h1, h⟩ := Option.bind_eq_some_iff.mp h
      obtain ⟨q2, h2, h⟩ := Option.bind_eq_some_iff.mp h
      rw [Stm.wf, chk_wfs a p q1 h1, chk_wfs b p q2 h2]
      cases t with
      | same y z => rfl
      | ask f ys =>
        rw [tstOk] at e
        have := (ariT_inv (of_decide_eq_true (Bool.and_eq_true_iff.mp e).1)).2
        rw [tstWf, decide_eq_true (by omega)]
        rfl
    · cases h
theorem chk_wfs {turn : Bool} : ∀ (ss : List Stm) (p q : Put), chkL turn ss p = some q → wfs ss = true
  | [], p, q, h => by rw [wfs]
  | s :: r, p, q, h => by
    rw [chkL_cons] at h
    obtain ⟨q1, h1, h2⟩ := Option.bind_eq_some_iff.mp h
    rw [wfs_cons, chk_wf s p q1 h1, chk_wfs r q1 q h2]
    rfl
end
def dkn (d : Str) : Bool := (ariD d).isSome
mutual
def Stm.dks : Stm → Bool
  | .act _ d _ => dkn d
  | .ite _ a b => dksL a && dksL b
  | _ => true
def dksL : List Stm → Bool
  | [] => true
  | s :: r => s.dks && dksL r
end
theorem dksL_cons (s : Stm) (r : List Stm) : dksL (s :: r) = (s.dks && dksL r) := by rw [dksL]
theorem dksL_app : ∀ a b : List Stm, dksL (a ++ b) = (dksL a && dksL b)
  | [], b => by rw [List.nil_append, dksL, Bool.true_and]
  | s :: r, b => by rw [List.cons_append, dksL_cons, dksL_app r b, dksL_cons, Bool.and_assoc]
mutual
theorem chk_dk {turn : Bool} : ∀ (s : Stm) (p q : Put), chkS turn s p = some q → s.dks = true
  | .put x y, p, q, h => by rw [Stm.dks] <;> (intros; contradiction)
  | .call x f ys, p, q, h => by rw [Stm.dks] <;> (intros; contradiction)
  | .act (some x) d ys, p, q, h => by
    rw [chkS] at h
    split at h
    · rename_i e
      obtain ⟨e1, e2⟩ := Bool.and_eq_true_iff.mp e
      rw [Stm.dks, dkn, of_decide_eq_true (Bool.and_eq_true_iff.mp e2).1]
      rfl
    · cases h
  | .act none d ys, p, q, h => by
    rw [chkS] at h
    split at h
    · rename_i e
      rw [Stm.dks, dkn, of_decide_eq_true (Bool.and_eq_true_iff.mp e).1]
      rfl
    · cases h
  | .leave, p, q, h => by rw [Stm.dks] <;> (intros; contradiction)
  | .ite t a b, p, q, h => by
    rw [chkS] at h
    split at h
    · obtain ⟨q1, h1, h⟩ := Option.bind_eq_some_iff.mp h
      obtain ⟨q2, h2, h⟩ := Option.bind_eq_some_iff.mp h
      rw [Stm.dks, chk_dks a p q1 h1, chk_dks b p q2 h2]
      rfl
    · cases h
theorem chk_dks {turn : Bool} : ∀ (ss : List Stm) (p q : Put), chkL turn ss p = some q → dksL ss = true
  | [], p, q, h => by rw [dksL]
  | s :: r, p, q, h => by
    rw [chkL_cons] at h
    obtain ⟨q1, h1, h2⟩ := Option.bind_eq_some_iff.mp h
    rw [dksL_cons, chk_dk s p q1 h1, chk_dks r q1 q h2]
    rfl
end
def DKn (ds : List Deed) : Prop := ∀ x ∈ ds, dkn x.1 = true
theorem run_dk {U : Tab} {it : Option Int} {res : List Int} : ∀ (n : Nat) (ss : List Stm) (σ : Sto) (ds : List Deed) (p : Sto × List Deed × Bool), dksL ss = true → DKn ds → run U it res n ss σ ds = some p → DKn p.2.1
  | 0, ss, σ, ds, p, _, _, h => by rw [run] at h; cases h
  | n + 1, [], σ, ds, p, _, hd, h => by rw [run_nil] at h; cases h; exact hd
  | n + 1, s :: r, σ, ds, p, hs, hd, h => by
    rw [dksL_cons] at hs
    obtain ⟨hs1, hs2⟩ := Bool.and_eq_true_iff.mp hs
    by_cases hp : s.pln
    · rw [run_step hp] at h
      obtain ⟨⟨σ2, ds2⟩, h1, h2⟩ := Option.bind_eq_some_iff.mp h
      refine run_dk n r σ2 ds2 p hs2 ?_ h2
      cases s with
      | put x y =>
        rw [stepS] at h1
        obtain ⟨_, _, z⟩ := Option.bind_eq_some_iff.mp h1
        cases z
        exact hd
      | call x f zs =>
        rw [stepS] at h1
        obtain ⟨_, _, z⟩ := Option.bind_eq_some_iff.mp h1
        obtain ⟨_, _, z⟩ := Option.bind_eq_some_iff.mp z
        cases z
        exact hd
      | act x d zs =>
        rw [stepS] at h1
        obtain ⟨_, _, z⟩ := Option.bind_eq_some_iff.mp h1
        cases z
        intro y hy
        rcases List.mem_append.mp hy with e | e
        · exact hd y e
        · cases List.mem_singleton.mp e
          rw [Stm.dks] at hs1
          exact hs1
      | leave => cases hp
      | ite t a b => cases hp
    · cases s with
      | put x y => exact absurd trivial hp
      | call x f zs => exact absurd trivial hp
      | act x d zs => exact absurd trivial hp
      | leave => rw [run_leave] at h; cases h; exact hd
      | ite t a b =>
        rw [run_ite] at h
        obtain ⟨c, _, h2⟩ := Option.bind_eq_some_iff.mp h
        rw [Stm.dks] at hs1
        obtain ⟨ha, hb⟩ := Bool.and_eq_true_iff.mp hs1
        refine run_dk n _ σ ds p ?_ hd h2
        rw [dksL_app, hs2]
        cases c
        · rw [if_neg Bool.false_ne_true, hb]; rfl
        · rw [if_pos rfl, ha]; rfl
end K21
set_option Elab.async false
set_option linter.all false
set_option maxRecDepth 100000
set_option maxHeartbeats 1000000
namespace K21
open PySem PySem.Spec PyProof.Rows L2
/-! ### the tables of the law -/
def asInt : Option V → Option Int
  | some (.int i) => some i
  | _ => none
def mkTab (ca cb : Int) (kf kg : List (List Key × V)) (l : List (List Int)) : Tab :=
  ⟨fun x => if x = "a" then some ca else if x = "b" then some cb else none, fun g vs => if g = "f" then asInt (valV kf (vs.map .inl)) else if g = "g" then asInt (valV kg (vs.map .inl)) else none, fun p => if p = "p" then some l else none⟩
theorem tab_ok {m : Nat} {ca cb : Int} {kf kg : List (List Key × V)} {l : List (List Int)} (hm : 1 ≤ m) (ha : D0 m ca) (hb : D0 m cb) (hne : ca ≠ cb) (h1 : F1 m kf) (h2 : F2 m kg) : TabOk (mkTab ca cb kf kg l) m := by
  have nat_of : ∀ v : Int, D0 m v → ∃ i : Nat, i < m ∧ v = (i : Int) := fun v hv => by
    obtain ⟨i, hi⟩ := Int.eq_ofNat_of_zero_le hv.1
    exact ⟨i, by have := hv.2; omega, hi⟩
  refine ⟨fun x hx => ?_, fun x hx => ?_, fun f vs hf hvs => ?_, fun p k hp => ?_, ?_⟩
  · rcases mem_ab hx with rfl | rfl
    · exact ⟨ca, rfl, ha⟩
    · refine ⟨cb, ?_, hb⟩
      show (if Str.ofString "b" = Str.ofString "a" then some ca else if Str.ofString "b" = Str.ofString "b" then some cb else none) = some cb
      rw [if_neg (by decide +kernel), if_pos rfl]
  · show (if x = Str.ofString "a" then some ca else if x = Str.ofString "b" then some cb else none) = none
    have na : x ≠ Str.ofString "a" := fun z => by rw [z] at hx; exact absurd hx (by decide +kernel)
    have nb : x ≠ Str.ofString "b" := fun z => by rw [z] at hx; exact absurd hx (by decide +kernel)
    rw [if_neg na, if_neg nb]
  · unfold ariF at hf
    split at hf
    · rename_i e
      have hl := Option.some.inj hf
      obtain ⟨v, rfl⟩ : ∃ v, vs = [v] := by
        match vs, hl with
        | [v], _ => exact ⟨v, rfl⟩
      obtain ⟨i, hi, rfl⟩ := nat_of v (hvs v List.mem_cons_self)
      obtain ⟨r, hr, hr2⟩ := h1 i hi
      refine ⟨r, ?_, hr2⟩
      show (if f = Str.ofString "f" then asInt (valV kf [.inl (i : Int)]) else _) = some r
      rw [if_pos e, hr]
      rfl
    · rename_i e
      split at hf
      · rename_i e2
        have hl := Option.some.inj hf
        obtain ⟨v, u, rfl⟩ : ∃ v u, vs = [v, u] := by
          match vs, hl with
          | [v, u], _ => exact ⟨v, u, rfl⟩
        obtain ⟨i, hi, rfl⟩ := nat_of v (hvs v List.mem_cons_self)
        obtain ⟨j, hj, rfl⟩ := nat_of u (hvs u (List.mem_cons_of_mem _ List.mem_cons_self))
        obtain ⟨r, hr, hr2⟩ := h2 i j hi hj
        refine ⟨r, ?_, hr2⟩
        show (if f = Str.ofString "f" then _ else if f = Str.ofString "g" then asInt (valV kg [.inl (i : Int), .inl (j : Int)]) else none) = some r
        rw [if_neg e, if_pos e2, hr]
        rfl
      · cases hf
  · obtain ⟨rfl, _⟩ := ariT_inv hp
    exact ⟨l, rfl⟩
  · intro z
    have e1 : (mkTab ca cb kf kg l).cst "a" = some ca := rfl
    have e2 : (mkTab ca cb kf kg l).cst "b" = some cb := by
      show (if Str.ofString "b" = Str.ofString "a" then some ca else if Str.ofString "b" = Str.ofString "b" then some cb else none) = some cb
      rw [if_neg (by decide +kernel), if_pos rfl]
    rw [e1, e2] at z
    exact hne (Option.some.inj z)
theorem asInt_some {o : Option V} {r : Int} (h : asInt o = some r) : o = some (.int r) := by
  cases o with
  | none => cases h
  | some v =>
    cases v <;> first | cases h | skip
    rfl
theorem tab_at {K : PySem.W.Frag} {H : Hp} {tb cc f t df dg tp : Addr} {ca cb : Int} {kf kg : List (List Key × V)} {l : List V} {qs : List (List Int)} (h0 : H tb = some (.dK [(.inr "constants", .ref cc), (.inr "functions", .ref f), (.inr "tests", .ref t)]))
    (hc : H cc = some (.dK [(.inr "a", .int ca), (.inr "b", .int cb)])) (h1 : H f = some (.dK [(.inr "f", .ref df), (.inr "g", .ref dg)])) (h2 : H df = some (.dT kf)) (h3 : H dg = some (.dT kg)) (h4 : H t = some (.dK [(.inr "p", .ref tp)])) (h5 : H tp = some (.lst l)) (h6 : DpAll K (tups H) l (qs.map encI)) : TabAt K H tb (mkTab ca cb kf kg qs) := by
  refine ⟨cc, f, t, _, h0, ⟨hc, by show 2 ≤ 10; omega, fun x => ?_⟩, ⟨_, h1, fun g vs r hr => ?_⟩, ⟨_, h4, fun p l' hl => ?_⟩, ?_⟩
  · show _ = (if x = Str.ofString "a" then some ca else if x = Str.ofString "b" then some cb else none).map V.int
    by_cases ea : x = Str.ofString "a"
    · rw [if_pos ea, ea]; rfl
    · rw [if_neg ea, valV_neg (p := ((Sum.inr (Str.ofString "a") : Key), V.int ca)) (fun z => ea (Sum.inr.inj z).symm)]
      by_cases eb : x = Str.ofString "b"
      · rw [if_pos eb, eb]; rfl
      · rw [if_neg eb, valV_neg (p := ((Sum.inr (Str.ofString "b") : Key), V.int cb)) (fun z => eb (Sum.inr.inj z).symm)]
        rfl
  · have hr : (if g = Str.ofString "f" then asInt (valV kf (vs.map .inl)) else if g = Str.ofString "g" then asInt (valV kg (vs.map .inl)) else none) = some r := hr
    split at hr
    · rename_i e
      subst e
      exact ⟨df, kf, rfl, h2, asInt_some hr⟩
    · split at hr
      · rename_i e
        subst e
        refine ⟨dg, kg, ?_, h3, asInt_some hr⟩
        rw [valV_neg (p := ((Sum.inr (Str.ofString "f") : Key), V.ref df)) (fun z => by have := Sum.inr.inj z; exact absurd this (by decide +kernel))]
        rfl
      · cases hr
  · have hl : (if p = Str.ofString "p" then some qs else none) = some l' := hl
    split at hl
    · rename_i e
      subst e
      cases hl
      exact ⟨.ref tp, rfl, .lst (SqL.of h5) (h6.up tups_in)⟩
    · cases hl
  · show (if Str.ofString "item" = Str.ofString "a" then some ca else if Str.ofString "item" = Str.ofString "b" then some cb else none) = none
    rw [if_neg (by decide +kernel), if_neg (by decide +kernel)]
/-! ### the results, cut into sections -/
theorem pick {H : Hp} {R : List Int → Prop} : ∀ {vs : List V}, (∀ (i : Nat) (v : V), vs[i]? = some v → ∃ (p : Addr) (r : List Int), v = .ref p ∧ H p = some (.lst (r.map V.int)) ∧ R r) → ∃ ress : List (List Int), ress.length = vs.length ∧ ∀ (i : Nat) (r : List Int), ress[i]? = some r → R r ∧ ∃ b : Addr, vs[i]? = some (.ref b) ∧ H b = some (.lst (r.map V.int))
  | [], _ => ⟨[], rfl, fun i r h => by simp at h⟩
  | v :: vs, h => by
    obtain ⟨p, r, rfl, h1, h2⟩ := h 0 v rfl
    obtain ⟨ress, hl, hr⟩ := pick (vs := vs) (R := R) fun i v hv => h (i + 1) v hv
    refine ⟨r :: ress, by rw [List.length_cons, List.length_cons, hl], fun i r' hi => ?_⟩
    cases i with
    | zero => cases hi; exact ⟨h2, p, rfl, h1⟩
    | succ i => exact hr i r' hi
theorem split2 {ress : List (List Int)} {n : Nat} (h : ress.length = n + 2) : ∃ r0 mid re, ress = r0 :: (mid ++ [re]) ∧ mid.length = n := by
  cases ress with
  | nil => cases h
  | cons r0 rest =>
    have hl : rest.length = n + 1 := by simpa using h
    have hne : rest ≠ [] := fun z => by rw [z] at hl; cases hl
    refine ⟨r0, rest.dropLast, rest.getLast hne, ?_, by rw [List.length_dropLast, hl]; rfl⟩
    rw [List.dropLast_concat_getLast]
/-! ### the loops in the law's dicts; the told loop's -/
theorem loopD_of {K : PySem.W.Frag} {H : Hp} {d : Addr} {L : Lp} {Rg : List Str} (h : LawLp K H d L.start L.turn L.fin) (k : LpOk L Rg) : LoopD K H d true L := by
  obtain ⟨ls, lt, le, xs, xt, xe, hd, h1, h2, h3, d1, d2, d3⟩ := h
  obtain ⟨p1, a1, a2, a3, a4, a5⟩ := k.chk
  have u1 : SecOk L.start := secOk_of k.ifs.1 k.small.1 a3
  have u2 : SecOk L.turn := secOk_of k.ifs.2.1 k.small.2.1 a4
  have u3 : SecOk L.fin := secOk_of k.ifs.2.2 k.small.2.2 a5
  have lf : ∀ {ss : List Stm}, SecOk ss → max ss.length (mxs ss) ≤ 1000 := fun {ss} u => Nat.max_le.mpr ⟨Nat.le_trans (len_wts ss) (by have := u.w; omega), by have := u.m; omega⟩
  exact ⟨ls, lt, le, hd, ⟨xs, h1, d1, chk_wfs _ _ _ a3, lf u1⟩, ⟨xt, h2, d2, chk_wfs _ _ _ a4, lf u2⟩, ⟨xe, h3, d3, chk_wfs _ _ _ a5, lf u3⟩⟩
/-! ### the deeds are data -/
def DKs (outs : List (List Deed)) : Prop := ∀ ds ∈ outs, DKn ds
theorem part_dk {U : Tab} {L : Lp} {Rg : List Str} (k : LpOk L Rg) {sec : Sec} {res : List Int} {σ σ' : Sto} {l l' : Bool} {d d' : List Deed} {B : Nat} (h : Part B U L sec res σ l d σ' l' d') (hd : DKn d) : DKn d' := by
  obtain ⟨p1, a1, a2, a3, a4, a5⟩ := k.chk
  cases sec with
  | start =>
    obtain ⟨n, b, _, h2, _⟩ := h
    exact run_dk _ _ _ _ _ (chk_dks _ _ _ a3) hd h2
  | turn i =>
    rcases h with ⟨_, _, _, h4⟩ | ⟨_, n, _, h3⟩
    · rw [h4]; exact hd
    · exact run_dk _ _ _ _ _ (chk_dks _ _ _ a4) hd h3
  | fin =>
    obtain ⟨n, b, _, h2⟩ := h
    exact run_dk _ _ _ _ _ (chk_dks _ _ _ a5) hd h2
theorem jrun_dk {U : Tab} {L1 L2 : Lp} {R1 R2 : List Str} (k1 : LpOk L1 R1) (k2 : LpOk L2 R2) : ∀ (l : List (Sec × List Int)) (S : JS) (outs : List (List Deed)), JRun U L1 L2 l S outs → DKs outs
  | [], S, outs, h => by cases h; exact fun ds hd => by cases hd
  | x :: r, S, outs, h => by
    obtain ⟨S', ds, rest, ⟨d, PA, PB⟩, rfl, h2⟩ := h
    have q := jrun_dk k1 k2 r S' rest h2
    intro y hy
    rcases List.mem_cons.mp hy with e | e
    · rw [e]
      exact part_dk k2 PB (part_dk k1 PA (fun x hx => by cases hx))
    · exact q y e
theorem dkn_lay {d : Str} (h : dkn d = true) : PyData.canLay0 (.str d) = true := by
  unfold dkn ariD at h
  split at h
  · rename_i e
    rw [e]
    decide +kernel
  · split at h
    · rename_i e
      rw [e]
      decide +kernel
    · cases h
theorem lay_ds : ∀ ds : List Deed, DKn ds → PyData.canLayAll0 (ds.map encD) = true ∧ PyData.depthAll (ds.map encD) ≤ 2
  | [], _ => by simp [PyData.canLayAll0, PyData.depthAll]
  | a :: as, h => by
    obtain ⟨h1, h2⟩ := lay_ds as fun x hx => h x (List.mem_cons_of_mem _ hx)
    obtain ⟨h3, h4⟩ := lay_int a.2
    have h5 := dkn_lay (h a List.mem_cons_self)
    have e1 : PyData.canLay0 (encD a) = true := by
      unfold encD
      rw [PyData.canLay0, PyData.canLayAll0, PyData.canLayAll0, PyData.canLayAll0, h5, h3]
      rfl
    have e2 : PyData.depth (encD a) = 2 := by
      unfold encD
      rw [PyData.depth, PyData.depthAll, PyData.depthAll, PyData.depthAll, h4, PyData.depth]
      rfl
    rw [List.map_cons, PyData.canLayAll0, PyData.depthAll, h1, e1, e2]
    exact ⟨rfl, by omega⟩
theorem lay_os : ∀ outs : List (List Deed), DKs outs → PyData.canLayAll0 (outs.map encO) = true ∧ PyData.depthAll (outs.map encO) ≤ 3
  | [], _ => by simp [PyData.canLayAll0, PyData.depthAll]
  | a :: as, h => by
    obtain ⟨h1, h2⟩ := lay_os as fun x hx => h x (List.mem_cons_of_mem _ hx)
    obtain ⟨h3, h4⟩ := lay_ds a (h a List.mem_cons_self)
    have e1 : PyData.canLay0 (encO a) = true := by
      unfold encO
      rw [PyData.canLay0, h3]
    have e2 : PyData.depth (encO a) ≤ 3 := by
      unfold encO
      rw [PyData.depth]
      omega
    rw [List.map_cons, PyData.canLayAll0, PyData.depthAll, h1, e1]
    exact ⟨rfl, by omega⟩
theorem shaped_os {outs : List (List Deed)} (h : DKs outs) : SeqAt.shaped (.list (outs.map encO)) = true := by
  obtain ⟨h1, h2⟩ := lay_os outs h
  unfold SeqAt.shaped
  rw [PyData.canLay0, PyData.depth, h1]
  exact decide_eq_true (by omega)
theorem eqv_os {outs : List (List Deed)} (h : DKs outs) : PyData.eqv (.list (outs.map encO)) (.list (outs.map encO)) = true :=
  SeqAt.eqv_refl _ (by rw [PyData.canLay0]; exact (lay_os outs h).1)
end K21
set_option Elab.async false
set_option linter.all false
set_option maxRecDepth 100000
set_option maxHeartbeats 2000000
namespace K21
open PySem PySem.Spec PyProof.Rows L2
/-- the scope of the comprehension of the results -/
abbrev lawSc : Scope := { kind := ScopeKind.function, names := [(".0", .local), ("_law_k", .local), ("_law_draws", .cell), ("_law_many", .cell)], isGenerator := false, isCoroutine := false }
def spLaw (K : PySem.W.Frag) : Sp := fun vs H Q _ => ∃ (a : Addr) (ns : List Int), vs = [.ref a] ∧ SqL K H a (ns.map V.int) ∧ ∀ H', Q (.bl true) H'
theorem disp_same {H : Hp} {p : Addr} {o o2 : HO} (h : H p = none) : Same H (upd (upd H p o) p o2) := fun a u q => by
  rw [upd_ne (ne_of_none q h), upd_ne (ne_of_none q h)]
  exact q
def szL : List Int := [2, 5] ++ List.replicate 38 60 ++ List.replicate 4 60 ++ List.replicate 18 60
theorem szL_ok : (∀ s ∈ szL, 0 < s ∧ s < 1000) ∧ szL.length = 62 := ⟨by decide, rfl⟩
/-- what the law holds before its worlds -/
def Held (K : PySem.W.Frag) (H : Hp) (va d1 d2 o nm : Addr) (L1 L2 : Lp) (R2 Rt : List Str) : Prop := VocAt K H va ∧ LawLp K H d1 L1.start L1.turn L1.fin ∧ LawLp K H d2 L2.start L2.turn L2.fin ∧ LoopAt K H o nm (told L1 L2 R2) Rt
theorem LawLp.up {K : PySem.W.Frag} {H H' : Hp} {d : Addr} {ss st se : List Stm} (h : LawLp K H d ss st se) (e : Same H H') : LawLp K H' d ss st se := by
  obtain ⟨ls, lt, le, xs, xt, xe, hd, h1, h2, h3, d1, d2, d3⟩ := h
  exact ⟨ls, lt, le, xs, xt, xe, e _ _ hd, e _ _ h1, e _ _ h2, e _ _ h3, d1.up e, d2.up e, d3.up e⟩
theorem Held.up {K : PySem.W.Frag} {H H' : Hp} {va d1 d2 o nm : Addr} {L1 L2 : Lp} {R2 Rt : List Str} (h : Held K H va d1 d2 o nm L1 L2 R2 Rt) (e : Same H H') : Held K H' va d1 d2 o nm L1 L2 R2 Rt := ⟨h.1.up e, h.2.1.up e, h.2.2.1.up e, h.2.2.2.up e⟩
section
variable {P : Program} {w : World} {K : PySem.W.Frag} {mg : Str → Option Value} {base : Heap}
theorem sc_law : FnScope ["_law_script", "_law_row_here", "_law_vocabulary_here", "_law_names_here", "_law_one", "_law_other", "_law_made_here", "_law_far", "_law_told", "_law_turn", "_law_draws", "_law_many", "_law_tables_here", "_law_items", "_law_results", "_law_due", "_law_loop_here", "_law_draw", "_law_k", "_law_word"] ["_law_script"] (defScope s_law) := ⟨rfl, rfl, rfl, by decide +kernel, rfl, by decide +kernel, by decide +kernel⟩
theorem ok_law (T : Txt K mg) {fd : FuncData} (F : FnP K "law" "law" s_law [] (He.fAd K ("law", none)) fd) : FnOk P w K mg base CX0 (51) (He.fAd K ("law", none)) fd ["_law_script"] (spLaw K) := by
  refine fn_ok F sc_law (fun vs H Q E h => ?_) (fun cdv A outer s H vs Q E hr h => ?_)
  · obtain ⟨a, ns, rfl, ha, k⟩ := h
    rfl
  obtain ⟨a, ns, rfl, ha, k⟩ := h
  have X := exN_of T
  obtain ⟨fdE, FE, bE⟩ := ok_Names_eq (P := P) (w := w) (base := base) T
  have c_law_row := ok_law_row (P := P) (w := w) (base := base) T
  have c_law_cell := ok_law_cell (P := P) (w := w) (base := base) T
  have c_law_loop := ok_law_loop (P := P) (w := w) (base := base) T
  have c_law_with_leaves := ok_law_with_leaves (P := P) (w := w) (base := base) T
  have c_law_made := ok_law_made (P := P) (w := w) (base := base) T
  have c_beside := ok_beside (P := P) (w := w) (base := base) T
  have c_law_leaves := ok_lvs (P := P) (w := w) (base := base) T 20 true
  have c_Loop_section := ok_Loop_section (P := P) (w := w) (base := base) T
  have c_law_tables := ok_law_tables (P := P) (w := w) (base := base) T
  have c_law_joint_played := ok_law_joint_played (P := P) (w := w) (base := base) T
  have c_law_played := ok_law_played (P := P) (w := w) (base := base) T
  have c_Names : Mak P w K mg base 6 "Names" (He.ga K "Names") (spNmInit K) := ok_Names_init T
  have sc := sc_law
  have hu := hu_of hr
  refine ⟨_, (pss_cons (ps_par (i := 1) (j := 2) rfl sc.nd rfl rfl (by decide) rfl rfl (pa_cons (pc c_law_row hr (by omega) (pa_cons (pc c_law_cell hr (by omega) (pa_cons (pv 0) (pa_cons pe_int pa_nil))) (pa_cons (pe_lst (pa_cons pe_int (pa_cons pe_int (pa_cons pe_int (pa_cons pe_int pa_nil))))) pa_nil))) (pa_cons (pe_tup (pa_cons (pe_lst (pa_cons pe_str (pa_cons pe_str pa_nil))) (pa_cons (pe_disp (pps_cons pe_str pe_int (pps_cons pe_str pe_int pps_nil)) (by rfl) (by rfl) (fun z => by cases z) (by decide)) (pa_cons (pe_disp (pps_cons pe_str pe_int pps_nil) (by rfl) (by rfl) (fun z => by cases z) (by decide)) pa_nil)))) pa_nil)) rfl)
      (pss_cons (pset 2 sc.nd (pe_op op_catT (pv 2) (pe_tup (pa_cons (pe_disp (pps_cons pe_str pe_int (pps_cons pe_str pe_int pps_nil)) (by rfl) (by rfl) (fun z => by cases z) (by decide)) (pa_cons pe_dnewK (pa_cons (pe_lst pa_nil) (pa_cons (pe_lst pa_nil) pa_nil)))))))
      (pss_cons (pset 3 sc.nd (pmk c_Names hr (by omega) (pa_cons (pe_lst (pa_cons pe_str (pa_cons pe_str pa_nil))) (pa_cons (pe_disp (pps_cons pe_str pe_int (pps_cons pe_str pe_int pps_nil)) (by rfl) (by rfl) (fun z => by cases z) (by decide)) (pa_cons (pe_disp (pps_cons pe_str pe_int pps_nil) (by rfl) (by rfl) (fun z => by cases z) (by decide)) (pa_cons (pe_disp (pps_cons pe_str pe_int (pps_cons pe_str pe_int pps_nil)) (by rfl) (by rfl) (fun z => by cases z) (by decide)) (pa_cons pe_dnewK (pa_cons (pe_lst pa_nil) (pa_cons (pe_lst (pa_cons (pe_tup (pa_cons pe_str (pa_cons pe_str pa_nil))) pa_nil)) pa_nil)))))))))
      (pss_cons (pset 4 sc.nd (pc c_law_with_leaves hr (by omega) (pa_cons (pc c_law_loop hr (by omega) (pa_cons (pc c_law_cell hr (by omega) (pa_cons (pv 0) (pa_cons pe_int pa_nil))) (pa_cons (pv 2) (pa_cons pe_int pa_nil)))) (pa_cons (pe_op op_cat (pe_lst (pa_cons (pe_ix ix_list (pv 1) pe_int (fun _ _ => rfl)) pa_nil)) (pe_slice sl_list (pv 1) (po_some pe_int) (po_some pe_int))) pa_nil))))
      (pss_cons (pset 5 sc.nd (pc c_law_with_leaves hr (by omega) (pa_cons (pc c_law_loop hr (by omega) (pa_cons (pc c_law_cell hr (by omega) (pa_cons (pv 0) (pa_cons pe_int pa_nil))) (pa_cons (pv 2) (pa_cons pe_int pa_nil)))) (pa_cons (pe_slice sl_list (pv 1) po_none (po_some pe_int)) pa_nil))))
      (pss_cons (ps_par (i := 6) (j := 7) rfl sc.nd rfl rfl (by decide) rfl rfl (pa_cons (pc c_law_made hr (by omega) (pa_cons (pv 3) (pa_cons (pv 4) pa_nil))) (pa_cons (pc c_law_made hr (by omega) (pa_cons (pv 3) (pa_cons (pv 5) pa_nil))) pa_nil)) rfl)
      (pss_cons (pset 8 sc.nd (pc c_beside hr (by omega) (pa_cons (pv 6) (pa_cons (pv 7) pa_nil))))
      (pss_cons (ps_if (PW.pt (pw_or (pt_cmpR (op_neOwn FE X.mro X.ne X.eq X.fn bE (hr.mono (by omega))) (pe_fld (pv 8) rfl) (pv 3) (nomark _)) (pw_or1 (pt_val (pc c_law_leaves hr (by omega) (pa_cons (pmt c_Loop_section hr (by omega) (pv 8) (pa_cons pe_str pa_nil)) pa_nil)))))) (pss_one (ps_ret pe_bl)) pss_nil)
      (pss_cons (ps_for PassesOwn.never rfl (pi_range1 rfl T.b_range (pa_cons pe_int pa_nil)) (pgn 9 sc.nd)
        (pss_cons (pset 10 sc.nd (pc c_law_row hr (by omega) (pa_cons (pc c_law_cell hr (by omega) (pa_cons (pv 0) (pa_cons (pe_op op_add pe_int (pv 9)) pa_nil))) (pa_cons (pe_op op_cat (pe_op op_cat (pe_op op_cat (pe_lst (pa_cons pe_int (pa_cons pe_int pa_nil))) (pe_op op_rep (pe_lst (pa_cons pe_int pa_nil)) pe_int)) (pe_op op_rep (pe_lst (pa_cons pe_int pa_nil)) pe_int)) (pe_op op_rep (pe_lst (pa_cons pe_int pa_nil)) pe_int)) pa_nil))))
        (pss_cons (pset 11 sc.nd (pe_op op_add pe_int (pe_ix ix_list (pv 10) pe_int (fun _ _ => rfl))))
        (pss_cons (ps_par (i := 12) (j := 13) rfl sc.nd rfl rfl (by decide) rfl rfl (pa_cons (pc c_law_tables hr (by omega) (pa_cons (pe_slice sl_list (pv 10) (po_some pe_int) (po_some pe_int)) (pa_cons (pv 2) (pa_cons (pv 11) pa_nil)))) (pa_cons (pe_lc (own := [("_law_draw", 17)]) (g := gName 17) (tt := tYes) rfl sc.nd (pi_list (pe_slice sl_list (pv 10) (po_some pe_int) (po_some (pe_op op_add pe_int (pe_ix ix_list (pv 10) pe_int (fun _ _ => rfl)))))) (blkOk_by (N := ["_law_script", "_law_row_here", "_law_vocabulary_here", "_law_names_here", "_law_one", "_law_other", "_law_made_here", "_law_far", "_law_told", "_law_turn", "_law_draws", "_law_many", "_law_tables_here", "_law_items", "_law_results", "_law_due", "_law_loop_here", "_law_draw", "_law_k", "_law_word"]) (sc := defScope s_law) (by decide +kernel)) (fun _ _ _ _ _ => (pgn 17 sc.nd)) (fun _ _ _ _ _ => pts_nil) (fun _ _ _ _ _ => (pe_op op_mod (pv 17) (pv 11)))) pa_nil)) rfl)
        (pss_cons (ps_dput hu (pv 12) pe_str (pe_disp (pps_cons pe_str (pe_op op_mod (pe_ix ix_list (pv 10) pe_int (fun _ _ => rfl)) (pv 11)) (pps_cons pe_str (pe_op op_mod (pe_op op_add (pe_op op_add (pe_ix ix_list (pv 10) pe_int (fun _ _ => rfl)) pe_int) (pe_op op_mod (pe_ix ix_list (pv 10) pe_int (fun _ _ => rfl)) (pe_op op_sub (pv 11) pe_int))) (pv 11)) pps_nil)) (by rfl) (by rfl) (fun z => by cases z) (by decide)) rfl)
        (pss_cons (ps_setLc (i := 14) (own := [("_law_k", 18)]) (g := gName 18) (tt := tYes) rfl sc.nd rfl rfl (sw_true rfl rfl rfl (by decide +kernel)) (pi_range1 rfl T.b_range (pa_cons (pe_op op_add (pb call_len T.b_len v_len (pa_cons (pv 13) pa_nil)) pe_int) pa_nil)) (blkOk_by (N := ["_law_script", "_law_row_here", "_law_vocabulary_here", "_law_names_here", "_law_one", "_law_other", "_law_made_here", "_law_far", "_law_told", "_law_turn", "_law_draws", "_law_many", "_law_tables_here", "_law_items", "_law_results", "_law_due", "_law_loop_here", "_law_draw", "_law_k", "_law_word"]) (sc := defScope s_law) (by decide +kernel)) (fun _ _ _ _ _ => (pgn 18 sc.nd)) (fun _ _ _ _ _ => pts_nil) (fun _ _ _ _ _ => (pe_lc (own := [("_law_draw", 17)]) (g := gName 17) (tt := tYes) (wi := iList K (tSl (rSlL K) (tVar 10) _ _)) rfl sc.nd (pi_list (pe_slice (show SlR _ (rSlL K) from sl_list) (pv 10) (po_some (pe_op op_add pe_int (pe_op op_mul pe_int (pv 18)))) (po_some (pe_op op_add pe_int (pe_op op_mul pe_int (pv 18)))))) (blkOk_by (own := [("_law_draw", 17)]) (N := ["_law_script", "_law_row_here", "_law_vocabulary_here", "_law_names_here", "_law_one", "_law_other", "_law_made_here", "_law_far", "_law_told", "_law_turn", "_law_draws", "_law_many", "_law_tables_here", "_law_items", "_law_results", "_law_due", "_law_loop_here", "_law_draw", "_law_k", "_law_word"]) (sc := lawSc) (by decide +kernel)) (fun _ _ _ _ _ => (pgn 17 sc.nd)) (fun _ _ _ _ _ => pts_nil) (fun _ _ _ _ _ => (pe_op op_mod (pv 17) (pv 11))))))
        (pss_cons (pset 15 sc.nd (pc c_law_joint_played hr (by omega) (pa_cons (pe_tup (pa_cons (pv 4) (pa_cons (pv 5) pa_nil))) (pa_cons (pv 12) (pa_cons (pv 13) (pa_cons (pv 14) (pa_cons pe_non pa_nil)))))))
        (pss_cons (pset 16 sc.nd (pbt (call_dictP rfl) T.b_dict v_dict (pa_cons (pe_lc (own := [("_law_word", 19)]) (g := gName 19) (tt := tYes) rfl sc.nd (pi_tup (pe_tup (pa_cons pe_str (pa_cons pe_str (pa_cons pe_str pa_nil))))) (blkOk_by (N := ["_law_script", "_law_row_here", "_law_vocabulary_here", "_law_names_here", "_law_one", "_law_other", "_law_made_here", "_law_far", "_law_told", "_law_turn", "_law_draws", "_law_many", "_law_tables_here", "_law_items", "_law_results", "_law_due", "_law_loop_here", "_law_draw", "_law_k", "_law_word"]) (sc := defScope s_law) (by decide +kernel)) (fun _ _ _ _ _ => (pgn 19 sc.nd)) (fun _ _ _ _ _ => pts_nil) (fun _ _ _ _ _ => (pe_tup (pa_cons (pv 19) (pa_cons (pmt c_Loop_section hr (by omega) (pv 8) (pa_cons (pv 19) pa_nil)) pa_nil))))) pa_nil)))
        (pss_one (ps_if (pt_cmpR (op_neD hr.units) (pc c_law_played hr (by omega) (pa_cons (pv 16) (pa_cons (pv 12) (pa_cons (pv 13) (pa_cons (pv 14) pa_nil))))) (pv 15) (nomark _)) (pss_one (ps_ret pe_bl)) pss_nil))))))))))
      (pss_one (ps_ret pe_bl))))))))))), ?_⟩
  -- the row, the vocabulary
  refine ⟨_, rfl, a, ns, 0, rfl, ha, fun cc => ⟨(by show 4 ≤ sizeLine; decide), fun p1 h1 => ?_⟩⟩
  have e1 := Same.new (o := .lst [.int 6, .int 3, .int 3, .int 6]) h1
  refine ⟨cc, p1, [6, 3, 3, 6], rfl, upd_same, by decide, by decide, fun lr H2 rs e2 f2 hlr hrow => ?_⟩
  obtain ⟨rl4, rb⟩ := hrow
  obtain ⟨r0, r1, r2, r3, rfl⟩ : ∃ a b c d, rs = [a, b, c, d] := by
    match rs, rl4 with
    | [a, b, c, d], _ => exact ⟨a, b, c, d, rfl⟩
  have E2 := e1.trans e2
  refine ⟨(by show 2 ≤ sizeLine; decide), fun c1 k1 => fun f1 k2 => ⟨upd_same, dF, rfl, (by show 2 ≤ 15; omega), fun t1 k3 => ⟨upd_same, dT, rfl, (by show 1 ≤ 15; omega), (by show 3 ≤ sizeLine; decide), fun v1 k4 => ⟨_, _, rfl, ?_⟩⟩⟩⟩
  have q1 := Same.new (o := .lst [V.str (.ofString "a"), .str (.ofString "b")]) k1
  have q2 := disp_same (o := .dK []) (o2 := .dK (mergeK [] dF)) k2
  have q3 := disp_same (o := .dK []) (o2 := .dK (mergeK [] dT)) k3
  have q4 := Same.new (o := .tup [.ref c1, .ref f1, .ref t1]) k4
  have g1 := (q2.trans (q3.trans q4)) _ _ (upd_same (H := H2) (a := c1) (o := .lst [V.str (.ofString "a"), .str (.ofString "b")]))
  have g2 := (q3.trans q4) _ _ (upd_same (a := f1) (o := .dK (mergeK [] dF)))
  have g3 := q4 _ _ (upd_same (a := t1) (o := .dK (mergeK [] dT)))
  have E4 := E2.trans (q1.trans (q2.trans (q3.trans q4)))
  have lr4 := (q1.trans (q2.trans (q3.trans q4))) _ _ hlr
  refine ⟨_, rfl, fun d1 k5 => ⟨upd_same, dD, rfl, (by show 2 ≤ 15; omega), fun r1' k6 => ⟨(by show 0 ≤ sizeLine; decide), fun x1 k7 => ⟨(by show 0 ≤ sizeLine; decide), fun y1 k8 => ⟨(by show 4 ≤ sizeLine; decide), fun v2 k9 => ?_⟩⟩⟩⟩⟩
  have q5 := disp_same (o := .dK []) (o2 := .dK (mergeK [] dD)) k5
  have q6 := Same.new (o := .dK []) k6
  have q7 := Same.new (o := .lst []) k7
  have q8 := Same.new (o := .lst []) k8
  have q9 := Same.new (o := .tup [.ref d1, .ref r1', .ref x1, .ref y1]) k9
  have q59 := q5.trans (q6.trans (q7.trans (q8.trans q9)))
  refine ⟨v1, v2, _, _, rfl, rfl, SqT.of (q59 _ _ upd_same), SqT.of upd_same, (fun z => by cases z), (by show 7 ≤ sizeLine; decide), (fun z => by cases z), fun _ va k10 => ?_⟩
  have q10 := Same.new (o := .tup ([.ref c1, .ref f1, .ref t1] ++ [.ref d1, .ref r1', .ref x1, .ref y1])) k10
  have g4 := (q6.trans (q7.trans (q8.trans (q9.trans q10)))) _ _ (upd_same (a := d1) (o := .dK (mergeK [] dD)))
  have g5 := (q7.trans (q8.trans (q9.trans q10))) _ _ (upd_same (a := r1') (o := .dK []))
  have g6 := (q8.trans (q9.trans q10)) _ _ (upd_same (a := x1) (o := .lst []))
  have g7 := (q9.trans q10) _ _ (upd_same (a := y1) (o := .lst []))
  replace g1 := (q59.trans q10) _ _ g1
  replace g2 := (q59.trans q10) _ _ g2
  replace g3 := (q59.trans q10) _ _ g3
  have lr10 := (q59.trans q10) _ _ lr4
  have E10 := E4.trans (q59.trans q10)
  apply use_rest (fun Z => Same H Z ∧ VocAt K Z va ∧ Z lr = some (.lst ([r0, r1, r2, r3].map V.int)))
  · intro go
    exact go _ ⟨E10, ⟨c1, f1, t1, d1, r1', x1, y1, SqT.of upd_same, g1, g2, g3, g4, g5, g6, g7⟩, lr10⟩
  clear E10 lr10 g1 g2 g3 g4 g5 g6 g7 q10 q59 q9 q8 q7 q6 q5 E4 lr4 q1 q2 q3 q4
  rintro Z ⟨E10, hv, lr10⟩
  -- the names
  refine ⟨(by show 2 ≤ sizeLine; decide), fun cl k11 => fun f0 k12 => ⟨upd_same, dF, rfl, (by show 2 ≤ 15; omega), fun t0 k13 => ⟨upd_same, dT, rfl, (by show 1 ≤ 15; omega), fun d0 k14 => ⟨upd_same, dD, rfl, (by show 2 ≤ 15; omega), fun r0' k15 => ⟨(by show 0 ≤ sizeLine; decide), fun fl k16 => ⟨(by show 2 ≤ sizeLine; decide), fun p0 k17 => ⟨(by show 1 ≤ sizeLine; decide), fun pl k18 => ?_⟩⟩⟩⟩⟩⟩⟩
  have w1 := Same.new (o := .lst [V.str (.ofString "a"), .str (.ofString "b")]) k11
  have w2 := disp_same (o := .dK []) (o2 := .dK (mergeK [] dF)) k12
  have w3 := disp_same (o := .dK []) (o2 := .dK (mergeK [] dT)) k13
  have w4 := disp_same (o := .dK []) (o2 := .dK (mergeK [] dD)) k14
  have w5 := Same.new (o := .dK []) k15
  have w6 := Same.new (o := .lst []) k16
  have w7 := Same.new (o := .tup [V.str (.ofString "b"), .str (.ofString "a")]) k17
  have w8 := Same.new (o := .lst [.ref p0]) k18
  have z1 := (w2.trans (w3.trans (w4.trans (w5.trans (w6.trans (w7.trans w8)))))) _ _ (upd_same (a := cl) (o := .lst [V.str (.ofString "a"), .str (.ofString "b")]))
  have z2 := (w3.trans (w4.trans (w5.trans (w6.trans (w7.trans w8))))) _ _ (upd_same (a := f0) (o := .dK (mergeK [] dF)))
  have z3 := (w4.trans (w5.trans (w6.trans (w7.trans w8)))) _ _ (upd_same (a := t0) (o := .dK (mergeK [] dT)))
  have z4 := (w5.trans (w6.trans (w7.trans w8))) _ _ (upd_same (a := d0) (o := .dK (mergeK [] dD)))
  have z5 := (w6.trans (w7.trans w8)) _ _ (upd_same (a := r0') (o := .dK []))
  have z6 := (w7.trans w8) _ _ (upd_same (a := fl) (o := .lst []))
  have z7 := w8 _ _ (upd_same (a := p0) (o := .tup [V.str (.ofString "b"), .str (.ofString "a")]))
  have w18 := w1.trans (w2.trans (w3.trans (w4.trans (w5.trans (w6.trans (w7.trans w8))))))
  have hv18 := hv.up w18
  have lr18 := w18 _ _ lr10
  have E18 := E10.trans w18
  refine fun nm dxn fnm fdx nxn => ?_
  have sM : ∀ (Y : Hp), Y nm = none → Y dxn = none → Same Y (hid nm (upd (upd Y dxn (.own nm)) nm (.ins (He.ga K "Names") dxn []))) := fun Y h1 h2 => by
    rw [hid_upd]
    exact hid_of h1 (Same.new h2)
  have sMk := sM _ fnm fdx
  refine ⟨nm, dxn, cl, f0, t0, d0, r0', fl, pl, p0, rfl, upd_same, sMk _ _ z1, sMk _ _ z2, sMk _ _ z3, sMk _ _ z4, sMk _ _ z5, sMk _ _ z6, sMk _ _ upd_same, SqT.of (sMk _ _ z7), fun H3 s3 hN => ⟨rfl, ?_⟩⟩
  have e3 := sMk.trans (s3.trans hid_in)
  have hv3 := hv18.up e3
  have lr3 := e3 _ _ lr18
  have E3 := E18.trans e3
  clear hv hv18 z1 z2 z3 z4 z5 z6 z7 w1 w2 w3 w4 w5 w6 w7 w8 w18 E10 E18 lr10 lr18 sM sMk s3 e3
  have lrS : ∀ {Y : Hp}, Same H3 Y → SqL K Y lr ([r0, r1, r2, r3].map V.int) := fun e => SqL.of (e _ _ lr3)
  -- the loops
  refine ⟨_, rfl, a, ns, 1, rfl, E3.seq ha, fun cc1 => ⟨_, rfl, cc1, va, rfl, hv3, fun dl1 H4 ss1 st1 se1 e4 hL1 so1 bt1 wt1 ne1 be1 we1 => ?_⟩⟩
  refine ⟨_, rfl, _, _, _, _, rfl, rfl, lrS e4, atI_nat (j := 3) rfl, (by show 1 ≤ sizeLine; decide), fun m1 j1 => ⟨_, rfl, _, rfl, _, rfl, lr, _, rfl, lrS (e4.trans (Same.new j1)), fun m2 j2 => ?_⟩⟩
  have a1 := Same.new (o := .lst [.int r3]) j1
  have hc1 : cutV ([r0, r1, r2, r3].map V.int) (some 1) (some 3) = [r1, r2].map V.int := cut_mid _ 1 3 (by omega) (by simp)
  have a2 := Same.new (o := .lst (cutV ([r0, r1, r2, r3].map V.int) (some 1) (some 3))) j2
  refine ⟨m1, m2, _, _, rfl, rfl, a2 _ _ upd_same, upd_same, (by rw [hc1]; show 3 ≤ sizeLine; decide), fun m3 j3 => ?_⟩
  have a3 := Same.new (o := .lst ([V.int r3] ++ cutV ([r0, r1, r2, r3].map V.int) (some 1) (some 3))) j3
  have A3 := a1.trans (a2.trans a3)
  refine ⟨dl1, m3, [r3, r1, r2], ss1, st1, se1, rfl, (by rw [hc1]; exact upd_same), rfl, hL1.up A3, ne1, Nat.le_trans (len_wts _) wt1, fun d1 H5 st1' e5 hL5 hW1 => ?_⟩
  have e35 := e4.trans (A3.trans e5)
  have hv5 := hv3.up e35
  have E5 := E3.trans e35
  refine ⟨_, rfl, a, ns, 2, rfl, E5.seq ha, fun cc2 => ⟨_, rfl, cc2, va, rfl, hv5, fun dl2 H6 ss2 st2 se2 e6 hL2 so2 bt2 wt2 ne2 be2 we2 => ?_⟩⟩
  refine ⟨_, rfl, _, rfl, lr, _, rfl, lrS (e35.trans e6), fun m4 j4 => ?_⟩
  have hc2 : cutV ([r0, r1, r2, r3].map V.int) none (some 3) = [r0, r1, r2].map V.int := cut_take _ 3
  have a4 := Same.new (o := .lst (cutV ([r0, r1, r2, r3].map V.int) none (some 3))) j4
  refine ⟨dl2, m4, [r0, r1, r2], ss2, st2, se2, rfl, (by rw [hc2]; exact upd_same), rfl, hL2.up a4, ne2, Nat.le_trans (len_wts _) wt2, fun d2 H7 st2' e7 hL7 hW2 => ?_⟩
  have e57 := e6.trans (a4.trans e7)
  have e37 := e35.trans e57
  have hv7 := hv3.up e37
  have hN7 := hN.up e37
  have hL57 := hL5.up e57
  obtain ⟨R1, hok1⟩ := lp_ok so1 bt1 wt1 ne1 hW1 be1 we1
  obtain ⟨R2, hok2⟩ := lp_ok so2 bt2 wt2 ne2 hW2 be2 we2
  -- they are made
  refine ⟨_, rfl, _, rfl, nm, d1, ⟨ss1, st1', se1⟩, R1, rfl, hN7, hL57, hok1, fun o1 H8 e8 hLo1 => ?_⟩
  refine ⟨_, rfl, _, rfl, nm, d2, ⟨ss2, st2', se2⟩, R2, rfl, hN7.up e8, hL7.up e8, hok2, fun o2 H9 e9 hLo2 => ⟨_, _, rfl, ?_⟩⟩
  generalize hLp1 : Lp.mk ss1 st1' se1 = L1 at *
  generalize hLp2 : Lp.mk ss2 st2' se2 = L2 at *
  have hL1' : LawLp K H7 d1 L1.start L1.turn L1.fin := by rw [← hLp1]; exact hL57
  have hL2' : LawLp K H7 d2 L2.start L2.turn L2.fin := by rw [← hLp2]; exact hL7
  -- beside
  refine ⟨_, rfl, _, rfl, o1, o2, nm, L1, L2, R1, R2, rfl, hLo1.up e9, hLo2, hok1, hok2, fun o H10 Rt e10 hT => ?_⟩
  have e710 := e8.trans (e9.trans e10)
  have hd10 : Held K H10 va d1 d2 o nm L1 L2 R2 Rt := ⟨hv7.up e710, hL1'.up e710, hL2'.up e710, hT⟩
  have E10 := E3.trans (e37.trans e710)
  obtain ⟨dxt, dt, art, kpt, v1t, v2t, v3t, it, hnt, _, _, _, _, _, _⟩ := id hT
  obtain ⟨dn, cc', ff, td, dd, ru, fa, pa, p0', j0, jr⟩ := id hnt
  obtain ⟨n1, n2, n3⟩ := told_noL (R2 := R2) hok1 hok2
  obtain ⟨z1, z2, z3⟩ := told_size hok1 hok2
  refine ⟨_, rfl, _, _, dxt, _, _, rfl, it, T.c_Loop, T.n_Loop_names, rfl, _, rfl, nm, nm, dn, dn, _, _, rfl, rfl, j0, j0, ⟨nm, rfl, hnt, true, rfl, _, rfl, iteF ?_⟩⟩
  refine ⟨_, rfl, _, dxt, _, rfl, it, rfl, o, nm, _, Rt, "turn", _, rfl, hT, rfl, fun q xs hq hxs => ?_⟩
  have b1 := Same.new (o := .lst xs) hq
  refine ⟨.ref q, (told L1 L2 R2).turn, rfl, .lst (SqL.of upd_same) (hxs.up b1), n2, z2.1, fun H11 e11 => ⟨_, rfl, iteF ?_⟩⟩
  have hd11 := hd10.up (b1.trans e11)
  have E11 := E10.trans (b1.trans e11)
  clear hd10 hT it hnt j0 jr e710 E10 hL1' hL2' hv7 hN7 hL57 e37 e57 hv5 E5 e35 A3 a1 a2 a3 a4 hc1 hc2
  -- the worlds
  refine ⟨4, rfl, by decide, by decide, ?_⟩
  refine for_it (walk_range (lo := 0) (n := 4)) (fun i σs H7 => ∃ (x9 x10 x11 x12 x13 x14 x15 x16 : Option V), σs = [some (.ref a), some (.ref lr), some (.ref va), some (.ref nm), some (.ref d1), some (.ref d2), some (.ref o1), some (.ref o2), some (.ref o), x9, x10, x11, x12, x13, x14, x15, x16, none, none, none] ∧ Same H11 H7) ?_ (fun _ _ _ _ _ => trivial) ?_ ?_
  · exact ⟨_, _, _, _, _, _, _, _, rfl, Same.refl _⟩
  · rintro i x σs K7 K8 hi ⟨x9, x10, x11, x12, x13, x14, x15, x16, rfl, s7⟩ ⟨hKK, hx⟩
    have hx : x = .int (i : Int) := by rw [hx]; show V.int (0 + _) = _; rw [Int.zero_add]
    subst hx
    subst K8
    have E7 := E11.trans s7
    have hd7 := hd11.up s7
    -- the draws
    refine ⟨_, rfl, _, rfl, _, _, rfl, rfl, a, ns, 3 + i, (by show [V.ref a, V.int (3 + (i : Int))] = [V.ref a, V.int ((3 + i : Nat) : Int)]; rw [Int.natCast_add]; rfl), E7.seq ha, fun cc => ?_⟩
    refine ⟨(by show 2 ≤ sizeLine; decide), fun p1 k1 => ⟨(by show 1 ≤ sizeLine; decide), fun p2 k2 => ⟨p2, 38, _, rfl, rfl, upd_same, by decide, by decide, (by show 38 ≤ sizeLine; decide), fun p3 k3 => ?_⟩⟩⟩
    have q1 := Same.new (o := .lst [V.int 2, .int 5]) k1
    have q2 := Same.new (o := .lst [V.int 60]) k2
    have q3 := Same.new (o := .lst (List.replicate (38 : Int).toNat [V.int 60]).flatten) k3
    refine ⟨p1, p3, _, _, rfl, rfl, (q2.trans q3) _ _ upd_same, upd_same, (by show 40 ≤ sizeLine; decide), fun p4 k4 => ⟨(by show 1 ≤ sizeLine; decide), fun p5 k5 => ⟨p5, 4, _, rfl, rfl, upd_same, by decide, by decide, (by show 4 ≤ sizeLine; decide), fun p6 k6 => ?_⟩⟩⟩
    have q4 := Same.new (o := .lst ([V.int 2, .int 5] ++ (List.replicate (38 : Int).toNat [V.int 60]).flatten)) k4
    have q5 := Same.new (o := .lst [V.int 60]) k5
    have q6 := Same.new (o := .lst (List.replicate (4 : Int).toNat [V.int 60]).flatten) k6
    refine ⟨p4, p6, _, _, rfl, rfl, (q5.trans q6) _ _ upd_same, upd_same, (by show 44 ≤ sizeLine; decide), fun p7 k7 => ⟨(by show 1 ≤ sizeLine; decide), fun p8 k8 => ⟨p8, 18, _, rfl, rfl, upd_same, by decide, by decide, (by show 18 ≤ sizeLine; decide), fun p9 k9 => ?_⟩⟩⟩
    have q7 := Same.new (o := .lst (([V.int 2, .int 5] ++ (List.replicate (38 : Int).toNat [V.int 60]).flatten) ++ (List.replicate (4 : Int).toNat [V.int 60]).flatten)) k7
    have q8 := Same.new (o := .lst [V.int 60]) k8
    have q9 := Same.new (o := .lst (List.replicate (18 : Int).toNat [V.int 60]).flatten) k9
    refine ⟨p7, p9, _, _, rfl, rfl, (q8.trans q9) _ _ upd_same, upd_same, (by show 62 ≤ sizeLine; decide), fun p10 k10 => ?_⟩
    have q10 := Same.new (o := .lst ((([V.int 2, .int 5] ++ (List.replicate (38 : Int).toNat [V.int 60]).flatten) ++ (List.replicate (4 : Int).toNat [V.int 60]).flatten) ++ (List.replicate (18 : Int).toNat [V.int 60]).flatten)) k10
    refine ⟨cc, p10, szL, rfl, upd_same, szL_ok.1, by rw [szL_ok.2]; omega, fun dr H8 ds e8 f8 hdr hrow => ?_⟩
    have S8 : Same K7 H8 := q1.trans (q2.trans (q3.trans (q4.trans (q5.trans (q6.trans (q7.trans (q8.trans (q9.trans (q10.trans e8)))))))))
    clear q1 q2 q3 q4 q5 q6 q7 q8 q9 q10
    obtain ⟨dlen, dbd⟩ := hrow
    rw [szL_ok.2] at dlen
    have dat : ∀ (j : Nat), j < 62 → ∃ q : Int, atI (ds.map V.int) (j : Int) = some (.int q) ∧ ∀ s, szL[j]? = some s → 0 ≤ q ∧ q < s := fun j hj => by
      have hj' : j < ds.length := by omega
      exact ⟨ds[j], atI_nat (by rw [List.getElem?_map, List.getElem?_eq_getElem hj']; rfl), fun s hs => dbd j s _ hs (List.getElem?_eq_getElem hj')⟩
    obtain ⟨n0, t0, b0⟩ := dat 0 (by omega)
    obtain ⟨n1, t1, b1⟩ := dat 1 (by omega)
    obtain ⟨n2, t2, b2⟩ := dat 2 (by omega)
    obtain ⟨n3, t3, b3⟩ := dat 3 (by omega)
    replace b0 := b0 2 rfl
    replace b1 := b1 5 rfl
    replace b2 := b2 60 rfl
    replace b3 := b3 60 rfl
    refine ⟨_, rfl, _, _, _, _, rfl, rfl, SqL.of hdr, t0, _, _, rfl, rfl, ?_⟩
    obtain ⟨m, hm, hm23⟩ : ∃ m : Nat, 2 + n0 = (m : Int) ∧ (m = 2 ∨ m = 3) := ⟨(2 + n0).toNat, by omega, by omega⟩
    obtain ⟨c, hc⟩ := Int.eq_ofNat_of_zero_le b1.1
    have hc4 : c ≤ 4 := by omega
    -- the tables
    refine ⟨_, rfl, _, rfl, _, rfl, dr, _, rfl, SqL.of hdr, fun q1 h1 => ⟨_, rfl, _, rfl, ?_⟩⟩
    have hcut1 : cutV (ds.map V.int) (some 2) (some 40) = ((ds.drop 2).take 38).map V.int := by
      rw [List.map_take, List.map_drop]
      exact cut_mid (ds.map V.int) 2 40 (by omega) (by rw [List.length_map]; omega)
    have u1 := Same.new (o := .lst (cutV (ds.map V.int) (some 2) (some 40))) h1
    refine ⟨q1, va, m, (ds.drop 2).take 38, (by show [V.ref q1, V.ref va, V.int (2 + n0)] = _; rw [hm]), (by rw [hcut1]; exact upd_same), by rw [List.length_take, List.length_drop]; omega, hd7.1.up (S8.trans u1), by omega, by omega, fun H9 tb cc0 fa ta df dg tp kf kg l e9 tbn htb hfa hdf hdg hF1 hF2 hta htp ⟨qs, hqs⟩ ⟨ntf, ntt⟩ => ?_⟩
    have hdr9 := (u1.trans e9) _ _ hdr
    have S9 := S8.trans (u1.trans e9)
    -- the items
    refine ⟨_, rfl, _, rfl, _, rfl, _, _, _, _, rfl, rfl, SqL.of hdr9, t1, _, _, rfl, rfl, _, rfl, dr, _, rfl, SqL.of hdr9, fun q2 h2 => ?_⟩
    have hcut2 : cutV (ds.map V.int) (some 40) (some (40 + n1)) = ((ds.drop 40).take c).map V.int := by
      rw [List.map_take, List.map_drop]
      have z := cut_mid (ds.map V.int) 40 (40 + c) (by omega) (by rw [List.length_map]; omega)
      rw [show 40 + c - 40 = c by omega] at z
      rw [← z, hc]
      congr 2
    have u2 := Same.new (o := .lst (cutV (ds.map V.int) (some 40) (some (40 + n1)))) h2
    have clen : ((ds.drop 40).take c).length = c := by rw [List.length_take, List.length_drop]; omega
    have hq2 : upd H9 q2 (.lst (cutV (ds.map V.int) (some 40) (some (40 + n1)))) q2 = some (.lst (((ds.drop 40).take c).map V.int)) := by rw [hcut2]; exact upd_same
    generalize hits0 : (ds.drop 40).take c = its0 at *
    refine ⟨q2, rfl, ⟨_, SqL.of hq2⟩, fun D hD => ?_⟩
    refine lc_map (walk_list (xs := its0.map V.int)) hD (by rw [List.length_map]; omega) (fun j => .int ((its0.getD j 0) % (2 + n0))) (fun Y e => e.seq (SqL.of hq2)) ?_ ?_
    · rintro j x Y Y2 hj e3 ⟨rfl, hx⟩ R kR
      rw [List.length_map] at hj
      have hx : x = .int (its0.getD j 0) := by
        rw [List.getElem?_map, List.getElem?_eq_getElem hj] at hx
        rw [List.getD_eq_getElem?_getD, List.getElem?_eq_getElem hj]
        exact (Option.some.inj hx).symm
      subst hx
      exact ⟨rfl, _, rfl, _, rfl, _, _, rfl, rfl, (by show (0 : Int) < 2 + n0; omega), kR _ (Same.refl _)⟩
    intro H10 e10 hD10
    have hits : (List.range (its0.map V.int).length).map (fun j => V.int ((its0.getD j 0) % (2 + n0))) = (its0.map (· % (2 + n0))).map V.int := by
      rw [List.length_map, ← range_int (its0.map (· % (2 + n0))) (n := its0.length) (by rw [List.length_map])]
      apply List.map_congr_left
      intro j hj
      have hj := List.mem_range.mp hj
      rw [List.getD_eq_getElem?_getD, List.getD_eq_getElem?_getD, List.getElem?_map, List.getElem?_eq_getElem hj]
      rfl
    rw [hits] at hD10
    have ilen : (its0.map (· % (2 + n0))).length = c := by rw [List.length_map, clen]
    have iD0 : ∀ z ∈ its0.map (· % (2 + n0)), D0 m z := fun z hz => by
      obtain ⟨y, _, rfl⟩ := List.mem_map.mp hz
      exact ⟨Int.emod_nonneg _ (by omega), by rw [← hm]; exact Int.emod_lt_of_pos _ (by omega)⟩
    generalize hitsn : its0.map (· % (2 + n0)) = its at *
    have e910 := u2.trans (e10.trans hid_in)
    have hdr10 := e910 _ _ hdr9
    have S10 := S9.trans e910
    refine ⟨_, _, rfl, ?_⟩
    -- the constants
    intro cd hcd
    have v1 := Same.new (o := .dK []) hcd
    have hdr11 := v1 _ _ hdr10
    refine ⟨_, rfl, _, _, _, _, rfl, rfl, SqL.of hdr11, t2, _, rfl, _, _, rfl, rfl, (by show (0 : Int) < 2 + n0; omega), _, rfl, _, _, _, _, rfl, rfl, SqL.of hdr11, t2, _, _, rfl, rfl, _, rfl, _, _, _, _, rfl, rfl, SqL.of hdr11, t3, _, rfl, _, _, rfl, rfl, _, _, rfl, rfl, (by show (0 : Int) < 2 + n0 - 1; omega), _, _, rfl, rfl, _, rfl, _, _, rfl, rfl, (by show (0 : Int) < 2 + n0; omega), upd_same, [(.inr "a", .int (n2 % (2 + n0))), (.inr "b", .int ((n2 + 1 + n3 % (2 + n0 - 1)) % (2 + n0)))], rfl, (by show 2 ≤ 15; omega), ?_⟩
    have v2 := disp_same (o := .dK []) (o2 := .dK (mergeK [] [(.inr "a", .int (n2 % (2 + n0))), (.inr "b", .int ((n2 + 1 + n3 % (2 + n0 - 1)) % (2 + n0)))])) hcd
    have e912 := e910.trans v2
    refine ⟨_, rfl, tb, _, rfl, DPut.k (k := .inr "constants") (e912 _ _ htb) (by show 3 < sizeLine; decide), ?_⟩
    obtain ⟨ca, hca⟩ : ∃ z, z = n2 % (2 + n0) := ⟨_, rfl⟩
    obtain ⟨cb, hcb⟩ : ∃ z, z = (n2 + 1 + n3 % (2 + n0 - 1)) % (2 + n0) := ⟨_, rfl⟩
    have dca : D0 m ca := by
      rw [hca]
      exact ⟨Int.emod_nonneg _ (by omega), by rw [← hm]; exact Int.emod_lt_of_pos _ (by omega)⟩
    have dcb : D0 m cb := by
      rw [hcb]
      exact ⟨Int.emod_nonneg _ (by omega), by rw [← hm]; exact Int.emod_lt_of_pos _ (by omega)⟩
    have nab : ca ≠ cb := by
      rw [hca, hcb]
      have hn0 : n0 = 0 ∨ n0 = 1 := by omega
      rcases hn0 with rfl | rfl <;> omega
    have WT : TabOk (mkTab ca cb kf kg qs) m := tab_ok (by omega) dca dcb nab hF1 hF2
    have tbK : K7 tb = none := (S8.trans u1).free tbn
    apply use_rest (fun Z => Same K7 Z ∧ TabAt K Z tb (mkTab ca cb kf kg qs) ∧ Z dr = some (.lst (ds.map V.int)) ∧ Z D = some (.lst (its.map V.int)))
    · intro go
      have y1 := e912 _ _ htb
      have y2 := e912 _ _ hfa
      have y3 := e912 _ _ hdf
      have y4 := e912 _ _ hdg
      have y5 := e912 _ _ hta
      have y6 := e912 _ _ htp
      have y7 := hqs.up (e912.t.tups)
      have y8 := v2 _ _ hdr10
      have y9 := v2 _ _ hD10
      have y0 : upd (upd H10 cd (.dK [])) cd (.dK (mergeK [] [(.inr "a", .int (n2 % (2 + n0))), (.inr "b", .int ((n2 + 1 + n3 % (2 + n0 - 1)) % (2 + n0)))])) cd = some (.dK [(.inr "a", .int ca), (.inr "b", .int cb)]) := by
        rw [hca, hcb]
        exact upd_same
      have ncd : cd ≠ tb := nh (e910 _ _ htb) hcd
      have yS := S10.trans v2
      generalize upd (upd H10 cd (.dK [])) cd (.dK (mergeK [] [(.inr "a", .int (n2 % (2 + n0))), (.inr "b", .int ((n2 + 1 + n3 % (2 + n0 - 1)) % (2 + n0)))])) = Y at y1 y2 y3 y4 y5 y6 y7 y8 y9 y0 yS ⊢
      refine go _ ⟨yS.mut tbK, tab_at (cc := cd) (f := fa) (t := ta) (df := df) (dg := dg) (tp := tp) (l := l) upd_same ((upd_ne ncd).trans y0) ((upd_ne (Ne.symm ntf)).trans y2) ((upd_ne (fun z => by rw [z, y1] at y3; cases y3)).trans y3) ((upd_ne (fun z => by rw [z, y1] at y4; cases y4)).trans y4) ((upd_ne (Ne.symm ntt)).trans y5) ((upd_ne (fun z => by rw [z, y1] at y6; cases y6)).trans y6) (y7.up (((TSame.refl Y).mut (fun ws z => by rw [y1] at z; cases z)).tups)), (upd_ne (fun z => by rw [z, y1] at y8; cases y8)).trans y8, (upd_ne (fun z => by rw [z, y1] at y9; cases y9)).trans y9⟩
    rintro Z ⟨SZ, hTab, hdrZ, hDZ⟩
    -- the results
    refine ⟨_, rfl, _, _, rfl, .inl ⟨_, SqL.of hDZ, rfl⟩, _, _, rfl, rfl, _, rfl, ?_, ?_, fun D2 hD2 => ?_⟩
    · rw [List.length_map, ilen, p62]; omega
    · rw [List.length_map, ilen, p62]; omega
    rw [show ((((its.map V.int).length : Nat) : Int) + 2).toNat = c + 2 by rw [List.length_map, ilen]; omega]
    refine lc_rel (walk_range (lo := 0) (n := c + 2)) hD2 (by omega) (fun k v Y => ∃ (p : Addr) (r : List Int), v = .ref p ∧ Y p = some (.lst (r.map V.int)) ∧ (r.length ≤ 10 ∧ ∀ z ∈ r, D0 m z)) (fun k v Y Y2 e ⟨p, r, h1, h2, h3⟩ => ⟨p, r, h1, e _ _ h2, h3⟩) (fun _ _ => trivial) ?_ ?_
    · rintro k x Y1 Y2 hk e3 ⟨ys, hys⟩ ⟨hYY, hx⟩ R kR
      subst Y2
      have hx : x = .int (k : Int) := by rw [hx]; show V.int (0 + _) = _; rw [Int.zero_add]
      subst hx
      have hdrY := e3 _ _ hdrZ
      refine ⟨rfl, _, rfl, _, rfl, _, _, rfl, rfl, .inl ⟨by omega, by omega⟩, _, _, rfl, rfl, _, rfl, _, rfl, _, _, rfl, rfl, .inl ⟨by omega, by omega⟩, _, _, rfl, rfl, _, rfl, dr, _, rfl, SqL.of hdrY, fun q2 h2 => ?_⟩
      have hcut2 : cutV (ds.map V.int) (some (44 + 3 * (k : Int))) (some (47 + 3 * (k : Int))) = ((ds.drop (44 + 3 * k)).take 3).map V.int := by
        rw [List.map_take, List.map_drop]
        have z := cut_mid (ds.map V.int) (44 + 3 * k) (47 + 3 * k) (by omega) (by rw [List.length_map]; omega)
        rw [show 47 + 3 * k - (44 + 3 * k) = 3 by omega] at z
        rw [← z]
        congr 2
      have hq2 : upd Y1 q2 (.lst (cutV (ds.map V.int) (some (44 + 3 * (k : Int))) (some (47 + 3 * (k : Int))))) q2 = some (.lst (((ds.drop (44 + 3 * k)).take 3).map V.int)) := by rw [hcut2]; exact upd_same
      have u2 := Same.new (o := .lst (cutV (ds.map V.int) (some (44 + 3 * (k : Int))) (some (47 + 3 * (k : Int))))) h2
      have clen2 : ((ds.drop (44 + 3 * k)).take 3).length ≤ 3 := by rw [List.length_take]; omega
      generalize (ds.drop (44 + 3 * k)).take 3 = rr at *
      refine ⟨q2, rfl, ⟨_, SqL.of hq2⟩, fun D3 hD3 => ?_⟩
      refine lc_map (walk_list (xs := rr.map V.int)) hD3 (by rw [List.length_map]; omega) (fun j => .int ((rr.getD j 0) % (2 + n0))) (fun Y e => e.seq (SqL.of hq2)) ?_ ?_
      · rintro j x Y3 Y4 hj e4 ⟨rfl, hx⟩ R2 kR2
        rw [List.length_map] at hj
        have hx : x = .int (rr.getD j 0) := by
          rw [List.getElem?_map, List.getElem?_eq_getElem hj] at hx
          rw [List.getD_eq_getElem?_getD, List.getElem?_eq_getElem hj]
          exact (Option.some.inj hx).symm
        subst hx
        exact ⟨rfl, _, rfl, _, rfl, _, _, rfl, rfl, (by show (0 : Int) < 2 + n0; omega), kR2 _ (Same.refl _)⟩
      intro Y5 e5 hD5
      have hrr : (List.range (rr.map V.int).length).map (fun j => V.int ((rr.getD j 0) % (2 + n0))) = (rr.map (· % (2 + n0))).map V.int := by
        rw [List.length_map, ← range_int (rr.map (· % (2 + n0))) (n := rr.length) (by rw [List.length_map])]
        apply List.map_congr_left
        intro j hj
        have hj := List.mem_range.mp hj
        rw [List.getD_eq_getElem?_getD, List.getD_eq_getElem?_getD, List.getElem?_map, List.getElem?_eq_getElem hj]
        rfl
      rw [hrr] at hD5
      refine kR _ _ (u2.trans (e5.trans hid_in)) ⟨D3, rr.map (· % (2 + n0)), rfl, ?_, by rw [List.length_map]; omega, fun z hz => ?_⟩
      · rw [hid_ne (nh (u2 _ _ hys) hD3)]
        exact hD5
      · obtain ⟨y, _, rfl⟩ := List.mem_map.mp hz
        exact ⟨Int.emod_nonneg _ (by omega), by rw [← hm]; exact Int.emod_lt_of_pos _ (by omega)⟩
    intro Y6 ys e6 hD6 ylen hys
    have eZ6 := e6.trans hid_in
    have S6 := SZ.trans eZ6
    have hTab6 := hTab.up eZ6
    have hDY6 := eZ6 _ _ hDZ
    obtain ⟨ress, rlen, hrr⟩ := pick (H := Y6) (R := fun r => r.length ≤ 10 ∧ ∀ z ∈ r, D0 m z) (vs := ys) fun j v hv => by
      obtain ⟨p, r, h1, h2, h3⟩ := hys j v hv
      exact ⟨p, r, h1, hid_in _ _ h2, h3⟩
    rw [ylen] at rlen
    obtain ⟨rs0, mid, rse, hress, hmid⟩ := split2 rlen
    have hfst : (its.zip mid).map Prod.fst = its := List.map_fst_zip (by omega)
    have hsnd : (its.zip mid).map Prod.snd = mid := List.map_snd_zip (by omega)
    have hRs : RsAt Y6 D2 (ressOf rs0 (its.zip mid) rse) := by
      unfold ressOf
      rw [hsnd, ← hress]
      exact ⟨ys, hD6, fun j r hj => ⟨(hrr j r hj).1.1, (hrr j r hj).2⟩⟩
    have hin : ∀ r ∈ ress, ∀ z ∈ r, D0 m z := fun r hr => by
      obtain ⟨j, hj, e⟩ := List.mem_iff_getElem.mp hr
      exact (hrr j r (by rw [List.getElem?_eq_getElem hj, e])).1.2
    have hd6 := hd7.up S6
    obtain ⟨outs, hJ, hS⟩ := beside_law (R2 := R2) WT (by omega) hok1 hok2 rs0 rse (its.zip mid) (hin rs0 (by rw [hress]; simp)) (hin rse (by rw [hress]; simp)) (fun x hx => ⟨iD0 _ (List.of_mem_zip hx).1, hin _ (by rw [hress]; exact List.mem_cons_of_mem _ (List.mem_append_left _ (List.of_mem_zip hx).2))⟩)
    have zlen : (its.zip mid).length ≤ 10 := by rw [List.length_zip]; omega
    -- the deeds that are due
    refine ⟨_, rfl, _, rfl, (by show 2 ≤ sizeLine; decide), fun lp hlp => ⟨_, rfl, _, rfl, _, rfl, ?_⟩⟩
    have u7 := Same.new (o := .tup [.ref d1, .ref d2]) hlp
    refine ⟨lp, tb, D, D2, d1, d2, L1, L2, mkTab ca cb kf kg qs, rs0, rse, its.zip mid, outs, rfl, SqT.of upd_same, (loopD_of hd6.2.1 hok1).up u7, (loopD_of hd6.2.2.1 hok2).up u7, hTab6.up u7, (by rw [hfst]; exact u7 _ _ hDY6), zlen, hRs.up u7, hJ, fun Y8 vdue e8 hdue => ?_⟩
    have e68 := u7.trans e8
    have S8' := S6.trans e68
    have hd8 := hd6.up e68
    have hDK := jrun_dk hok1 hok2 _ _ _ hJ
    -- the told loop in a dict
    obtain ⟨⟨pc, qc1, qc2, ck1, ck2, ck3⟩, _⟩ := told_chk hok1 hok2
    let ws : List (Str × List Stm) := [(.ofString "start", (told L1 L2 R2).start), (.ofString "turn", (told L1 L2 R2).turn), (.ofString "end", (told L1 L2 R2).fin)]
    refine ⟨(by show 3 ≤ sizeLine; decide), fun wt hwt => ⟨wt, rfl, ⟨_, SqT.of upd_same⟩, fun D4 hD4 => ?_⟩⟩
    have u9 := Same.new (o := .tup [V.str (.ofString "start"), .str (.ofString "turn"), .str (.ofString "end")]) hwt
    refine lc_rel (walk_tup (xs := [V.str (.ofString "start"), .str (.ofString "turn"), .str (.ofString "end")])) hD4 (by show 3 ≤ 100000; omega) (fun j v Y => ∃ (p sp : Addr) (xs : List V) (w : Str × List Stm), ws[j]? = some w ∧ v = .ref p ∧ Y p = some (.tup [.str w.1, .ref sp]) ∧ Y sp = some (.lst xs) ∧ DpAll K Y xs (encL false w.2)) (fun j v Y Y2 e ⟨p, sp, xs, w, h1, h2, h3, h4, h5⟩ => ⟨p, sp, xs, w, h1, h2, e _ _ h3, e _ _ h4, h5.up e⟩) (fun Y e => e.tup (SqT.of upd_same)) ?_ ?_
    · rintro j x Y1 Y2 hj e3 ⟨ys, hys⟩ ⟨hYY, hx⟩ R kR
      subst Y2
      have hd := (hd8.up (u9.trans e3)).2.2.2
      obtain ⟨dxq, dq, arq, kpq, v1q, v2q, v3q, iq, _⟩ := id hd
      obtain ⟨w, hw1, rfl, hw2⟩ : ∃ w : Str × List Stm, ws[j]? = some w ∧ x = .str w.1 ∧ secOf (told L1 L2 R2) w.1 = some w.2 := by
        match j, hj, hx with
        | 0, _, hx => cases hx; exact ⟨_, rfl, rfl, rfl⟩
        | 1, _, hx => cases hx; exact ⟨_, rfl, rfl, rfl⟩
        | 2, _, hx => cases hx; exact ⟨_, rfl, rfl, rfl⟩
        | j + 3, hj, _ => exact absurd hj (by show ¬ (j + 3 < 3); omega)
      refine ⟨rfl, _, rfl, _, rfl, _, dxq, _, rfl, iq, rfl, _, rfl, o, nm, _, Rt, w.1, w.2, rfl, hd, hw2, fun sp xs hsp hxs => ⟨(by show 2 ≤ sizeLine; decide), fun p hp => ?_⟩⟩
      have c1 := Same.new (o := .lst xs) hsp
      have c2 := Same.new (o := .tup [.str w.1, .ref sp]) hp
      have nsp : sp ≠ D4 := nh hys hsp
      have np : p ≠ D4 := nh (c1 _ _ hys) hp
      refine kR _ _ (c1.trans c2) ⟨p, sp, xs, w, hw1, rfl, ?_, ?_, (dpAll_hid hys _ _ (pnl_encL _) hxs).up ((c1.trans c2).hid)⟩
      · rw [hid_ne np]
        exact upd_same
      · rw [hid_ne nsp]
        exact c2 _ _ upd_same
    intro Y9 ys9 e9' hD9 ylen9 hys9
    obtain ⟨y0, y1, y2, rfl⟩ : ∃ a b c, ys9 = [a, b, c] := by
      match ys9, ylen9 with
      | [a, b, c], _ => exact ⟨a, b, c, rfl⟩
    obtain ⟨p0, s0, xs0, w0, hw0, rfl, f0, g0, i0⟩ := hys9 0 _ rfl
    obtain ⟨p1, s1', xs1, w1, hw1, rfl, f1, g1, i1⟩ := hys9 1 _ rfl
    obtain ⟨p2, s2', xs2, w2, hw2, rfl, f2, g2, i2⟩ := hys9 2 _ rfl
    cases hw0
    cases hw1
    cases hw2
    have e89 := u9.trans (e9'.trans hid_in)
    refine ⟨D4, [p0, p1, p2], [(.inr (.ofString "start"), .ref s0), (.inr (.ofString "turn"), .ref s1'), (.inr (.ofString "end"), .ref s2')], rfl, SqL.of hD9, .cons (SqT.of (hid_in _ _ f0)) (.cons (SqT.of (hid_in _ _ f1)) (.cons (SqT.of (hid_in _ _ f2)) .nil)), fun ld hld => ?_⟩
    have u10 := Same.new (o := .dK (mergeK [] [(.inr (.ofString "start"), .ref s0), (.inr (.ofString "turn"), .ref s1'), (.inr (.ofString "end"), .ref s2')])) hld
    have e810 := e89.trans u10
    have hLD : LoopD K (upd Y9 ld (.dK (mergeK [] [(.inr (.ofString "start"), .ref s0), (.inr (.ofString "turn"), .ref s1'), (.inr (.ofString "end"), .ref s2')]))) ld false (told L1 L2 R2) :=
      ⟨s0, s1', s2', upd_same, ⟨xs0, u10 _ _ (hid_in _ _ g0), i0.up (hid_in.trans u10), chk_wfs _ _ _ ck1, z1.2⟩, ⟨xs1, u10 _ _ (hid_in _ _ g1), i1.up (hid_in.trans u10), chk_wfs _ _ _ ck2, z2.2⟩, ⟨xs2, u10 _ _ (hid_in _ _ g2), i2.up (hid_in.trans u10), chk_wfs _ _ _ ck3, z3.2⟩⟩
    refine ⟨_, rfl, _, rfl, _, rfl, _, rfl, ld, tb, D, D2, told L1 L2 R2, mkTab ca cb kf kg qs, rs0, rse, its.zip mid, outs, rfl, hLD, hTab6.up (e68.trans e810), (by rw [hfst]; exact (e68.trans e810) _ _ hDY6), zlen, hRs.up (e68.trans e810), hS, fun Y11 vp e11' hvp => ⟨_, rfl, _, _, hvp, hdue.up (e810.trans e11'), shaped_os hDK, shaped_os hDK, _, rfl, ?_⟩⟩
    rw [eqv_os hDK]
    exact iteF ⟨_, _, _, _, _, _, _, _, rfl, s7.trans (S8'.trans (e810.trans e11'))⟩
  · rintro σs H7 ⟨x9, x10, x11, x12, x13, x14, x15, x16, rfl, s7⟩
    exact k _
end
end K21
set_option Elab.async false
set_option linter.all false
set_option maxRecDepth 100000
set_option maxHeartbeats 0
namespace K21
open PySem PySem.Spec PyProof.Rows L2 K21H
theorem facts {P : Program} {w : World} {K : PySem.W.Frag} {h : Heap} {mg : Str → Option Value} {f : Addr} (X : K.In h) (G : h.Ns mainGlobals mg) (hfa : mg ("law" : Str) = some (.ref f)) (c : He.SaysD fa fn K) (cx : hex K = true) :
    ∃ fd : FuncData, (∀ (s : Shared) (v : Value), BindsTo s fd ⟨[v], []⟩ [("_law_script", v)]) ∧ ∀ base : Heap, K.In base → base.Ns mainGlobals mg → FnOk P w K mg base CX0 51 f fd ["_law_script"] (spLaw K) := by
  have T := txt_of X G c cx
  obtain ⟨fd, F⟩ := T.d_law
  have e := hfa.symm.trans T.g_law
  have e2 : f = He.fAd K ("law", none) := by
    have := Option.some.inj e
    injection this
  subst e2
  have b := FunD.bindsA (ps := ["_law_script"]) F fun _ _ _ _ _ _ us hl => match us, hl with | [_], _ => rfl
  exact ⟨fd, fun s v => b s [v] rfl, fun base _ _ => ok_law T F⟩
end K21
open PySem PySem.W PySem.Calls PyProof.Rows
theorem PySem.Challenge.cw_unknowncalls_k21_whole_beside_holds : PySem.Challenge.rw_unknowncalls_k21_whole_beside.Holds := by
  refine K21H.opened fun said => ?_
  refine HandSHeadRun.head_any (r := OpenLaw.row PySem.Challenge.rw_unknowncalls_k21_whole_beside) (q := view (OpenLaw.row PySem.Challenge.rw_unknowncalls_k21_whole_beside).prog [73]) (H := K21H.hookQ) (ob := K21H.ob) (M := 20000) (loose := K21H.loose) (d := HandSHeadRun.topDef (OpenLaw.row PySem.Challenge.rw_unknowncalls_k21_whole_beside).prog 73) (kwd := []) K21H.ob_eq
    (by kernel_rfl) (fun s => by kernel_rfl) K21H.runHd (by kernel_rfl) (by kernel_rfl) (by kernel_rfl) (by rfl) (by first | assumption | decide +kernel) (by decide +kernel) K21H.bare_ok ?hw ?hc
  case hw => w_witness2
  case hc =>
    refine L2.walk_ofE (l := PySem.Challenge.rw_unknowncalls_k21_whole_beside) (n := 63) (k := 51) (x := "_law_script") (CX := L2.CX0) rfl (by decide) (by kernel_rfl) ⟨rfl, by decide, by decide⟩ ?F (fun _ _ _ _ z => z)
    intro w mg fa h Y G hmg0
    obtain ⟨K, KX, c, cx⟩ := Y
    have hmg : mg ("law" : PySem.Str) = some (.ref fa) := by
      have e : (HandSHeadRun.topDef (OpenLaw.row PySem.Challenge.rw_unknowncalls_k21_whole_beside).prog 73).name = ("law" : PySem.Str) := by kernel_rfl
      rw [← e]
      exact hmg0
    obtain ⟨fd, hb, hF⟩ := K21.facts (P := (PySem.Challenge.rw_unknowncalls_k21_whole_beside).prog) (w := w) KX G hmg c cx
    exact ⟨K, fd, K21.spLaw K, KX, hb, fun H a ns hl _ hS => ⟨a, ns, rfl, hS, fun _ => rfl⟩, hF⟩
