import PyProof.Rows.All
import Wide.All
import OpenK.AllK
import Wide.FinOn
import HandS.ForMost
import HandS.IsInst
import HandS.HeadHook1
import HandS.HeadHook2
import KE.KStateDown
import Lean
import HandS.Base
import HandS.Call
import HandS.Ends
import HandS.More
import HandS.Words
import HandS.WordsExc
import HandS.Defaults
import HandS.Head0
import HandS.Head1
import HandS.Head2
import HandS.HeadEnd
import KE.KSortKeySt
import HandS.Exc
import HandS.Conv
import HandS.Star
import HandS.Lambda
import HandS.ListItems
import HandS.Walk
import HandS.GenYield
import HandS.GenCall
import HandS.GenList
import HandS.MakeKw
import HandS.MakeKwOnly
import HandS.DictComp
import HandS.Small
import HandS.HeadWalk
import PySem.Challenge.RW_grownfiles_k36_whole_late_givings
set_option Elab.async false
set_option linter.all false
set_option maxRecDepth 100000
set_option maxHeartbeats 0
/-! law_k36_whole_late_givings: each def of the text keeps a promise; the law by its own walk; the head by names. Joined by join.py from the texts of wip. -/
/-! the text by places, what the top has written -/
namespace K36
open PySem PySem.Spec PyProof.Rows L2
def top (i : Nat) : Stmt := PySem.Challenge.pw_grownfiles_k36_whole_late_givings.main.body.getD i (.Pass ⟨0, 0, 0, 0⟩)
abbrev S_is_integer : Stmt := top 22
abbrev S_check_integer : Stmt := top 23
abbrev S_is_name : Stmt := top 24
abbrev S_is_enough : Stmt := top 30
abbrev S_first_enough : Stmt := top 31
abbrev S_best_enough : Stmt := top 32
abbrev S_place_by_rule : Stmt := top 33
abbrev S_placed : Stmt := top 35
abbrev S_is_run : Stmt := top 38
abbrev S_end_of : Stmt := top 39
abbrev S_is_before : Stmt := top 40
abbrev S_joined : Stmt := top 41
abbrev S_shared : Stmt := top 42
abbrev S_others : Stmt := top 43
abbrev S_runs_of : Stmt := top 44
abbrev S_pairs_of : Stmt := top 47
abbrev S_room_of : Stmt := top 48
abbrev S_check_disk : Stmt := top 54
abbrev S_is_share : Stmt := top 58
abbrev S_part_of : Stmt := top 59
abbrev S_check_parts : Stmt := top 61
abbrev S_law_hand : Stmt := top 66
abbrev S_law_draw : Stmt := top 67
abbrev S_law_made : Stmt := top 69
abbrev S_law_rules : Stmt := top 71
abbrev S_law_small_book : Stmt := top 72
abbrev S_law_disk : Stmt := top 73
abbrev S_law_alike : Stmt := top 75
abbrev S_law_growths : Stmt := top 76
abbrev S_law : Stmt := top 77
abbrev S_Pairs_init : Stmt := inClass (top 45) 0
abbrev S_Room_init : Stmt := inClass (top 46) 0
abbrev S_Room_runs : Stmt := inClass (top 46) 2
abbrev S_Room_runs_from : Stmt := inClass (top 46) 3
abbrev S_Room_bool : Stmt := inClass (top 46) 5
abbrev S_Room_sub : Stmt := inClass (top 46) 11
abbrev S_File_init : Stmt := inClass (top 53) 0
abbrev S_File_pieces : Stmt := inClass (top 53) 2
abbrev S_File_put_behind : Stmt := inClass (top 53) 4
abbrev S_File_lose_all : Stmt := inClass (top 53) 6
abbrev S_Disk_init : Stmt := inClass (top 55) 0
abbrev S_Disk_names : Stmt := inClass (top 55) 2
abbrev S_Disk_free : Stmt := inClass (top 55) 3
abbrev S_Disk_contains : Stmt := inClass (top 55) 6
abbrev S_Disk_getitem : Stmt := inClass (top 55) 8
abbrev S_Disk_make : Stmt := inClass (top 55) 9
abbrev S_Disk_open_file : Stmt := inClass (top 55) 10
abbrev S_Disk_grow : Stmt := inClass (top 55) 11
abbrev S_Disk_ones : Stmt := inClass (top 55) 12
abbrev S_Disk_written_behind : Stmt := inClass (top 55) 13
abbrev S_Disk_flush : Stmt := inClass (top 55) 14
abbrev S_Disk_close : Stmt := inClass (top 55) 15
abbrev S_Disk_reopen : Stmt := inClass (top 55) 16
abbrev S_Disk_delete : Stmt := inClass (top 55) 17
abbrev S_Book_init : Stmt := inClass (top 62) 0
abbrev S_Book_given : Stmt := inClass (top 62) 11
abbrev S_Book_call : Stmt := inClass (top 62) 12
abbrev S_Book_twin : Stmt := inClass (top 62) 14
/-- what the top has written, as the walk asks it -/
structure Fx (K : PySem.W.Frag) (mg : Str → Option Value) : Prop where
  g_is_integer : mg "is_integer" = some (.ref (He.ga K "is_integer"))
  g_check_integer : mg "check_integer" = some (.ref (He.ga K "check_integer"))
  g_is_name : mg "is_name" = some (.ref (He.ga K "is_name"))
  g_is_enough : mg "is_enough" = some (.ref (He.ga K "is_enough"))
  g_first_enough : mg "first_enough" = some (.ref (He.ga K "first_enough"))
  g_best_enough : mg "best_enough" = some (.ref (He.ga K "best_enough"))
  g_place_by_rule : mg "place_by_rule" = some (.ref (He.ga K "place_by_rule"))
  g_placed : mg "placed" = some (.ref (He.ga K "placed"))
  g_is_run : mg "is_run" = some (.ref (He.ga K "is_run"))
  g_end_of : mg "end_of" = some (.ref (He.ga K "end_of"))
  g_is_before : mg "is_before" = some (.ref (He.ga K "is_before"))
  g_joined : mg "joined" = some (.ref (He.ga K "joined"))
  g_shared : mg "shared" = some (.ref (He.ga K "shared"))
  g_others : mg "others" = some (.ref (He.ga K "others"))
  g_runs_of : mg "runs_of" = some (.ref (He.ga K "runs_of"))
  g_pairs_of : mg "pairs_of" = some (.ref (He.ga K "pairs_of"))
  g_room_of : mg "room_of" = some (.ref (He.ga K "room_of"))
  g_check_disk : mg "check_disk" = some (.ref (He.ga K "check_disk"))
  g_is_share : mg "is_share" = some (.ref (He.ga K "is_share"))
  g_part_of : mg "part_of" = some (.ref (He.ga K "part_of"))
  g_check_parts : mg "check_parts" = some (.ref (He.ga K "check_parts"))
  g_law_hand : mg "_law_hand" = some (.ref (He.ga K "_law_hand"))
  g_law_draw : mg "_law_draw" = some (.ref (He.ga K "_law_draw"))
  g_law_made : mg "_law_made" = some (.ref (He.ga K "_law_made"))
  g_law_rules : mg "_law_rules" = some (.ref (He.ga K "_law_rules"))
  g_law_small_book : mg "_law_small_book" = some (.ref (He.ga K "_law_small_book"))
  g_law_disk : mg "_law_disk" = some (.ref (He.ga K "_law_disk"))
  g_law_alike : mg "_law_alike" = some (.ref (He.ga K "_law_alike"))
  g_law_growths : mg "_law_growths" = some (.ref (He.ga K "_law_growths"))
  g_law : mg "law" = some (.ref (He.ga K "law"))
  g_Pairs : mg "Pairs" = some (.ref (He.ga K "Pairs"))
  g_Room : mg "Room" = some (.ref (He.ga K "Room"))
  g_File : mg "File" = some (.ref (He.ga K "File"))
  g_Disk : mg "Disk" = some (.ref (He.ga K "Disk"))
  g_Book : mg "Book" = some (.ref (He.ga K "Book"))
  g_RULES : mg "RULES" = some (.ref (He.ga K "RULES"))
  b_isinstance : mg "isinstance" = none
  b_int : mg "int" = none
  b_bool : mg "bool" = none
  b_str : mg "str" = none
  b_len : mg "len" = none
  b_all : mg "all" = none
  b_list : mg "list" = none
  b_tuple : mg "tuple" = none
  b_sorted : mg "sorted" = none
  b_enumerate : mg "enumerate" = none
  b_sum : mg "sum" = none
  b_max : mg "max" = none
  b_min : mg "min" = none
  b_range : mg "range" = none
  i_MOST : ∃ t, mg "MOST" = some (.int (10 ^ 40) t)
  i_MOST_BLOCK : ∃ t, mg "MOST_BLOCK" = some (.int (10 ^ 50) t)
  i_MOST_GROWTH : ∃ t, mg "MOST_GROWTH" = some (.int (10 ^ 30) t)
  i_MOST_RUNS : ∃ t, mg "MOST_RUNS" = some (.int (1000) t)
  i_MOST_SHARE : ∃ t, mg "MOST_SHARE" = some (.int (100) t)
  s_SMALL : ∃ t, mg "SMALL" = some (.str "abcdefghijklmnopqrstuvwxyz" t)
  c_Pairs : Cls K (He.ga K "Pairs")
  c_Room : Cls K (He.ga K "Room")
  c_File : Cls K (He.ga K "File")
  c_Disk : Cls K (He.ga K "Disk")
  c_Book : Cls K (He.ga K "Book")
  n_Pairs_pairs : NoAttr K (He.ga K "Pairs") "pairs"
  n_Room_pairs : NoAttr K (He.ga K "Room") "pairs"
  n_File_disk : NoAttr K (He.ga K "File") "disk"
  n_File_name : NoAttr K (He.ga K "File") "name"
  n_File_size : NoAttr K (He.ga K "File") "size"
  n_File_hold : NoAttr K (He.ga K "File") "hold"
  n_File_waiting : NoAttr K (He.ga K "File") "waiting"
  n_File_is_open : NoAttr K (He.ga K "File") "is_open"
  n_File_runs_held : NoAttr K (He.ga K "File") "runs_held"
  n_Disk_own_book : NoAttr K (He.ga K "Disk") "own_book"
  n_Disk_rule : NoAttr K (He.ga K "Disk") "rule"
  n_Disk_size : NoAttr K (He.ga K "Disk") "size"
  n_Disk_short : NoAttr K (He.ga K "Disk") "short"
  n_Disk_back : NoAttr K (He.ga K "Disk") "back"
  n_Disk_late : NoAttr K (He.ga K "Disk") "late"
  n_Disk_after : NoAttr K (He.ga K "Disk") "after"
  n_Disk_files : NoAttr K (He.ga K "Disk") "files"
  n_Book_own_first : NoAttr K (He.ga K "Book") "own_first"
  n_Book_own_roof : NoAttr K (He.ga K "Book") "own_roof"
  n_Book_own_share : NoAttr K (He.ga K "Book") "own_share"
  k_Pairs : Mk K (He.ga K "Pairs") (He.ma K (He.ga K "Pairs") "__init__")
  k_Room : Mk K (He.ga K "Room") (He.ma K (He.ga K "Room") "__init__")
  m_Room_runs : Meth K (He.ga K "Room") "runs" (He.ma K (He.ga K "Room") "runs")
  m_Room_runs_from : Meth K (He.ga K "Room") "runs_from" (He.ma K (He.ga K "Room") "runs_from")
  m_Room_bool : Meth K (He.ga K "Room") "__bool__" (He.ma K (He.ga K "Room") "__bool__")
  m_Room_sub : Meth K (He.ga K "Room") "__sub__" (He.ma K (He.ga K "Room") "__sub__")
  k_File : Mk K (He.ga K "File") (He.ma K (He.ga K "File") "__init__")
  m_File_pieces : Meth K (He.ga K "File") "pieces" (He.ma K (He.ga K "File") "pieces")
  m_File_put_behind : Meth K (He.ga K "File") "put_behind" (He.ma K (He.ga K "File") "put_behind")
  m_File_lose_all : Meth K (He.ga K "File") "lose_all" (He.ma K (He.ga K "File") "lose_all")
  k_Disk : Mk K (He.ga K "Disk") (He.ma K (He.ga K "Disk") "__init__")
  m_Disk_names : Meth K (He.ga K "Disk") "names" (He.ma K (He.ga K "Disk") "names")
  m_Disk_free : Meth K (He.ga K "Disk") "free" (He.ma K (He.ga K "Disk") "free")
  m_Disk_contains : Meth K (He.ga K "Disk") "__contains__" (He.ma K (He.ga K "Disk") "__contains__")
  m_Disk_getitem : Meth K (He.ga K "Disk") "__getitem__" (He.ma K (He.ga K "Disk") "__getitem__")
  m_Disk_make : Meth K (He.ga K "Disk") "make" (He.ma K (He.ga K "Disk") "make")
  m_Disk_open_file : Meth K (He.ga K "Disk") "open_file" (He.ma K (He.ga K "Disk") "open_file")
  m_Disk_grow : Meth K (He.ga K "Disk") "grow" (He.ma K (He.ga K "Disk") "grow")
  m_Disk_ones : Meth K (He.ga K "Disk") "ones" (He.ma K (He.ga K "Disk") "ones")
  m_Disk_written_behind : Meth K (He.ga K "Disk") "written_behind" (He.ma K (He.ga K "Disk") "written_behind")
  m_Disk_flush : Meth K (He.ga K "Disk") "flush" (He.ma K (He.ga K "Disk") "flush")
  m_Disk_close : Meth K (He.ga K "Disk") "close" (He.ma K (He.ga K "Disk") "close")
  m_Disk_reopen : Meth K (He.ga K "Disk") "reopen" (He.ma K (He.ga K "Disk") "reopen")
  m_Disk_delete : Meth K (He.ga K "Disk") "delete" (He.ma K (He.ga K "Disk") "delete")
  k_Book : Mk K (He.ga K "Book") (He.ma K (He.ga K "Book") "__init__")
  m_Book_given : Meth K (He.ga K "Book") "given" (He.ma K (He.ga K "Book") "given")
  m_Book_call : Meth K (He.ga K "Book") "__call__" (He.ma K (He.ga K "Book") "__call__")
  m_Book_twin : Meth K (He.ga K "Book") "twin" (He.ma K (He.ga K "Book") "twin")
  p_is_integer : PySem.W.keepIn K (.ref (He.ga K "is_integer")) = true
  p_check_integer : PySem.W.keepIn K (.ref (He.ga K "check_integer")) = true
  p_is_name : PySem.W.keepIn K (.ref (He.ga K "is_name")) = true
  p_is_enough : PySem.W.keepIn K (.ref (He.ga K "is_enough")) = true
  p_first_enough : PySem.W.keepIn K (.ref (He.ga K "first_enough")) = true
  p_best_enough : PySem.W.keepIn K (.ref (He.ga K "best_enough")) = true
  p_place_by_rule : PySem.W.keepIn K (.ref (He.ga K "place_by_rule")) = true
  p_placed : PySem.W.keepIn K (.ref (He.ga K "placed")) = true
  p_is_run : PySem.W.keepIn K (.ref (He.ga K "is_run")) = true
  p_end_of : PySem.W.keepIn K (.ref (He.ga K "end_of")) = true
  p_is_before : PySem.W.keepIn K (.ref (He.ga K "is_before")) = true
  p_joined : PySem.W.keepIn K (.ref (He.ga K "joined")) = true
  p_shared : PySem.W.keepIn K (.ref (He.ga K "shared")) = true
  p_others : PySem.W.keepIn K (.ref (He.ga K "others")) = true
  p_runs_of : PySem.W.keepIn K (.ref (He.ga K "runs_of")) = true
  p_pairs_of : PySem.W.keepIn K (.ref (He.ga K "pairs_of")) = true
  p_room_of : PySem.W.keepIn K (.ref (He.ga K "room_of")) = true
  p_check_disk : PySem.W.keepIn K (.ref (He.ga K "check_disk")) = true
  p_is_share : PySem.W.keepIn K (.ref (He.ga K "is_share")) = true
  p_part_of : PySem.W.keepIn K (.ref (He.ga K "part_of")) = true
  p_check_parts : PySem.W.keepIn K (.ref (He.ga K "check_parts")) = true
  p_law_hand : PySem.W.keepIn K (.ref (He.ga K "_law_hand")) = true
  p_law_draw : PySem.W.keepIn K (.ref (He.ga K "_law_draw")) = true
  p_law_made : PySem.W.keepIn K (.ref (He.ga K "_law_made")) = true
  p_law_rules : PySem.W.keepIn K (.ref (He.ga K "_law_rules")) = true
  p_law_small_book : PySem.W.keepIn K (.ref (He.ga K "_law_small_book")) = true
  p_law_disk : PySem.W.keepIn K (.ref (He.ga K "_law_disk")) = true
  p_law_alike : PySem.W.keepIn K (.ref (He.ga K "_law_alike")) = true
  p_law_growths : PySem.W.keepIn K (.ref (He.ga K "_law_growths")) = true
  p_law : PySem.W.keepIn K (.ref (He.ga K "law")) = true
  x_first : PySem.W.selfFirst K (He.ga K "Room") = true
  x_item : PySem.W.fnIn K (He.ma K (He.ga K "Disk") "__getitem__") = true
  x_call : PySem.W.fnIn K (He.ma K (He.ga K "Book") "__call__") = true
  x_rules : ∀ H : Hp, SqT K H (He.ga K "RULES") [.str "behind", .str "first", .str "best", .str "next"]
  x_lp : PySem.W.kitOne K (.type "list") (.ref (He.ga K "Pairs")) = some false
  x_cl_Pairs : PySem.W.findIn K (.ref (He.ga K "Pairs")) "__class__" = some (some (.builtin "object.__class__"))
  x_mro_Pairs : PySem.W.mroIn K (He.ga K "Pairs") (.type "object") = some true
  x_cl_Room : PySem.W.findIn K (.ref (He.ga K "Room")) "__class__" = some (some (.builtin "object.__class__"))
  x_mro_Room : PySem.W.mroIn K (He.ga K "Room") (.type "object") = some true
  x_get : PySem.W.specialIn K (.builtin "object.__class__") "__get__" = some (some (.builtin "getset_descriptor.__get__"))
  x_tk : PySem.W.takesIn K (.builtin "object.__class__") = some true
  f_is_integer : ∃ fd, Fun K "is_integer" "is_integer" S_is_integer (He.ga K "is_integer") fd
  f_check_integer : ∃ fd, Fun K "check_integer" "check_integer" S_check_integer (He.ga K "check_integer") fd
  f_is_name : ∃ fd, Fun K "is_name" "is_name" S_is_name (He.ga K "is_name") fd
  f_is_enough : ∃ fd, Fun K "is_enough" "is_enough" S_is_enough (He.ga K "is_enough") fd
  f_first_enough : ∃ fd, Fun K "first_enough" "first_enough" S_first_enough (He.ga K "first_enough") fd
  f_best_enough : ∃ fd, Fun K "best_enough" "best_enough" S_best_enough (He.ga K "best_enough") fd
  f_place_by_rule : ∃ fd, Fun K "place_by_rule" "place_by_rule" S_place_by_rule (He.ga K "place_by_rule") fd
  f_placed : ∃ fd, Fun K "placed" "placed" S_placed (He.ga K "placed") fd
  f_is_run : ∃ fd, Fun K "is_run" "is_run" S_is_run (He.ga K "is_run") fd
  f_end_of : ∃ fd, Fun K "end_of" "end_of" S_end_of (He.ga K "end_of") fd
  f_is_before : ∃ fd, Fun K "is_before" "is_before" S_is_before (He.ga K "is_before") fd
  f_joined : ∃ fd, Fun K "joined" "joined" S_joined (He.ga K "joined") fd
  f_shared : ∃ fd, Fun K "shared" "shared" S_shared (He.ga K "shared") fd
  f_others : ∃ fd, Fun K "others" "others" S_others (He.ga K "others") fd
  f_runs_of : ∃ fd, Fun K "runs_of" "runs_of" S_runs_of (He.ga K "runs_of") fd
  f_pairs_of : ∃ fd, Fun K "pairs_of" "pairs_of" S_pairs_of (He.ga K "pairs_of") fd
  f_room_of : ∃ fd, Fun K "room_of" "room_of" S_room_of (He.ga K "room_of") fd
  f_check_disk : ∃ fd, Fun K "check_disk" "check_disk" S_check_disk (He.ga K "check_disk") fd
  f_is_share : ∃ fd, Fun K "is_share" "is_share" S_is_share (He.ga K "is_share") fd
  f_part_of : ∃ fd, Fun K "part_of" "part_of" S_part_of (He.ga K "part_of") fd
  f_check_parts : ∃ fd, Fun K "check_parts" "check_parts" S_check_parts (He.ga K "check_parts") fd
  f_law_hand : ∃ fd, Fun K "_law_hand" "_law_hand" S_law_hand (He.ga K "_law_hand") fd
  f_law_draw : ∃ fd, Fun K "_law_draw" "_law_draw" S_law_draw (He.ga K "_law_draw") fd
  f_law_made : ∃ fd, Fun K "_law_made" "_law_made" S_law_made (He.ga K "_law_made") fd
  f_law_rules : ∃ fd, Fun K "_law_rules" "_law_rules" S_law_rules (He.ga K "_law_rules") fd
  f_law_small_book : ∃ fd, Fun K "_law_small_book" "_law_small_book" S_law_small_book (He.ga K "_law_small_book") fd
  f_law_disk : ∃ fd, Fun K "_law_disk" "_law_disk" S_law_disk (He.ga K "_law_disk") fd
  f_law_alike : ∃ fd, Fun K "_law_alike" "_law_alike" S_law_alike (He.ga K "_law_alike") fd
  f_law_growths : ∃ fd, Fun K "_law_growths" "_law_growths" S_law_growths (He.ga K "_law_growths") fd
  f_law : ∃ fd, Fun K "law" "law" S_law (He.ga K "law") fd
  f_Pairs_init : ∃ fd, Fun K "__init__" "Pairs.__init__" S_Pairs_init (He.ma K (He.ga K "Pairs") "__init__") fd
  f_Room_init : ∃ fd, Fun K "__init__" "Room.__init__" S_Room_init (He.ma K (He.ga K "Room") "__init__") fd
  f_Room_runs : ∃ fd, Fun K "runs" "Room.runs" S_Room_runs (He.ma K (He.ga K "Room") "runs") fd
  f_Room_runs_from : ∃ fd, Fun K "runs_from" "Room.runs_from" S_Room_runs_from (He.ma K (He.ga K "Room") "runs_from") fd
  f_Room_bool : ∃ fd, Fun K "__bool__" "Room.__bool__" S_Room_bool (He.ma K (He.ga K "Room") "__bool__") fd
  f_Room_sub : ∃ fd, Fun K "__sub__" "Room.__sub__" S_Room_sub (He.ma K (He.ga K "Room") "__sub__") fd
  f_File_init : ∃ fd, Fun K "__init__" "File.__init__" S_File_init (He.ma K (He.ga K "File") "__init__") fd
  f_File_pieces : ∃ fd, Fun K "pieces" "File.pieces" S_File_pieces (He.ma K (He.ga K "File") "pieces") fd
  f_File_put_behind : ∃ fd, Fun K "put_behind" "File.put_behind" S_File_put_behind (He.ma K (He.ga K "File") "put_behind") fd
  f_File_lose_all : ∃ fd, Fun K "lose_all" "File.lose_all" S_File_lose_all (He.ma K (He.ga K "File") "lose_all") fd
  f_Disk_init : ∃ fd, Fun K "__init__" "Disk.__init__" S_Disk_init (He.ma K (He.ga K "Disk") "__init__") fd
  f_Disk_names : ∃ fd, Fun K "names" "Disk.names" S_Disk_names (He.ma K (He.ga K "Disk") "names") fd
  f_Disk_free : ∃ fd, Fun K "free" "Disk.free" S_Disk_free (He.ma K (He.ga K "Disk") "free") fd
  f_Disk_contains : ∃ fd, Fun K "__contains__" "Disk.__contains__" S_Disk_contains (He.ma K (He.ga K "Disk") "__contains__") fd
  f_Disk_getitem : ∃ fd, Fun K "__getitem__" "Disk.__getitem__" S_Disk_getitem (He.ma K (He.ga K "Disk") "__getitem__") fd
  f_Disk_make : ∃ fd, Fun K "make" "Disk.make" S_Disk_make (He.ma K (He.ga K "Disk") "make") fd
  f_Disk_open_file : ∃ fd, Fun K "open_file" "Disk.open_file" S_Disk_open_file (He.ma K (He.ga K "Disk") "open_file") fd
  f_Disk_grow : ∃ fd, Fun K "grow" "Disk.grow" S_Disk_grow (He.ma K (He.ga K "Disk") "grow") fd
  f_Disk_ones : ∃ fd, Fun K "ones" "Disk.ones" S_Disk_ones (He.ma K (He.ga K "Disk") "ones") fd
  f_Disk_written_behind : ∃ fd, Fun K "written_behind" "Disk.written_behind" S_Disk_written_behind (He.ma K (He.ga K "Disk") "written_behind") fd
  f_Disk_flush : ∃ fd, Fun K "flush" "Disk.flush" S_Disk_flush (He.ma K (He.ga K "Disk") "flush") fd
  f_Disk_close : ∃ fd, Fun K "close" "Disk.close" S_Disk_close (He.ma K (He.ga K "Disk") "close") fd
  f_Disk_reopen : ∃ fd, Fun K "reopen" "Disk.reopen" S_Disk_reopen (He.ma K (He.ga K "Disk") "reopen") fd
  f_Disk_delete : ∃ fd, Fun K "delete" "Disk.delete" S_Disk_delete (He.ma K (He.ga K "Disk") "delete") fd
  f_Book_init : ∃ fd, Fun K "__init__" "Book.__init__" S_Book_init (He.ma K (He.ga K "Book") "__init__") fd
  f_Book_given : ∃ fd, Fun K "given" "Book.given" S_Book_given (He.ma K (He.ga K "Book") "given") fd
  f_Book_call : ∃ fd, Fun K "__call__" "Book.__call__" S_Book_call (He.ma K (He.ga K "Book") "__call__") fd
  f_Book_twin : ∃ fd, Fun K "twin" "Book.twin" S_Book_twin (He.ma K (He.ga K "Book") "twin") fd
def cdK (K : PySem.W.Frag) (f : Addr) : Addr := match K.lookup f with
  | some ⟨_, _, .func fd, _⟩ => (match fd.code with
    | .ref c => c
    | _ => 0)
  | _ => 0
def tbO (o : Option Obj) : Addr := match o with
  | some ⟨_, _, .fields vs, _⟩ => (match (vs[11]? : Option Value) with
    | some (.ref P) => P
    | _ => 0)
  | _ => 0
/-- joined's code object, its table -/
def cJ (K : PySem.W.Frag) : Addr := cdK K (He.ga K "joined")
def tJ (K : PySem.W.Frag) : Addr := tbO (K.lookup (cJ K))
end K36
noncomputable section
namespace K36H
open PySem PySem.Spec PyProof.Rows L2 K36
def inD (g : Addr → Option Obj) (ns : Addr) (x : Str) : Addr := match g ns with
  | some ⟨_, _, .dict es _, _⟩ => (match es.toList.find? (·.key.isStr x) with
    | some e => (match e.val with
      | .ref a => a
      | _ => 0)
    | none => 0)
  | _ => 0
def nsA (g : Addr → Option Obj) (C : Addr) : Addr := match g C with
  | some ⟨_, _, .cls cd, _⟩ => cd.ns
  | _ => 0
def cdA (g : Addr → Option Obj) (f : Addr) : Addr := match g f with
  | some ⟨_, _, .func fd, _⟩ => (match fd.code with
    | .ref c => c
    | _ => 0)
  | _ => 0
open HandSHeadRun (frNat frNat_eq)
def w0 {α : Type} (g : Addr → Option Obj) (k : Addr → Addr → Addr → Addr → Addr → Addr → Addr → Addr → Addr → Addr → Addr → α) : α := frNat (inD g mainGlobals "RULES") fun aRULES => frNat (inD g mainGlobals "Pairs") fun cPairs => frNat (nsA g cPairs) fun nPairs => frNat (inD g mainGlobals "Room") fun cRoom => frNat (nsA g cRoom) fun nRoom => frNat (inD g mainGlobals "File") fun cFile => frNat (nsA g cFile) fun nFile => frNat (inD g mainGlobals "Disk") fun cDisk => frNat (nsA g cDisk) fun nDisk => frNat (inD g mainGlobals "Book") fun cBook => frNat (nsA g cBook) fun nBook => k aRULES cPairs nPairs cRoom nRoom cFile nFile cDisk nDisk cBook nBook
def w1 {α : Type} (g : Addr → Option Obj) (nPairs nRoom nFile nDisk nBook : Addr) (k : List Addr → α) : α := frNat (inD g mainGlobals "is_integer") fun fis_integer => frNat (cdA g fis_integer) fun kis_integer => frNat (inD g mainGlobals "check_integer") fun fcheck_integer => frNat (cdA g fcheck_integer) fun kcheck_integer => frNat (inD g mainGlobals "is_name") fun fis_name => frNat (cdA g fis_name) fun kis_name => frNat (inD g mainGlobals "is_enough") fun fis_enough => frNat (cdA g fis_enough) fun kis_enough => frNat (inD g mainGlobals "first_enough") fun ffirst_enough => frNat (cdA g ffirst_enough) fun kfirst_enough => frNat (inD g mainGlobals "best_enough") fun fbest_enough => frNat (cdA g fbest_enough) fun kbest_enough => frNat (inD g mainGlobals "place_by_rule") fun fplace_by_rule => frNat (cdA g fplace_by_rule) fun kplace_by_rule => frNat (inD g mainGlobals "placed") fun fplaced => frNat (cdA g fplaced) fun kplaced => k [fis_integer, kis_integer, fcheck_integer, kcheck_integer, fis_name, kis_name, fis_enough, kis_enough, ffirst_enough, kfirst_enough, fbest_enough, kbest_enough, fplace_by_rule, kplace_by_rule, fplaced, kplaced]
def w2 {α : Type} (g : Addr → Option Obj) (nPairs nRoom nFile nDisk nBook : Addr) (k : List Addr → α) : α := frNat (inD g mainGlobals "is_run") fun fis_run => frNat (cdA g fis_run) fun kis_run => frNat (inD g mainGlobals "end_of") fun fend_of => frNat (cdA g fend_of) fun kend_of => frNat (inD g mainGlobals "is_before") fun fis_before => frNat (cdA g fis_before) fun kis_before => frNat (inD g mainGlobals "joined") fun fjoined => frNat (cdA g fjoined) fun kjoined => frNat (inD g mainGlobals "shared") fun fshared => frNat (cdA g fshared) fun kshared => frNat (inD g mainGlobals "others") fun fothers => frNat (cdA g fothers) fun kothers => frNat (inD g mainGlobals "runs_of") fun fruns_of => frNat (cdA g fruns_of) fun kruns_of => frNat (inD g mainGlobals "pairs_of") fun fpairs_of => frNat (cdA g fpairs_of) fun kpairs_of => k [fis_run, kis_run, fend_of, kend_of, fis_before, kis_before, fjoined, kjoined, fshared, kshared, fothers, kothers, fruns_of, kruns_of, fpairs_of, kpairs_of]
def w3 {α : Type} (g : Addr → Option Obj) (nPairs nRoom nFile nDisk nBook : Addr) (k : List Addr → α) : α := frNat (inD g mainGlobals "room_of") fun froom_of => frNat (cdA g froom_of) fun kroom_of => frNat (inD g mainGlobals "check_disk") fun fcheck_disk => frNat (cdA g fcheck_disk) fun kcheck_disk => frNat (inD g mainGlobals "is_share") fun fis_share => frNat (cdA g fis_share) fun kis_share => frNat (inD g mainGlobals "part_of") fun fpart_of => frNat (cdA g fpart_of) fun kpart_of => frNat (inD g mainGlobals "check_parts") fun fcheck_parts => frNat (cdA g fcheck_parts) fun kcheck_parts => frNat (inD g mainGlobals "_law_hand") fun flaw_hand => frNat (cdA g flaw_hand) fun klaw_hand => frNat (inD g mainGlobals "_law_draw") fun flaw_draw => frNat (cdA g flaw_draw) fun klaw_draw => frNat (inD g mainGlobals "_law_made") fun flaw_made => frNat (cdA g flaw_made) fun klaw_made => k [froom_of, kroom_of, fcheck_disk, kcheck_disk, fis_share, kis_share, fpart_of, kpart_of, fcheck_parts, kcheck_parts, flaw_hand, klaw_hand, flaw_draw, klaw_draw, flaw_made, klaw_made]
def w4 {α : Type} (g : Addr → Option Obj) (nPairs nRoom nFile nDisk nBook : Addr) (k : List Addr → α) : α := frNat (inD g mainGlobals "_law_rules") fun flaw_rules => frNat (cdA g flaw_rules) fun klaw_rules => frNat (inD g mainGlobals "_law_small_book") fun flaw_small_book => frNat (cdA g flaw_small_book) fun klaw_small_book => frNat (inD g mainGlobals "_law_disk") fun flaw_disk => frNat (cdA g flaw_disk) fun klaw_disk => frNat (inD g mainGlobals "_law_alike") fun flaw_alike => frNat (cdA g flaw_alike) fun klaw_alike => frNat (inD g mainGlobals "_law_growths") fun flaw_growths => frNat (cdA g flaw_growths) fun klaw_growths => frNat (inD g mainGlobals "law") fun flaw => frNat (cdA g flaw) fun klaw => frNat (inD g nPairs "__init__") fun fPairs_init => frNat (cdA g fPairs_init) fun kPairs_init => frNat (inD g nRoom "__init__") fun fRoom_init => frNat (cdA g fRoom_init) fun kRoom_init => k [flaw_rules, klaw_rules, flaw_small_book, klaw_small_book, flaw_disk, klaw_disk, flaw_alike, klaw_alike, flaw_growths, klaw_growths, flaw, klaw, fPairs_init, kPairs_init, fRoom_init, kRoom_init]
def w5 {α : Type} (g : Addr → Option Obj) (nPairs nRoom nFile nDisk nBook : Addr) (k : List Addr → α) : α := frNat (inD g nRoom "runs") fun fRoom_runs => frNat (cdA g fRoom_runs) fun kRoom_runs => frNat (inD g nRoom "runs_from") fun fRoom_runs_from => frNat (cdA g fRoom_runs_from) fun kRoom_runs_from => frNat (inD g nRoom "__bool__") fun fRoom_bool => frNat (cdA g fRoom_bool) fun kRoom_bool => frNat (inD g nRoom "__sub__") fun fRoom_sub => frNat (cdA g fRoom_sub) fun kRoom_sub => frNat (inD g nFile "__init__") fun fFile_init => frNat (cdA g fFile_init) fun kFile_init => frNat (inD g nFile "pieces") fun fFile_pieces => frNat (cdA g fFile_pieces) fun kFile_pieces => frNat (inD g nFile "put_behind") fun fFile_put_behind => frNat (cdA g fFile_put_behind) fun kFile_put_behind => frNat (inD g nFile "lose_all") fun fFile_lose_all => frNat (cdA g fFile_lose_all) fun kFile_lose_all => k [fRoom_runs, kRoom_runs, fRoom_runs_from, kRoom_runs_from, fRoom_bool, kRoom_bool, fRoom_sub, kRoom_sub, fFile_init, kFile_init, fFile_pieces, kFile_pieces, fFile_put_behind, kFile_put_behind, fFile_lose_all, kFile_lose_all]
def w6 {α : Type} (g : Addr → Option Obj) (nPairs nRoom nFile nDisk nBook : Addr) (k : List Addr → α) : α := frNat (inD g nDisk "__init__") fun fDisk_init => frNat (cdA g fDisk_init) fun kDisk_init => frNat (inD g nDisk "names") fun fDisk_names => frNat (cdA g fDisk_names) fun kDisk_names => frNat (inD g nDisk "free") fun fDisk_free => frNat (cdA g fDisk_free) fun kDisk_free => frNat (inD g nDisk "__contains__") fun fDisk_contains => frNat (cdA g fDisk_contains) fun kDisk_contains => frNat (inD g nDisk "__getitem__") fun fDisk_getitem => frNat (cdA g fDisk_getitem) fun kDisk_getitem => frNat (inD g nDisk "make") fun fDisk_make => frNat (cdA g fDisk_make) fun kDisk_make => frNat (inD g nDisk "open_file") fun fDisk_open_file => frNat (cdA g fDisk_open_file) fun kDisk_open_file => frNat (inD g nDisk "grow") fun fDisk_grow => frNat (cdA g fDisk_grow) fun kDisk_grow => k [fDisk_init, kDisk_init, fDisk_names, kDisk_names, fDisk_free, kDisk_free, fDisk_contains, kDisk_contains, fDisk_getitem, kDisk_getitem, fDisk_make, kDisk_make, fDisk_open_file, kDisk_open_file, fDisk_grow, kDisk_grow]
def w7 {α : Type} (g : Addr → Option Obj) (nPairs nRoom nFile nDisk nBook : Addr) (k : List Addr → α) : α := frNat (inD g nDisk "ones") fun fDisk_ones => frNat (cdA g fDisk_ones) fun kDisk_ones => frNat (inD g nDisk "written_behind") fun fDisk_written_behind => frNat (cdA g fDisk_written_behind) fun kDisk_written_behind => frNat (inD g nDisk "flush") fun fDisk_flush => frNat (cdA g fDisk_flush) fun kDisk_flush => frNat (inD g nDisk "close") fun fDisk_close => frNat (cdA g fDisk_close) fun kDisk_close => frNat (inD g nDisk "reopen") fun fDisk_reopen => frNat (cdA g fDisk_reopen) fun kDisk_reopen => frNat (inD g nDisk "delete") fun fDisk_delete => frNat (cdA g fDisk_delete) fun kDisk_delete => frNat (inD g nBook "__init__") fun fBook_init => frNat (cdA g fBook_init) fun kBook_init => frNat (inD g nBook "given") fun fBook_given => frNat (cdA g fBook_given) fun kBook_given => k [fDisk_ones, kDisk_ones, fDisk_written_behind, kDisk_written_behind, fDisk_flush, kDisk_flush, fDisk_close, kDisk_close, fDisk_reopen, kDisk_reopen, fDisk_delete, kDisk_delete, fBook_init, kBook_init, fBook_given, kBook_given]
def w8 {α : Type} (g : Addr → Option Obj) (nPairs nRoom nFile nDisk nBook : Addr) (k : List Addr → α) : α := frNat (inD g nBook "__call__") fun fBook_call => frNat (cdA g fBook_call) fun kBook_call => frNat (inD g nBook "twin") fun fBook_twin => frNat (cdA g fBook_twin) fun kBook_twin => k [fBook_call, kBook_call, fBook_twin, kBook_twin]
def wA {α : Type} (g : Addr → Option Obj) (k : List Addr → α) : α := w0 g fun aRULES cPairs nPairs cRoom nRoom cFile nFile cDisk nDisk cBook nBook => w1 g nPairs nRoom nFile nDisk nBook fun l1 => w2 g nPairs nRoom nFile nDisk nBook fun l2 => w3 g nPairs nRoom nFile nDisk nBook fun l3 => w4 g nPairs nRoom nFile nDisk nBook fun l4 => w5 g nPairs nRoom nFile nDisk nBook fun l5 => w6 g nPairs nRoom nFile nDisk nBook fun l6 => w7 g nPairs nRoom nFile nDisk nBook fun l7 => w8 g nPairs nRoom nFile nDisk nBook fun l8 => k (mainGlobals :: [aRULES, cPairs, nPairs, cRoom, nRoom, cFile, nFile, cDisk, nDisk, cBook, nBook] ++ (l1 ++ (l2 ++ (l3 ++ (l4 ++ (l5 ++ (l6 ++ (l7 ++ (l8)))))))))
def asL (g : Addr → Option Obj) : List Addr := wA g id
theorem wA_eq {α : Type} (g : Addr → Option Obj) (k : List Addr → α) : wA g k = k (asL g) := by
  unfold asL wA w0 w1 w2 w3 w4 w5 w6 w7 w8
  simp only [frNat_eq]
  rfl
def fa0 : List He.Fa := [.glo "is_integer", .glo "check_integer", .glo "is_name", .glo "is_enough", .glo "first_enough", .glo "best_enough", .glo "place_by_rule", .glo "placed", .glo "is_run", .glo "end_of", .glo "is_before", .glo "joined", .glo "shared", .glo "others", .glo "runs_of", .glo "pairs_of", .glo "room_of", .glo "check_disk", .glo "is_share", .glo "part_of", .glo "check_parts", .glo "_law_hand", .glo "_law_draw", .glo "_law_made", .glo "_law_rules", .glo "_law_small_book", .glo "_law_disk", .glo "_law_alike", .glo "_law_growths", .glo "law"]
def fa1 : List He.Fa := [.glo "Pairs", .glo "Room", .glo "File", .glo "Disk", .glo "Book", .glo "RULES", .free "isinstance", .free "int", .free "bool", .free "str", .free "len", .free "all", .free "list", .free "tuple", .free "sorted", .free "enumerate", .free "sum", .free "max", .free "min", .free "range", .int "MOST" (10 ^ 40), .int "MOST_BLOCK" (10 ^ 50), .int "MOST_GROWTH" (10 ^ 30), .int "MOST_RUNS" (1000), .int "MOST_SHARE" (100), .str "SMALL" "abcdefghijklmnopqrstuvwxyz", .cls "Pairs", .cls "Room", .cls "File", .cls "Disk"]
def fa2 : List He.Fa := [.cls "Book", .noat "Pairs" "pairs", .noat "Room" "pairs", .noat "File" "disk", .noat "File" "name", .noat "File" "size", .noat "File" "hold", .noat "File" "waiting", .noat "File" "is_open", .noat "File" "runs_held", .noat "Disk" "own_book", .noat "Disk" "rule", .noat "Disk" "size", .noat "Disk" "short", .noat "Disk" "back", .noat "Disk" "late", .noat "Disk" "after", .noat "Disk" "files", .noat "Book" "own_first", .noat "Book" "own_roof", .noat "Book" "own_share", .mkr "Pairs", .mkr "Room", .meth "Room" "runs", .meth "Room" "runs_from", .meth "Room" "__bool__", .meth "Room" "__sub__", .mkr "File", .meth "File" "pieces", .meth "File" "put_behind"]
def fa3 : List He.Fa := [.meth "File" "lose_all", .mkr "Disk", .meth "Disk" "names", .meth "Disk" "free", .meth "Disk" "__contains__", .meth "Disk" "__getitem__", .meth "Disk" "make", .meth "Disk" "open_file", .meth "Disk" "grow", .meth "Disk" "ones", .meth "Disk" "written_behind", .meth "Disk" "flush", .meth "Disk" "close", .meth "Disk" "reopen", .meth "Disk" "delete", .mkr "Book", .meth "Book" "given", .meth "Book" "__call__", .meth "Book" "twin", .keep "is_integer", .keep "check_integer", .keep "is_name", .keep "is_enough", .keep "first_enough", .keep "best_enough", .keep "place_by_rule", .keep "placed", .keep "is_run", .keep "end_of", .keep "is_before"]
def fa4 : List He.Fa := [.keep "joined", .keep "shared", .keep "others", .keep "runs_of", .keep "pairs_of", .keep "room_of", .keep "check_disk", .keep "is_share", .keep "part_of", .keep "check_parts", .keep "_law_hand", .keep "_law_draw", .keep "_law_made", .keep "_law_rules", .keep "_law_small_book", .keep "_law_disk", .keep "_law_alike", .keep "_law_growths", .keep "law"]
def fa : List He.Fa := fa0 ++ (fa1 ++ (fa2 ++ (fa3 ++ (fa4))))
def d_is_integer : He.DefD := ⟨("is_integer", none), "is_integer", "is_integer", defArgs S_is_integer, defBody S_is_integer, defScope S_is_integer, [], []⟩
def d_check_integer : He.DefD := ⟨("check_integer", none), "check_integer", "check_integer", defArgs S_check_integer, defBody S_check_integer, defScope S_check_integer, [], []⟩
def d_is_name : He.DefD := ⟨("is_name", none), "is_name", "is_name", defArgs S_is_name, defBody S_is_name, defScope S_is_name, [], []⟩
def d_is_enough : He.DefD := ⟨("is_enough", none), "is_enough", "is_enough", defArgs S_is_enough, defBody S_is_enough, defScope S_is_enough, [], []⟩
def d_first_enough : He.DefD := ⟨("first_enough", none), "first_enough", "first_enough", defArgs S_first_enough, defBody S_first_enough, defScope S_first_enough, [], []⟩
def d_best_enough : He.DefD := ⟨("best_enough", none), "best_enough", "best_enough", defArgs S_best_enough, defBody S_best_enough, defScope S_best_enough, [], []⟩
def d_place_by_rule : He.DefD := ⟨("place_by_rule", none), "place_by_rule", "place_by_rule", defArgs S_place_by_rule, defBody S_place_by_rule, defScope S_place_by_rule, [], []⟩
def d_placed : He.DefD := ⟨("placed", none), "placed", "placed", defArgs S_placed, defBody S_placed, defScope S_placed, [], []⟩
def d_is_run : He.DefD := ⟨("is_run", none), "is_run", "is_run", defArgs S_is_run, defBody S_is_run, defScope S_is_run, [], []⟩
def d_end_of : He.DefD := ⟨("end_of", none), "end_of", "end_of", defArgs S_end_of, defBody S_end_of, defScope S_end_of, [], []⟩
def d_is_before : He.DefD := ⟨("is_before", none), "is_before", "is_before", defArgs S_is_before, defBody S_is_before, defScope S_is_before, [], []⟩
def d_joined : He.DefD := ⟨("joined", none), "joined", "joined", defArgs S_joined, defBody S_joined, defScope S_joined, [], []⟩
def d_shared : He.DefD := ⟨("shared", none), "shared", "shared", defArgs S_shared, defBody S_shared, defScope S_shared, [], []⟩
def d_others : He.DefD := ⟨("others", none), "others", "others", defArgs S_others, defBody S_others, defScope S_others, [], []⟩
def d_runs_of : He.DefD := ⟨("runs_of", none), "runs_of", "runs_of", defArgs S_runs_of, defBody S_runs_of, defScope S_runs_of, [], []⟩
def d_pairs_of : He.DefD := ⟨("pairs_of", none), "pairs_of", "pairs_of", defArgs S_pairs_of, defBody S_pairs_of, defScope S_pairs_of, [], []⟩
def d_room_of : He.DefD := ⟨("room_of", none), "room_of", "room_of", defArgs S_room_of, defBody S_room_of, defScope S_room_of, [], []⟩
def d_check_disk : He.DefD := ⟨("check_disk", none), "check_disk", "check_disk", defArgs S_check_disk, defBody S_check_disk, defScope S_check_disk, [], []⟩
def d_is_share : He.DefD := ⟨("is_share", none), "is_share", "is_share", defArgs S_is_share, defBody S_is_share, defScope S_is_share, [], []⟩
def d_part_of : He.DefD := ⟨("part_of", none), "part_of", "part_of", defArgs S_part_of, defBody S_part_of, defScope S_part_of, [], []⟩
def d_check_parts : He.DefD := ⟨("check_parts", none), "check_parts", "check_parts", defArgs S_check_parts, defBody S_check_parts, defScope S_check_parts, [], []⟩
def d_law_hand : He.DefD := ⟨("_law_hand", none), "_law_hand", "_law_hand", defArgs S_law_hand, defBody S_law_hand, defScope S_law_hand, [], []⟩
def d_law_draw : He.DefD := ⟨("_law_draw", none), "_law_draw", "_law_draw", defArgs S_law_draw, defBody S_law_draw, defScope S_law_draw, [], []⟩
def d_law_made : He.DefD := ⟨("_law_made", none), "_law_made", "_law_made", defArgs S_law_made, defBody S_law_made, defScope S_law_made, [], []⟩
def d_law_rules : He.DefD := ⟨("_law_rules", none), "_law_rules", "_law_rules", defArgs S_law_rules, defBody S_law_rules, defScope S_law_rules, [], []⟩
def d_law_small_book : He.DefD := ⟨("_law_small_book", none), "_law_small_book", "_law_small_book", defArgs S_law_small_book, defBody S_law_small_book, defScope S_law_small_book, [], []⟩
def d_law_disk : He.DefD := ⟨("_law_disk", none), "_law_disk", "_law_disk", defArgs S_law_disk, defBody S_law_disk, defScope S_law_disk, [], []⟩
def d_law_alike : He.DefD := ⟨("_law_alike", none), "_law_alike", "_law_alike", defArgs S_law_alike, defBody S_law_alike, defScope S_law_alike, [], []⟩
def d_law_growths : He.DefD := ⟨("_law_growths", none), "_law_growths", "_law_growths", defArgs S_law_growths, defBody S_law_growths, defScope S_law_growths, [], []⟩
def d_law : He.DefD := ⟨("law", none), "law", "law", defArgs S_law, defBody S_law, defScope S_law, [], []⟩
def d_Pairs_init : He.DefD := ⟨("Pairs", some "__init__"), "__init__", "Pairs.__init__", defArgs S_Pairs_init, defBody S_Pairs_init, defScope S_Pairs_init, [], []⟩
def d_Room_init : He.DefD := ⟨("Room", some "__init__"), "__init__", "Room.__init__", defArgs S_Room_init, defBody S_Room_init, defScope S_Room_init, [], []⟩
def d_Room_runs : He.DefD := ⟨("Room", some "runs"), "runs", "Room.runs", defArgs S_Room_runs, defBody S_Room_runs, defScope S_Room_runs, [], []⟩
def d_Room_runs_from : He.DefD := ⟨("Room", some "runs_from"), "runs_from", "Room.runs_from", defArgs S_Room_runs_from, defBody S_Room_runs_from, defScope S_Room_runs_from, [], []⟩
def d_Room_bool : He.DefD := ⟨("Room", some "__bool__"), "__bool__", "Room.__bool__", defArgs S_Room_bool, defBody S_Room_bool, defScope S_Room_bool, [], []⟩
def d_Room_sub : He.DefD := ⟨("Room", some "__sub__"), "__sub__", "Room.__sub__", defArgs S_Room_sub, defBody S_Room_sub, defScope S_Room_sub, [], []⟩
def d_File_init : He.DefD := ⟨("File", some "__init__"), "__init__", "File.__init__", defArgs S_File_init, defBody S_File_init, defScope S_File_init, [], []⟩
def d_File_pieces : He.DefD := ⟨("File", some "pieces"), "pieces", "File.pieces", defArgs S_File_pieces, defBody S_File_pieces, defScope S_File_pieces, [], []⟩
def d_File_put_behind : He.DefD := ⟨("File", some "put_behind"), "put_behind", "File.put_behind", defArgs S_File_put_behind, defBody S_File_put_behind, defScope S_File_put_behind, [], []⟩
def d_File_lose_all : He.DefD := ⟨("File", some "lose_all"), "lose_all", "File.lose_all", defArgs S_File_lose_all, defBody S_File_lose_all, defScope S_File_lose_all, [], []⟩
def d_Disk_init : He.DefD := ⟨("Disk", some "__init__"), "__init__", "Disk.__init__", defArgs S_Disk_init, defBody S_Disk_init, defScope S_Disk_init, [], []⟩
def d_Disk_names : He.DefD := ⟨("Disk", some "names"), "names", "Disk.names", defArgs S_Disk_names, defBody S_Disk_names, defScope S_Disk_names, [], []⟩
def d_Disk_free : He.DefD := ⟨("Disk", some "free"), "free", "Disk.free", defArgs S_Disk_free, defBody S_Disk_free, defScope S_Disk_free, [], []⟩
def d_Disk_contains : He.DefD := ⟨("Disk", some "__contains__"), "__contains__", "Disk.__contains__", defArgs S_Disk_contains, defBody S_Disk_contains, defScope S_Disk_contains, [], []⟩
def d_Disk_getitem : He.DefD := ⟨("Disk", some "__getitem__"), "__getitem__", "Disk.__getitem__", defArgs S_Disk_getitem, defBody S_Disk_getitem, defScope S_Disk_getitem, [], []⟩
def d_Disk_make : He.DefD := ⟨("Disk", some "make"), "make", "Disk.make", defArgs S_Disk_make, defBody S_Disk_make, defScope S_Disk_make, [], []⟩
def d_Disk_open_file : He.DefD := ⟨("Disk", some "open_file"), "open_file", "Disk.open_file", defArgs S_Disk_open_file, defBody S_Disk_open_file, defScope S_Disk_open_file, [], []⟩
def d_Disk_grow : He.DefD := ⟨("Disk", some "grow"), "grow", "Disk.grow", defArgs S_Disk_grow, defBody S_Disk_grow, defScope S_Disk_grow, [], []⟩
def d_Disk_ones : He.DefD := ⟨("Disk", some "ones"), "ones", "Disk.ones", defArgs S_Disk_ones, defBody S_Disk_ones, defScope S_Disk_ones, [], []⟩
def d_Disk_written_behind : He.DefD := ⟨("Disk", some "written_behind"), "written_behind", "Disk.written_behind", defArgs S_Disk_written_behind, defBody S_Disk_written_behind, defScope S_Disk_written_behind, [], []⟩
def d_Disk_flush : He.DefD := ⟨("Disk", some "flush"), "flush", "Disk.flush", defArgs S_Disk_flush, defBody S_Disk_flush, defScope S_Disk_flush, [], []⟩
def d_Disk_close : He.DefD := ⟨("Disk", some "close"), "close", "Disk.close", defArgs S_Disk_close, defBody S_Disk_close, defScope S_Disk_close, [], []⟩
def d_Disk_reopen : He.DefD := ⟨("Disk", some "reopen"), "reopen", "Disk.reopen", defArgs S_Disk_reopen, defBody S_Disk_reopen, defScope S_Disk_reopen, [], []⟩
def d_Disk_delete : He.DefD := ⟨("Disk", some "delete"), "delete", "Disk.delete", defArgs S_Disk_delete, defBody S_Disk_delete, defScope S_Disk_delete, [], []⟩
def d_Book_init : He.DefD := ⟨("Book", some "__init__"), "__init__", "Book.__init__", defArgs S_Book_init, defBody S_Book_init, defScope S_Book_init, [], []⟩
def d_Book_given : He.DefD := ⟨("Book", some "given"), "given", "Book.given", defArgs S_Book_given, defBody S_Book_given, defScope S_Book_given, [], []⟩
def d_Book_call : He.DefD := ⟨("Book", some "__call__"), "__call__", "Book.__call__", defArgs S_Book_call, defBody S_Book_call, defScope S_Book_call, [], []⟩
def d_Book_twin : He.DefD := ⟨("Book", some "twin"), "twin", "Book.twin", defArgs S_Book_twin, defBody S_Book_twin, defScope S_Book_twin, [], []⟩
def fn0 : List He.DefD := [d_is_integer, d_check_integer, d_is_name, d_is_enough, d_first_enough, d_best_enough, d_place_by_rule, d_placed, d_is_run, d_end_of, d_is_before, d_joined, d_shared, d_others, d_runs_of, d_pairs_of, d_room_of, d_check_disk, d_is_share, d_part_of, d_check_parts, d_law_hand, d_law_draw, d_law_made, d_law_rules, d_law_small_book, d_law_disk, d_law_alike, d_law_growths, d_law]
def fn1 : List He.DefD := [d_Pairs_init, d_Room_init, d_Room_runs, d_Room_runs_from, d_Room_bool, d_Room_sub, d_File_init, d_File_pieces, d_File_put_behind, d_File_lose_all, d_Disk_init, d_Disk_names, d_Disk_free, d_Disk_contains, d_Disk_getitem, d_Disk_make, d_Disk_open_file, d_Disk_grow, d_Disk_ones, d_Disk_written_behind, d_Disk_flush, d_Disk_close, d_Disk_reopen, d_Disk_delete, d_Book_init, d_Book_given, d_Book_call, d_Book_twin]
def fn : List He.DefD := fn0 ++ (fn1)
def ex (K : PySem.W.Frag) : Bool := PySem.W.selfFirst K (He.ga K "Room") && (PySem.W.fnIn K (He.ma K (He.ga K "Disk") "__getitem__") && (PySem.W.fnIn K (He.ma K (He.ga K "Book") "__call__") && (He.tupB K "RULES" [.str "behind", .str "first", .str "best", .str "next"] && (decide (PySem.W.kitOne K (.type "list") (.ref (He.ga K "Pairs")) = some false) && (He.eqO (PySem.W.findIn K (.ref (He.ga K "Pairs")) "__class__") (some (some (.builtin "object.__class__"))) && (decide (PySem.W.mroIn K (He.ga K "Pairs") (.type "object") = some true) && (He.eqO (PySem.W.findIn K (.ref (He.ga K "Room")) "__class__") (some (some (.builtin "object.__class__"))) && (decide (PySem.W.mroIn K (He.ga K "Room") (.type "object") = some true) && (He.eqO (PySem.W.specialIn K (.builtin "object.__class__") "__get__") (some (some (.builtin "getset_descriptor.__get__"))) && (decide (PySem.W.takesIn K (.builtin "object.__class__") = some true)))))))))))
abbrev R : PySem.W.OpenRow := PySem.W.OpenLaw.row PySem.Challenge.rw_grownfiles_k36_whole_late_givings
abbrev qv : Program := PySem.W.view R.prog [77]
abbrev endS (w : World) (os : OsState) : Option PySem.W.SharedT := HandSHeadRun.endF (HandSHeadRun.stepQ (HandSHeadRun.denQ HandSHeadRun.tabQ) R.prog w) 20000 R.prog w os
def nm0 : List PySem.Str := ["_wall", "__name__", "GrowError", "InvalidRuns", "InvalidBlock", "InvalidBook", "InvalidNumber", "InvalidRule", "InvalidDisk", "InvalidName", "KnownName", "UnknownName", "Closed", "Opened", "Refused", "InvalidEvent", "TooMany", "MOST", "MOST_BLOCK", "MOST_GROWTH", "SMALL", "is_integer", "check_integer", "is_name", "WORDS", "is_event", "RULES", "is_enough", "first_enough", "best_enough"]
def nm1 : List PySem.Str := ["place_by_rule", "by_short_runs", "placed", "MOST_RUNS", "is_run", "end_of", "is_before", "joined", "shared", "others", "runs_of", "Pairs", "Room", "pairs_of", "room_of", "MOST_BLOCKS", "MOST_GIVINGS", "block_at", "File", "check_disk", "Disk", "MOST_SHARE", "is_share", "part_of", "least_hold", "check_parts", "Book", "step_of", "is_never_more", "_law_hand"]
def nm2 : List PySem.Str := ["_law_draw", "_law_book", "_law_made", "_law_step", "_law_rules", "_law_small_book", "_law_disk", "_law_event", "_law_alike", "_law_growths"]
def names : List PySem.Str := nm0 ++ nm1 ++ nm2
def ex2 (K : PySem.W.Frag) : Bool := PySem.W.codeHdIn K (cJ K) (tJ K) && ((K.lookup (tJ K)).isNone && ex K)
abbrev AlK : Type := He.AlD × Bool × Option Obj
abbrev tab0 : Obj := { cls := .none, data := .fields #[] }
def obK (g : Addr → Option Obj) (K : PySem.W.Frag) : AlK := (He.obsD fa fn K, ex2 K, g (tJ K))
def obG (g : Addr → Option Obj) : AlK := wA g fun as => obK g (He.frG g as)
def valK : AlK := (He.valD fn, true, some tab0)
/-- what the top has left -/
structure SaysK (K : PySem.W.Frag) (h : Heap) : Prop where
  in_ : K.In h
  says : He.SaysD fa fn K
  ex : ex2 K = true
  tab : h.get? (tJ K) = some tab0
def hk : PySem.W.Hook where
  α := AlK
  obs := fun s => obG s.heap.get?
  val := fun _ => valK
  says := fun _ h => ∃ K : PySem.W.Frag, SaysK K h
  of := fun _ s e => by
    have e2 : obK s.heap.get? (He.frG s.heap.get? (asL s.heap.get?)) = valK := (wA_eq s.heap.get? _).symm.trans e
    obtain ⟨e3, e4⟩ := Prod.mk.inj e2
    obtain ⟨e5, e6⟩ := Prod.mk.inj e4
    exact ⟨_, He.frG_in, e3, e5, e6⟩
  keeps := fun _ _ _ ⟨K, c⟩ k => ⟨K, PySem.W.Frag.In.keeps c.in_ k, c.says, c.ex, k _ _ c.tab⟩
def ob (s : PySem.W.SharedT) : AlK := obG (HandSHeadRun.getT s)
theorem ob_eq (s : PySem.W.SharedT) : ob s = hk.obs s.abs := by
  show obG (HandSHeadRun.getT s) = obG s.abs.heap.get?
  rw [show HandSHeadRun.getT s = s.abs.heap.get? from funext fun a => HandSHeadRun.getT_eq s a]

theorem run (w : World) : HandSHeadRun.RunEq R qv hk ob 20000 names w := by
  intro os
  kernel_rfl

end K36H
end
set_option maxHeartbeats 8000000
/-! ## KMath -/
/-! the plain law: what the program computes, as functions of data -/
namespace K36
/-- a run (start, length) or a pair (start, end) -/
abbrev PR := Int × Option Int
def endOf (r : PR) : Option Int := r.2.map fun l => r.1 + l
def isBefore : Option Int → Option Int → Bool
  | none, _ => false
  | some _, none => true
  | some a, some b => decide (a < b)
def isEnough (r : PR) (m : Int) : Bool := match r.2 with
  | none => true
  | some l => decide (m ≤ l)
def firstEnough (ps : List PR) (m : Int) : Option Int := (ps.find? fun r => isEnough r m).map (·.1)
def bestStep (m : Int) (b : Option PR) (r : PR) : Option PR :=
  if isEnough r m = true then
    match b with
    | none => some r
    | some c => match r.2 with
      | none => some c
      | some l => match c.2 with
        | none => some r
        | some k => if l < k then some r else some c
  else b
def bestEnough (ps : List PR) (m : Int) : Option Int := (ps.foldl (bestStep m) none).map (·.1)

/-! ### sorting by a key, stable -/
section
variable {α β : Type}
def insK (k : α → Int) (x : α) : List α → List α
  | [] => [x]
  | y :: r => if k x ≤ k y then x :: y :: r else y :: insK k x r
def sortK (k : α → Int) : List α → List α
  | [] => []
  | x :: r => insK k x (sortK k r)
theorem insK_perm (k : α → Int) (x : α) : ∀ l : List α, (insK k x l).Perm (x :: l)
  | [] => List.Perm.refl _
  | y :: r => by
    unfold insK
    split
    · exact List.Perm.refl _
    · exact ((insK_perm k x r).cons y).trans (List.Perm.swap x y r)
theorem sortK_perm (k : α → Int) : ∀ l : List α, (sortK k l).Perm l
  | [] => List.Perm.refl _
  | x :: r => (insK_perm k x _).trans ((sortK_perm k r).cons x)
theorem insK_sorted (k : α → Int) (x : α) : ∀ l : List α, l.Pairwise (fun a b => k a ≤ k b) → (insK k x l).Pairwise (fun a b => k a ≤ k b)
  | [], _ => List.pairwise_singleton _ _
  | y :: r, h => by
    obtain ⟨h1, h2⟩ := List.pairwise_cons.mp h
    unfold insK
    split
    · rename_i q
      refine List.pairwise_cons.mpr ⟨fun z hz => ?_, h⟩
      rcases List.mem_cons.mp hz with e | hz
      · rw [e]; exact q
      · exact Int.le_trans q (h1 z hz)
    · rename_i q
      refine List.pairwise_cons.mpr ⟨fun z hz => ?_, insK_sorted k x r h2⟩
      rcases List.mem_cons.mp ((insK_perm k x r).mem_iff.mp hz) with e | hz
      · rw [e]; omega
      · exact h1 z hz
theorem sortK_sorted (k : α → Int) : ∀ l : List α, (sortK k l).Pairwise (fun a b => k a ≤ k b)
  | [] => List.Pairwise.nil
  | x :: r => insK_sorted k x _ (sortK_sorted k r)
theorem filt_c {p : α → Bool} {x : α} {l : List α} : (x :: l).filter p = if p x = true then x :: l.filter p else l.filter p := List.filter_cons
theorem insK_filter (k : α → Int) (x : α) (c : Int) : ∀ l : List α, (insK k x l).filter (fun a => k a == c) = (x :: l).filter (fun a => k a == c)
  | [] => rfl
  | y :: r => by
    unfold insK
    split
    · rfl
    · rename_i q
      have ih := insK_filter k x c r
      by_cases h1 : (k y == c) = true
      · by_cases h2 : (k x == c) = true
        · have e1 := eq_of_beq h1
          have e2 := eq_of_beq h2
          omega
        · rw [filt_c, if_pos h1, ih, filt_c, if_neg h2, filt_c (x := x), if_neg h2, filt_c, if_pos h1]
      · rw [filt_c, if_neg h1, ih, filt_c, filt_c (x := x), filt_c (x := y), if_neg h1]
theorem sortK_filter (k : α → Int) (c : Int) : ∀ l : List α, (sortK k l).filter (fun a => k a == c) = l.filter (fun a => k a == c)
  | [] => rfl
  | x :: r => by
    show (insK k x (sortK k r)).filter _ = _
    rw [insK_filter, filt_c, sortK_filter k c r]
    exact (filt_c (p := fun a => k a == c)).symm
theorem sorted_unique (k : α → Int) : ∀ l1 l2 : List α, l1.Pairwise (fun a b => k a ≤ k b) → l2.Pairwise (fun a b => k a ≤ k b) → (∀ c, l1.filter (fun a => k a == c) = l2.filter (fun a => k a == c)) → l1 = l2
  | [], [], _, _, _ => rfl
  | [], b :: t2, _, _, h => by
    have e := h (k b)
    rw [List.filter_cons, if_pos (by simp)] at e
    cases e
  | a :: t1, [], _, _, h => by
    have e := h (k a)
    rw [List.filter_cons, if_pos (by simp)] at e
    cases e
  | a :: t1, b :: t2, h1, h2, h => by
    obtain ⟨p1, q1⟩ := List.pairwise_cons.mp h1
    obtain ⟨p2, q2⟩ := List.pairwise_cons.mp h2
    have ab : k a ≤ k b := by
      have m : b ∈ (a :: t1).filter (fun x => k x == k b) := by
        rw [h (k b), List.filter_cons, if_pos (by simp)]
        exact List.mem_cons_self
      rcases List.mem_cons.mp (List.mem_filter.mp m).1 with e | e
      · rw [e]; exact Int.le_refl _
      · exact p1 b e
    have ba : k b ≤ k a := by
      have m : a ∈ (b :: t2).filter (fun x => k x == k a) := by
        rw [← h (k a), List.filter_cons, if_pos (by simp)]
        exact List.mem_cons_self
      rcases List.mem_cons.mp (List.mem_filter.mp m).1 with e | e
      · rw [e]; exact Int.le_refl _
      · exact p2 a e
    have e : k a = k b := Int.le_antisymm ab ba
    have hh := h (k a)
    rw [filt_c, if_pos (by simp), filt_c, if_pos (by simp [e])] at hh
    injection hh with e1 _
    subst e1
    have tl : ∀ c, t1.filter (fun x => k x == c) = t2.filter (fun x => k x == c) := fun c => by
      have z := h c
      rw [filt_c, filt_c (x := a) (l := t2)] at z
      by_cases q : (k a == c) = true
      · rw [if_pos q, if_pos q] at z
        injection z
      · rw [if_neg q, if_neg q] at z
        exact z
    rw [sorted_unique k t1 t2 q1 q2 tl]
theorem sortK_of {k : α → Int} {l out : List α} (hs : out.Pairwise (fun a b => k a ≤ k b)) (hf : ∀ c, out.filter (fun a => k a == c) = l.filter (fun a => k a == c)) : out = sortK k l :=
  sorted_unique k _ _ hs (sortK_sorted k l) fun c => (hf c).trans (sortK_filter k c l).symm
theorem insK_map (k : β → Int) (g : α → β) (x : α) : ∀ l : List α, insK k (g x) (l.map g) = (insK (fun a => k (g a)) x l).map g
  | [] => rfl
  | y :: r => by
    rw [List.map_cons]
    unfold insK
    split
    · rfl
    · rw [insK_map k g x r]; rfl
theorem sortK_map (k : β → Int) (g : α → β) : ∀ l : List α, sortK k (l.map g) = (sortK (fun a => k (g a)) l).map g
  | [] => rfl
  | x :: r => by
    rw [List.map_cons]
    show insK k (g x) (sortK k (r.map g)) = (insK (fun a => k (g a)) x (sortK (fun a => k (g a)) r)).map g
    rw [sortK_map k g r, insK_map]
theorem sortK_length (k : α → Int) (l : List α) : (sortK k l).length = l.length := (sortK_perm k l).length_eq
end

/-! ### rooms -/
def lastOpen (e : Option Int) (s : Int) : Bool := match e with
  | none => true
  | some e => decide (s ≤ e)
def joinStep (f : List PR) (r : PR) : List PR := match f.getLast? with
  | none => f ++ [(r.1, endOf r)]
  | some c => if lastOpen c.2 r.1 = true then (if isBefore c.2 (endOf r) = true then f.set (f.length - 1) (c.1, endOf r) else f) else f ++ [(r.1, endOf r)]
def joinedF (ps : List PR) : List PR := (sortK (fun p => p.1) ps).foldl joinStep []
def maxI (a b : Int) : Int := if a < b then b else a
def sharedOne (a b : PR) : List PR :=
  if (isBefore (some (maxI a.1 b.1)) a.2 && isBefore (some (maxI a.1 b.1)) b.2) = true then [(maxI a.1 b.1, if isBefore a.2 b.2 = true then a.2 else b.2)] else []
def sharedOf (ours theirs : List PR) : List PR := ours.flatMap fun a => theirs.flatMap (sharedOne a)
def othersAt (f : List PR) (a : Option Int) (s : Int) : List PR := match a with
  | none => f
  | some a => if a < s then f ++ [(a, some s)] else f
def othersStep (st : List PR × Option Int) (p : PR) : List PR × Option Int := (othersAt st.1 st.2 p.1, p.2)
def othersEnd (st : List PR × Option Int) : List PR := match st.2 with
  | none => st.1
  | some a => st.1 ++ [(a, none)]
def othersOf (ps : List PR) : List PR := othersEnd (ps.foldl othersStep ([], some 0))
def runsOf (ps : List PR) : List PR := ps.map fun p => (p.1, p.2.map fun e => e - p.1)
def runsFrom (ps : List PR) (b : Int) : List PR := runsOf (sharedOf ps [(b, none)])
def finR (rs : List (Int × Int)) : List PR := rs.map fun r => (r.1, some r.2)
def freeF (rs : List (Int × Int)) : List PR := sharedOf [(0, none)] (othersOf (joinedF (finR rs)))
def placeBy (best next beh : Bool) (ps : List PR) (many behind after : Int) : Option Int :=
  if best = true then bestEnough (runsOf ps) many
  else match (if beh = true then firstEnough ((runsFrom ps behind).filter fun r => decide (r.1 = behind)) many else if next = true then firstEnough (runsFrom ps after) many else none) with
    | none => firstEnough (runsOf ps) many
    | some x => some x

/-! ### lengths -/
theorem joinStep_len (f : List PR) (r : PR) : (joinStep f r).length ≤ f.length + 1 := by
  unfold joinStep
  split
  · simp
  · split
    · split
      · simp
      · omega
    · simp
theorem joinFold_len : ∀ (ps f : List PR), (ps.foldl joinStep f).length ≤ f.length + ps.length
  | [], f => Nat.le_refl _
  | p :: r, f => by
    have h1 := joinFold_len r (joinStep f p)
    have h2 := joinStep_len f p
    rw [List.foldl_cons, List.length_cons]
    omega
theorem joined_len (ps : List PR) : (joinedF ps).length ≤ ps.length := by
  have h := joinFold_len (sortK (fun p => p.1) ps) []
  rw [sortK_length, List.length_nil, Nat.zero_add] at h
  exact h
theorem othersAt_len (f : List PR) (a : Option Int) (s : Int) : (othersAt f a s).length ≤ f.length + 1 := by
  unfold othersAt
  split
  · omega
  · split
    · simp
    · omega
theorem othersFold_len : ∀ (ps : List PR) (st : List PR × Option Int), (ps.foldl othersStep st).1.length ≤ st.1.length + ps.length
  | [], st => Nat.le_refl _
  | p :: r, st => by
    have h1 := othersFold_len r (othersStep st p)
    have h2 : (othersStep st p).1.length ≤ st.1.length + 1 := othersAt_len _ _ _
    rw [List.foldl_cons, List.length_cons]
    omega
theorem others_len (ps : List PR) : (othersOf ps).length ≤ ps.length + 1 := by
  have h := othersFold_len ps ([], some 0)
  unfold othersOf othersEnd
  split
  · have h' : (ps.foldl othersStep ([], some 0)).1.length ≤ 0 + ps.length := h
    omega
  · have h' : (ps.foldl othersStep ([], some 0)).1.length ≤ 0 + ps.length := h
    rw [List.length_append]
    show _ + 1 ≤ _
    omega
theorem sharedOne_len (a b : PR) : (sharedOne a b).length ≤ 1 := by
  unfold sharedOne
  split
  · exact Nat.le_refl _
  · exact Nat.zero_le _
theorem sharedIn_len (a : PR) : ∀ bs : List PR, (bs.flatMap (sharedOne a)).length ≤ bs.length
  | [] => Nat.le_refl _
  | b :: r => by
    have h1 := sharedOne_len a b
    have h2 := sharedIn_len a r
    rw [List.flatMap_cons, List.length_append, List.length_cons]
    omega
theorem shared_len : ∀ as bs : List PR, (sharedOf as bs).length ≤ as.length * bs.length
  | [], bs => by simp [sharedOf]
  | a :: r, bs => by
    have h1 := sharedIn_len a bs
    have h2 := shared_len r bs
    unfold sharedOf at h2 ⊢
    rw [List.flatMap_cons, List.length_append, List.length_cons, Nat.add_mul, Nat.one_mul]
    omega
theorem free_len (rs : List (Int × Int)) : (freeF rs).length ≤ rs.length + 1 := by
  have h1 := shared_len [(0, none)] (othersOf (joinedF (finR rs)))
  have h2 := others_len (joinedF (finR rs))
  have h3 := joined_len (finR rs)
  have h4 : (finR rs).length = rs.length := List.length_map _
  unfold freeF
  simp only [List.length_cons, List.length_nil, Nat.zero_add, Nat.one_mul] at h1
  omega

/-! ### what is free: between 0 and B, and without end -/
/-- a finite pair within B -/
def FinP (B : Int) (p : PR) : Prop := 0 ≤ p.1 ∧ ∃ e, p.2 = some e ∧ 0 ≤ e ∧ e ≤ B
/-- a run of a file within B -/
def RunIn (B : Int) (r : Int × Int) : Prop := 0 ≤ r.1 ∧ 0 ≤ r.2 ∧ r.1 + r.2 ≤ B
theorem RunIn.mono {B C : Int} {r : Int × Int} (h : RunIn B r) (le : B ≤ C) : RunIn C r := ⟨h.1, h.2.1, Int.le_trans h.2.2 le⟩
theorem joinStep_fin {B : Int} {f : List PR} {r : Int × Int} (hf : ∀ p ∈ f, FinP B p) (hr : RunIn B r) : ∀ p ∈ joinStep f (r.1, some r.2), FinP B p := by
  obtain ⟨h1, h2, h3⟩ := hr
  have new : ∀ s : Int, 0 ≤ s → FinP B (s, endOf (r.1, some r.2)) := fun s hs => ⟨hs, r.1 + r.2, rfl, by omega, h3⟩
  intro p hp
  unfold joinStep at hp
  split at hp
  · rcases List.mem_append.mp hp with q | q
    · exact hf p q
    · rw [List.mem_singleton.mp q]
      exact new r.1 h1
  · rename_i c hc
    split at hp
    · split at hp
      · rcases List.mem_or_eq_of_mem_set hp with q | q
        · exact hf p q
        · rw [q]
          exact new _ (hf c (List.mem_of_getLast? hc)).1
      · exact hf p hp
    · rcases List.mem_append.mp hp with q | q
      · exact hf p q
      · rw [List.mem_singleton.mp q]
        exact new r.1 h1
theorem joinFold_fin {B : Int} : ∀ (ps f : List PR), (∀ p ∈ f, FinP B p) → (∀ p ∈ ps, ∃ r : Int × Int, p = (r.1, some r.2) ∧ RunIn B r) → ∀ p ∈ ps.foldl joinStep f, FinP B p
  | [], f, hf, _ => hf
  | q :: t, f, hf, hp => by
    obtain ⟨r, e, hr⟩ := hp q List.mem_cons_self
    rw [List.foldl_cons, e]
    exact joinFold_fin t _ (joinStep_fin hf hr) fun p h => hp p (List.mem_cons_of_mem _ h)
theorem joined_fin {B : Int} {rs : List (Int × Int)} (h : ∀ r ∈ rs, RunIn B r) : ∀ p ∈ joinedF (finR rs), FinP B p := by
  refine joinFold_fin _ [] (fun p h => by simp at h) fun p hp => ?_
  have hp' := (sortK_perm _ _).mem_iff.mp hp
  obtain ⟨r, hr, e⟩ := List.mem_map.mp hp'
  exact ⟨r, e.symm, h r hr⟩
theorem othersFold_in {B : Int} : ∀ (ps : List PR) (st : List PR × Option Int), (∀ p ∈ ps, FinP B p) → (∀ p ∈ st.1, 0 ≤ p.1 ∧ p.1 ≤ B) → (∃ a, st.2 = some a ∧ 0 ≤ a ∧ a ≤ B) →
    (∀ p ∈ (ps.foldl othersStep st).1, 0 ≤ p.1 ∧ p.1 ≤ B) ∧ ∃ a, (ps.foldl othersStep st).2 = some a ∧ 0 ≤ a ∧ a ≤ B
  | [], st, _, h1, h2 => ⟨h1, h2⟩
  | q :: t, st, hp, h1, ⟨a, ea, a0, aB⟩ => by
    obtain ⟨q0, e, eq, e0, eB⟩ := hp q List.mem_cons_self
    rw [List.foldl_cons]
    refine othersFold_in t _ (fun p h => hp p (List.mem_cons_of_mem _ h)) (fun p hp' => ?_) ⟨e, eq, e0, eB⟩
    have hp2 : p ∈ othersAt st.1 st.2 q.1 := hp'
    rw [ea] at hp2
    unfold othersAt at hp2
    dsimp only at hp2
    split at hp2
    · rcases List.mem_append.mp hp2 with z | z
      · exact h1 p z
      · rw [List.mem_singleton.mp z]
        exact ⟨a0, aB⟩
    · exact h1 p hp2
theorem others_in {B : Int} (hB : 0 ≤ B) {ps : List PR} (h : ∀ p ∈ ps, FinP B p) : (∀ p ∈ othersOf ps, 0 ≤ p.1 ∧ p.1 ≤ B) ∧ ∃ a, (a, none) ∈ othersOf ps := by
  obtain ⟨h1, a, ea, a0, aB⟩ := othersFold_in ps ([], some 0) h (fun p h => by simp at h) ⟨0, rfl, Int.le_refl _, hB⟩
  have e : othersOf ps = (ps.foldl othersStep ([], some 0)).1 ++ [(a, none)] := by
    unfold othersOf othersEnd
    rw [ea]
  rw [e]
  refine ⟨fun p hp => ?_, a, List.mem_append_right _ List.mem_cons_self⟩
  rcases List.mem_append.mp hp with z | z
  · exact h1 p z
  · rw [List.mem_singleton.mp z]
    exact ⟨a0, aB⟩
theorem mem_sharedOne {a b p : PR} (h : p ∈ sharedOne a b) : p.1 = a.1 ∨ p.1 = b.1 := by
  unfold sharedOne at h
  split at h
  · rw [List.mem_singleton.mp h]
    show maxI a.1 b.1 = a.1 ∨ maxI a.1 b.1 = b.1
    unfold maxI
    split
    · exact .inr rfl
    · exact .inl rfl
  · simp at h
theorem mem_shared {as bs : List PR} {p : PR} (h : p ∈ sharedOf as bs) : ∃ a ∈ as, ∃ b ∈ bs, p ∈ sharedOne a b := by
  unfold sharedOf at h
  obtain ⟨a, ha, h⟩ := List.mem_flatMap.mp h
  obtain ⟨b, hb, h⟩ := List.mem_flatMap.mp h
  exact ⟨a, ha, b, hb, h⟩
theorem shared_start {B : Int} {as bs : List PR} (ha : ∀ p ∈ as, 0 ≤ p.1 ∧ p.1 ≤ B) (hb : ∀ p ∈ bs, 0 ≤ p.1 ∧ p.1 ≤ B) : ∀ p ∈ sharedOf as bs, 0 ≤ p.1 ∧ p.1 ≤ B := fun p hp => by
  obtain ⟨a, ma, b, mb, h⟩ := mem_shared hp
  rcases mem_sharedOne h with e | e
  · rw [e]; exact ha a ma
  · rw [e]; exact hb b mb
theorem shared_open {as bs : List PR} {a b : Int} (ha : (a, none) ∈ as) (hb : (b, none) ∈ bs) : ∃ c, (c, none) ∈ sharedOf as bs := by
  refine ⟨maxI a b, ?_⟩
  unfold sharedOf
  exact List.mem_flatMap.mpr ⟨_, ha, List.mem_flatMap.mpr ⟨_, hb, by unfold sharedOne; simp [isBefore]⟩⟩
theorem free_in {B : Int} (hB : 0 ≤ B) {rs : List (Int × Int)} (h : ∀ r ∈ rs, RunIn B r) : (∀ p ∈ freeF rs, 0 ≤ p.1 ∧ p.1 ≤ B) ∧ ∃ a, (a, none) ∈ freeF rs := by
  obtain ⟨h1, a, h2⟩ := others_in hB (joined_fin h)
  refine ⟨shared_start (fun p hp => ?_) h1, shared_open (a := 0) List.mem_cons_self h2⟩
  rw [List.mem_singleton.mp hp]
  exact ⟨Int.le_refl _, hB⟩
theorem runsOf_start {B : Int} {ps : List PR} (h : ∀ p ∈ ps, 0 ≤ p.1 ∧ p.1 ≤ B) : ∀ p ∈ runsOf ps, 0 ≤ p.1 ∧ p.1 ≤ B := fun p hp => by
  obtain ⟨q, hq, e⟩ := List.mem_map.mp hp
  rw [← e]
  exact h q hq
theorem runsOf_open {ps : List PR} {a : Int} (h : (a, none) ∈ ps) : (a, none) ∈ runsOf ps := List.mem_map.mpr ⟨_, h, rfl⟩
theorem firstEnough_in {B : Int} {ps : List PR} (h : ∀ p ∈ ps, 0 ≤ p.1 ∧ p.1 ≤ B) {m x : Int} (e : firstEnough ps m = some x) : 0 ≤ x ∧ x ≤ B := by
  unfold firstEnough at e
  cases q : ps.find? fun r => isEnough r m with
  | none => rw [q] at e; cases e
  | some r =>
    rw [q] at e
    cases e
    exact h r (List.mem_of_find?_eq_some q)
theorem firstEnough_some {ps : List PR} {a m : Int} (h : (a, none) ∈ ps) : ∃ x, firstEnough ps m = some x := by
  unfold firstEnough
  cases q : ps.find? fun r => isEnough r m with
  | none => exact absurd rfl (List.find?_eq_none.mp q _ h)
  | some r => exact ⟨r.1, rfl⟩
theorem bestStep_cases (m : Int) (b : Option PR) (r : PR) : bestStep m b r = b ∨ bestStep m b r = some r := by
  unfold bestStep
  split
  · split
    · exact .inr rfl
    · split
      · exact .inl rfl
      · split
        · exact .inr rfl
        · split
          · exact .inr rfl
          · exact .inl rfl
  · exact .inl rfl
theorem bestFold_in {m : Int} : ∀ (ps : List PR) (b : Option PR) (x : PR), ps.foldl (bestStep m) b = some x → b = some x ∨ x ∈ ps
  | [], b, x, e => .inl e
  | p :: r, b, x, e => by
    rw [List.foldl_cons] at e
    rcases bestFold_in r _ x e with h | h
    · rcases bestStep_cases m b p with q | q
      · rw [q] at h; exact .inl h
      · rw [q] at h
        cases h
        exact .inr List.mem_cons_self
    · exact .inr (List.mem_cons_of_mem _ h)
theorem bestFold_keep {m : Int} : ∀ (ps : List PR) (b : PR), ∃ x, ps.foldl (bestStep m) (some b) = some x
  | [], b => ⟨b, rfl⟩
  | p :: r, b => by
    rw [List.foldl_cons]
    rcases bestStep_cases m (some b) p with q | q
    · rw [q]; exact bestFold_keep r b
    · rw [q]; exact bestFold_keep r p
theorem bestFold_some {m a : Int} : ∀ (ps : List PR) (b : Option PR), (a, none) ∈ ps → ∃ x, ps.foldl (bestStep m) b = some x
  | [], b, h => by simp at h
  | p :: r, b, h => by
    rw [List.foldl_cons]
    rcases List.mem_cons.mp h with e | h
    · have e2 : ∃ c, bestStep m b p = some c := by
        rw [← e]
        unfold bestStep
        rw [if_pos (show isEnough (a, none) m = true from rfl)]
        cases b with
        | none => exact ⟨_, rfl⟩
        | some c => exact ⟨_, rfl⟩
      obtain ⟨c, ec⟩ := e2
      rw [ec]
      exact bestFold_keep r c
    · exact bestFold_some r _ h
theorem placeBy_ok {B : Int} {best next beh : Bool} {ps : List PR} {many behind after : Int} (h : ∀ p ∈ ps, 0 ≤ p.1 ∧ p.1 ≤ B) (ho : ∃ a, (a, none) ∈ ps) (hb : 0 ≤ behind ∧ behind ≤ B) (ha : 0 ≤ after ∧ after ≤ B) :
    ∃ x, placeBy best next beh ps many behind after = some x ∧ 0 ≤ x ∧ x ≤ B := by
  obtain ⟨a, ho⟩ := ho
  have hr := runsOf_start h
  have hro := runsOf_open ho
  have hf : ∀ b : Int, (0 ≤ b ∧ b ≤ B) → ∀ p ∈ runsFrom ps b, 0 ≤ p.1 ∧ p.1 ≤ B := fun b hb => runsOf_start (shared_start h fun p hp => by rw [List.mem_singleton.mp hp]; exact hb)
  unfold placeBy
  split
  · obtain ⟨x, ex⟩ := bestFold_some (m := many) (runsOf ps) none hro
    refine ⟨x.1, by unfold bestEnough; rw [ex]; rfl, ?_⟩
    rcases bestFold_in _ _ _ ex with z | z
    · cases z
    · exact hr x z
  · split
    · obtain ⟨x, ex⟩ := firstEnough_some (m := many) hro
      exact ⟨x, ex, firstEnough_in hr ex⟩
    · rename_i x e
      refine ⟨x, rfl, ?_⟩
      split at e
      · exact firstEnough_in (fun p hp => hf behind hb p (List.mem_filter.mp hp).1) e
      · split at e
        · exact firstEnough_in (hf after ha) e
        · cases e

/-! ### books -/
structure BookP where
  first : Int
  roof : Int
  top : Int
  bottom : Int
def partOf (b : BookP) (hold : Int) : Int := -((-hold * b.top) / b.bottom)
def givenF (b : BookP) (hold : Int) : Int := if partOf b hold < b.first then b.first else if partOf b hold < b.roof then partOf b hold else b.roof
structure BookOk (b : BookP) : Prop where
  f1 : 1 ≤ b.first
  fr : b.first ≤ b.roof
  r : b.roof ≤ 100
  t1 : 1 ≤ b.top
  t2 : b.top ≤ 100
  b1 : 1 ≤ b.bottom
  b2 : b.bottom ≤ 100
theorem givenF_in {b : BookP} (h : BookOk b) (hold : Int) : 1 ≤ givenF b hold ∧ givenF b hold ≤ b.roof := by
  obtain ⟨f1, fr, _⟩ := h
  unfold givenF
  split
  · exact ⟨f1, fr⟩
  · split <;> omega
def askedF (b : BookP) (hold need : Int) : Int := if givenF b hold > need then givenF b hold else need
theorem askedF_in {b : BookP} (h : BookOk b) {hold need : Int} (h1 : 1 ≤ need) : need ≤ askedF b hold need ∧ askedF b hold need ≤ need + 100 ∧ 1 ≤ askedF b hold need := by
  have g := givenF_in h hold
  have r := h.r
  unfold askedF
  split <;> omega

/-! ### files, and a giving -/
structure FS where
  size : Int
  hold : Int
  wait : Int
  op : Bool
  runs : List (Int × Int)
structure Par where
  best : Bool
  next : Bool
  beh : Bool
  book : BookP
def putF1 (rs : List (Int × Int)) (x n : Int) : List (Int × Int) := match rs.getLast? with
  | none => rs ++ [(x, n)]
  | some c => if c.1 + c.2 = x then rs.set (rs.length - 1) (c.1, c.2 + n) else rs ++ [(x, n)]
def behindF (rs : List (Int × Int)) (fr : List PR) : Int := match rs.getLast? with
  | some c => c.1 + c.2
  | none => match runsOf fr with
    | [] => 0
    | r :: _ => r.1
def needF (f : FS) (many : Int) : Int := f.size + many - f.hold
def askF (P : Par) (f : FS) (many : Int) : Int := askedF P.book f.hold (needF f many)
def startF (P : Par) (all : List (Int × Int)) (f : FS) (many after : Int) : Int :=
  (placeBy P.best P.next P.beh (freeF all) (askF P f many) (behindF f.runs (freeF all)) after).getD 0
/-- the file behind a growth -/
def wF (P : Par) (all : List (Int × Int)) (f : FS) (many after : Int) : FS :=
  if needF f many ≤ 0 then { f with size := f.size + many }
  else { f with size := f.size + many, hold := f.hold + askF P f many, runs := putF1 f.runs (startF P all f many after) (askF P f many) }
def wA (P : Par) (all : List (Int × Int)) (f : FS) (many after : Int) : Int := if needF f many ≤ 0 then after else startF P all f many after + askF P f many
def wG (P : Par) (f : FS) (many : Int) : Int := if needF f many ≤ 0 then 0 else askF P f many
/-- what holds of a file: B bounds all ends, S its hold, n its pieces -/
structure FOk (B S : Int) (n : Nat) (f : FS) : Prop where
  s0 : 0 ≤ f.size
  sh : f.size ≤ f.hold
  hS : f.hold ≤ S
  rn : f.runs.length ≤ n
  ri : ∀ r ∈ f.runs, RunIn B r
theorem FOk.mono {B B' S S' : Int} {n n' : Nat} {f : FS} (h : FOk B S n f) (hB : B ≤ B') (hS : S ≤ S') (hn : n ≤ n') : FOk B' S' n' f :=
  ⟨h.s0, h.sh, Int.le_trans h.hS hS, Nat.le_trans h.rn hn, fun r hr => (h.ri r hr).mono hB⟩
theorem putF1_len (rs : List (Int × Int)) (x n : Int) : (putF1 rs x n).length ≤ rs.length + 1 := by
  unfold putF1
  split
  · simp
  · split
    · simp
    · simp
theorem putF1_in {B x n : Int} {rs : List (Int × Int)} (h : ∀ r ∈ rs, RunIn B r) (hx : 0 ≤ x) (hn : 0 ≤ n) (hxB : x ≤ B) : ∀ r ∈ putF1 rs x n, RunIn (B + n) r := by
  have le : B ≤ B + n := by omega
  intro r hr
  unfold putF1 at hr
  split at hr
  · rcases List.mem_append.mp hr with q | q
    · exact (h r q).mono le
    · rw [List.mem_singleton.mp q]
      exact ⟨hx, hn, by show x + n ≤ B + n; omega⟩
  · rename_i c hc
    have hcB := h c (List.mem_of_getLast? hc)
    split at hr
    · rcases List.mem_or_eq_of_mem_set hr with q | q
      · exact (h r q).mono le
      · rw [q]
        obtain ⟨c1, c2, c3⟩ := hcB
        exact ⟨c1, by show 0 ≤ c.2 + n; omega, by show c.1 + (c.2 + n) ≤ B + n; omega⟩
    · rcases List.mem_append.mp hr with q | q
      · exact (h r q).mono le
      · rw [List.mem_singleton.mp q]
        exact ⟨hx, hn, by show x + n ≤ B + n; omega⟩
theorem behindF_in {B : Int} (hB : 0 ≤ B) {rs : List (Int × Int)} {fr : List PR} (h : ∀ r ∈ rs, RunIn B r) (hf : ∀ p ∈ fr, 0 ≤ p.1 ∧ p.1 ≤ B) : 0 ≤ behindF rs fr ∧ behindF rs fr ≤ B := by
  unfold behindF
  split
  · rename_i c hc
    obtain ⟨c1, c2, c3⟩ := h c (List.mem_of_getLast? hc)
    exact ⟨by omega, c3⟩
  · split
    · exact ⟨Int.le_refl _, hB⟩
    · rename_i r t e
      exact runsOf_start hf r (by rw [e]; exact List.mem_cons_self)
/-- a giving: where, how much -/
structure GiveOk (P : Par) (all : List (Int × Int)) (f : FS) (many after B : Int) : Prop where
  need1 : 1 ≤ needF f many
  needm : needF f many ≤ many
  ask : needF f many ≤ askF P f many ∧ askF P f many ≤ many + 100
  at_ : placeBy P.best P.next P.beh (freeF all) (askF P f many) (behindF f.runs (freeF all)) after = some (startF P all f many after)
  lo : 0 ≤ startF P all f many after
  hi : startF P all f many after ≤ B
  beh : 0 ≤ behindF f.runs (freeF all) ∧ behindF f.runs (freeF all) ≤ B
theorem give_ok {P : Par} {all : List (Int × Int)} {f : FS} {many after B S : Int} {n : Nat} (hb : BookOk P.book) (hB : 0 ≤ B) (hf : FOk B S n f) (hall : ∀ r ∈ all, RunIn B r) (ha : 0 ≤ after ∧ after ≤ B) (hn : ¬ needF f many ≤ 0) : GiveOk P all f many after B := by
  have hfr := free_in hB hall
  have hbe := behindF_in hB hf.ri hfr.1
  have h1 : 1 ≤ needF f many := by omega
  have h2 : needF f many ≤ many := by
    have := hf.sh
    unfold needF
    omega
  have hk := askedF_in (hold := f.hold) hb h1
  have hk2 : needF f many ≤ askF P f many ∧ askF P f many ≤ many + 100 := ⟨hk.1, Int.le_trans hk.2.1 (by omega)⟩
  obtain ⟨x, ex, x0, xB⟩ := placeBy_ok (best := P.best) (next := P.next) (beh := P.beh) (many := askF P f many) hfr.1 hfr.2 hbe ha
  have es : startF P all f many after = x := by
    unfold startF
    rw [ex]
    rfl
  exact ⟨h1, h2, hk2, by rw [ex, es], by rw [es]; exact x0, by rw [es]; exact xB, hbe⟩
/-- behind a growth by at most M blocks -/
theorem w_ok {P : Par} {all : List (Int × Int)} {f : FS} {many after B S M : Int} {n : Nat} (hb : BookOk P.book) (hB : 0 ≤ B) (hf : FOk B S n f) (hall : ∀ r ∈ all, RunIn B r) (ha : 0 ≤ after ∧ after ≤ B) (h0 : 0 ≤ many) (hM : many ≤ M) :
    FOk (B + (M + 100)) (S + (M + 100)) (n + 1) (wF P all f many after) ∧ 0 ≤ wA P all f many after ∧ wA P all f many after ≤ B + (M + 100) := by
  have mono : FOk (B + (M + 100)) (S + (M + 100)) (n + 1) f := hf.mono (by omega) (by omega) (by omega)
  unfold wF wA
  split
  · rename_i hn
    have e : f.size + many ≤ f.hold := by unfold needF at hn; omega
    exact ⟨⟨by have := hf.s0; show 0 ≤ f.size + many; omega, e, mono.hS, mono.rn, mono.ri⟩, ha.1, by omega⟩
  · rename_i hn
    have g := give_ok (P := P) hb hB hf hall ha hn
    obtain ⟨k1, k2⟩ := g.ask
    have kn := g.need1
    have e1 : needF f many = f.size + many - f.hold := rfl
    refine ⟨⟨by have := hf.s0; show 0 ≤ f.size + many; omega, by show f.size + many ≤ f.hold + askF P f many; omega, by have := hf.hS; show f.hold + askF P f many ≤ _; omega, ?_, ?_⟩, ?_, ?_⟩
    · have l1 := putF1_len f.runs (startF P all f many after) (askF P f many)
      have l2 := hf.rn
      show (putF1 _ _ _).length ≤ _
      omega
    · intro r hr
      exact (putF1_in hf.ri g.lo (by omega) g.hi r hr).mono (by omega)
    · have := g.lo
      omega
    · have := g.hi
      omega
/-- nothing grows by nothing -/
theorem w_zero {P : Par} {all : List (Int × Int)} {f : FS} {after B S : Int} {n : Nat} (hf : FOk B S n f) : wF P all f 0 after = f ∧ wA P all f 0 after = after ∧ wG P f 0 = 0 := by
  have h : needF f 0 ≤ 0 := by
    have := hf.sh
    unfold needF
    omega
  unfold wF wA wG
  rw [if_pos h, if_pos h, if_pos h]
  refine ⟨?_, rfl, rfl⟩
  rw [Int.add_zero]
theorem wF_wait (P : Par) (all : List (Int × Int)) (f : FS) (many after : Int) : (wF P all f many after).wait = f.wait := by
  unfold wF
  split <;> rfl
theorem wF_op (P : Par) (all : List (Int × Int)) (f : FS) (many after : Int) : (wF P all f many after).op = f.op := by
  unfold wF
  split <;> rfl
/-- what waits and whether it is open has no part in a giving -/
theorem wF_with (P : Par) (all : List (Int × Int)) (f : FS) (many after w : Int) (o : Bool) :
    wF P all { f with wait := w, op := o } many after = { wF P all f many after with wait := w, op := o } ∧ wA P all { f with wait := w, op := o } many after = wA P all f many after ∧ wG P { f with wait := w, op := o } many = wG P f many := by
  refine ⟨?_, rfl, rfl⟩
  unfold wF
  by_cases h : needF f many ≤ 0
  · rw [if_pos h, if_pos (show needF { f with wait := w, op := o } many ≤ 0 from h)]
  · rw [if_neg h, if_neg (show ¬ needF { f with wait := w, op := o } many ≤ 0 from h)]
    rfl
end K36
/-! ## KRules -/
/-! rules of our own over the layer: own special methods, list(d.values()), sum of a pair, sorted by a key -/
namespace K36
open PySem PySem.Spec PyProof.Rows L2
theorem rr (a : Addr) : RelV (.ref a) (Value.ref a) := rfl
/-! ### a def's run below a body -/
section
variable {X : Cx} {pins : List (Addr × Obj)} {σ : L2.St} {H : Hp} {s : Shared}
theorem run_at {A : Around} {k : Nat} {f : Addr} {fd : FuncData} {ps : List Str} {sp : Sp} {us : List Value} {vs : List V} {Q : VK} {E : Value → Shared → Prop} (hfr : A.frames = X.A.frames) (F : FnOk X.prog X.w X.K X.mg X.base CX0 k f fd ps sp) (hr : Room k A) (hb : Binds X.K fd ps [])
    (I : Inv X pins σ H s) (r : Vals vs us) (h : sp vs H Q E0) : wpAny (model X.prog X.w) A (call (.ref f) us) (EP X pins σ Q) E s := by
  have e0 : Env0 X.prog X.w X.K X.mg X.base A X.stack s H := by
    have e := I.env0
    exact ⟨by rw [hfr]; exact e.frames, e.mod, e.bs, e.bsz, e.funs, e.frf, e.hok, e.bare⟩
  have hl : us.length = ps.length := by rw [← r.length]; exact F.len _ _ _ _ h
  refine wpAny_call (codeAny_mono (F.run A X.stack s H ⟨us, []⟩ us vs Q E0 hr e0 (by
    have z := hb s us I.kIn (by simpa using hl)
    simpa using z) r h) fun r s' hq => ?_)
  cases r with
  | error e => exact False.elim hq
  | ok fl =>
    cases fl with
    | ret u => exact I.after hq
    | next => exact False.elim hq
    | brk => exact False.elim hq
    | cont => exact False.elim hq
end
section
variable {X : Cx} {k : Nat} {f C : Addr} {fd : FuncData} {ps : List Str} {sp : Sp} {a b : Expr} {ta tb : TE} {pos : Pos}
/-- o[k] by the class's own __getitem__ -/
def tOwnIx (C : Addr) (sp : Sp) (ta tb : TE) : TE := fun σ H Q => ta σ H fun x H1 => tb σ H1 fun y H2 => ∃ p dx fs, x = .ref p ∧ H2 p = some (.ins C dx fs) ∧ sp [x, y] H2 Q E0
theorem pe_ownIx (ha : PE X a ta) (hb : PE X b tb) (c : Meth X.K C "__getitem__" f) (hf : PySem.W.fnIn X.K f = true) (F : FnOk X.prog X.w X.K X.mg X.base CX0 k f fd ps sp) (hr : Room (k + 1) X.A) (bi : Binds X.K fd ps [])
    (hsl : ∀ x i, subscripted b true (.ref x) i = runValue (.builtin "lifetime.subscript" ⟨[.ref x, i], []⟩) := by intro _ _; with_unfolding_all rfl) : PE X (.Subscript a b pos) (tOwnIx C sp ta tb) := by
  refine ⟨fun pins s σ H Q I h => ?_⟩
  refine Subscript_ (binT ha hb I h fun v u s2 x y H2 I2 rx ry q => ?_)
  obtain ⟨p, dx, fs, rfl, hp, q⟩ := q
  obtain rfl : v = Value.ref p := rx
  obtain ⟨mA, O, _⟩ := ins_get I2.hok hp
  obtain ⟨od, J, _⟩ := O.look
  obtain ⟨m, hF⟩ := I2.fr
  exact PySem.W.sub_K hF I2.ok.mod.kin J c.at_ hf c.fn (run_at rfl F hr.in1 bi I2 (.cons (rr p) (.cons ry .nil)) q) (hsl _ _)
/-- x - y by the class's own __sub__, both instances of it -/
def rOwnSub (C : Addr) (sp : Sp) : R2 := fun x y H Q => ∃ p q dx dy fs gs, x = .ref p ∧ y = .ref q ∧ H p = some (.ins C dx fs) ∧ H q = some (.ins C dy gs) ∧ sp [x, y] H (fun v H' => (∃ r, v = .ref r) ∧ Q v H') E0
theorem op_ownSub (c : Meth X.K C "__sub__" f) (hc : PySem.W.selfFirst X.K C = true) (F : FnOk X.prog X.w X.K X.mg X.base CX0 k f fd ps sp) (hr : Room k X.A) (bi : Binds X.K fd ps []) : OpR X (binaryOp .Sub) (rOwnSub C sp) := by
  intro pins s σ H x y v u Q I rx ry h
  obtain ⟨p, q, dx, dy, fs, gs, rfl, rfl, hp, hq, h⟩ := h
  obtain rfl : v = Value.ref p := rx
  obtain rfl : u = Value.ref q := ry
  obtain ⟨mA, O, _⟩ := ins_get I.hok hp
  obtain ⟨od, J, _⟩ := O.look
  obtain ⟨mB, O', _⟩ := ins_get I.hok hq
  obtain ⟨od', J', _⟩ := O'.look
  obtain ⟨m, hF⟩ := I.fr
  have en : PySem.dunder (Operator.Sub).info.2 = ("__sub__" : Str) := by decide +kernel
  refine PySem.W.binop_K hF I.ok.mod.kin J J'.type hc (by rw [en]; exact c.at_) c.fn (wpAny_mono (run_at (E := X.xe) rfl F hr bi I (.cons (rr p) (.cons (rr q) .nil)) h) (fun w' s' z => ?_) fun _ _ z => z)
  obtain ⟨v', H', I', r', ⟨t, rfl⟩, q'⟩ := z
  obtain rfl : w' = Value.ref t := r'
  exact ⟨.ref t, H', I', rfl, q'⟩
/-- y in x by the class's own __contains__ -/
def rOwnIn (C : Addr) (sp : Sp) : R2 := fun x y H Q => ∃ p dx fs, y = .ref p ∧ H p = some (.ins C dx fs) ∧ sp [y, x] H (fun v H' => (∃ b, v = .bl b) ∧ Q v H') E0
theorem op_ownIn (c : Meth X.K C "__contains__" f) (F : FnOk X.prog X.w X.K X.mg X.base CX0 k f fd ps sp) (hr : Room k X.A) (bi : Binds X.K fd ps []) : OpR X (compareOp .In) (rOwnIn C sp) := by
  intro pins s σ H x y v u Q I rx ry h
  obtain ⟨p, dx, fs, rfl, hp, h⟩ := h
  obtain rfl : u = Value.ref p := ry
  obtain ⟨mA, O, _⟩ := ins_get I.hok hp
  obtain ⟨od, J, _⟩ := O.look
  obtain ⟨m, hF⟩ := I.fr
  refine PySem.W.in_K hF I.ok.mod.kin J c.at_ c.fn (wpAny_mono (run_at (E := X.xe) rfl F hr bi I (.cons (rr p) (.cons rx .nil)) h) (fun w' s' z => ?_) fun _ _ z => z)
  obtain ⟨v', H', I', r', ⟨t, rfl⟩, q'⟩ := z
  obtain rfl : w' = Value.bool t := r'
  exact wpAny_truthy_bool ⟨.bl t, H', I', rfl, q'⟩
/-- an instance as a test, by the class's own __bool__ -/
def tOwnBool (C : Addr) (sp : Sp) (ta : TE) : TT := fun σ H Q => ta σ H fun x H1 => ∃ p dx fs, x = .ref p ∧ H1 p = some (.ins C dx fs) ∧ sp [x] H1 (fun v H' => ∃ b, v = .bl b ∧ Q b H') E0
theorem pt_ownBool (ha : PE X a ta) (c : Meth X.K C "__bool__" f) (F : FnOk X.prog X.w X.K X.mg X.base CX0 k f fd ps sp) (hr : Room k X.A) (bi : Binds X.K fd ps [])
    (he : ∀ whole, isTrue a X.env whole = (do let v ← whole; standAt a.pos; holding [v] (truthy v)) := by intro _; rfl) : PT X a (tOwnBool C sp ta) := by
  refine ⟨fun pins s σ H Q I h => ?_⟩
  refine isTrue_plain (thn (ha.run pins s σ H _ I h) fun v s1 ⟨x, H1, I1, r1, p, dx, fs, e, hp, q1⟩ => ?_) (he _)
  subst e
  obtain rfl : v = Value.ref p := r1
  obtain ⟨mA, O, _⟩ := ins_get I1.hok hp
  obtain ⟨od, J, _⟩ := O.look
  obtain ⟨m, hF⟩ := I1.fr
  refine PySem.W.truthy_K hF I1.ok.mod.kin J c.at_ c.fn (wpAny_mono (run_at (E := X.xe) rfl F hr bi I1 (.cons (rr p) .nil) q1) (fun w' s' z => ?_) fun _ _ z => z)
  obtain ⟨v', H', I', r', t, rfl, q'⟩ := z
  obtain rfl : w' = Value.bool t := r'
  exact ⟨H', I', q'⟩
end

/-! ### list(d.values()) -/
section
variable {X : Cx} {e : Expr} {te : TE} {p pos apos cpos : Pos}
def tListVals (te : TE) : TE := fun σ H Q => te σ H fun x H1 => ∃ d kvs, x = .ref d ∧ H1 d = some (.dK kvs) ∧ ∀ q, H1 q = none → Q (.ref q) (upd H1 q (.lst (kvs.map (·.2))))
theorem pe_listVals (hc : X.calm = true) (he : PE X e te) (hg : Gl X "list") (hm : X.mg "list" = none) (hv : bootBuiltins "list" = some (.type "list")) (hbase : attributeBase e "values" X.env (eval e X.env) = eval e X.env := by rfl) (hline : (apos.endLine == cpos.line) = true := by rfl)
    (hs : starEach [.Call (.Attribute e "values" apos) [] [] cpos] X.env = (false, eval (.Call (.Attribute e "values" apos) [] [] cpos) X.env) :: starEach [] X.env := by rfl) :
    PE X (.Call (.Name "list" p) [.Call (.Attribute e "values" apos) [] [] cpos] [] pos) (tListVals te) := by
  refine ⟨fun pins s σ H Q I hq => ?_⟩
  refine wpAny_Call_Name_kw (ld_blt I hg hm hv ?_)
  refine PyProof.Rows.callWith_type1 ?_ hs rfl
  rw [hs]
  show wpAny _ _ (spliced ((false, eval (.Call (.Attribute e "values" apos) [] [] cpos) X.env) :: backTo pos (starEach [] X.env))) _ _ s
  refine Calls.spliced_cons ?_
  refine wpAny_Call_method (T := "dict") (id := "dict.values") hbase rfl hline F.plainAttrs_dict F.slot_dict_values F.type_dict_values (thn (he.run pins s σ H _ I hq) fun u s1 ⟨x, H1, I1, rx, d, kvs, ex, hd, q⟩ => ?_)
  subst ex
  obtain rfl : u = Value.ref d := rx
  obtain ⟨hz, hs0, vs, kv, hdo⟩ := I1.hok d _ hd
  obtain ⟨ep, hat⟩ := hdo.dictAt
  have lk : kvs.length = vs.length := Paired.length kv
  have I2 : Inv X pins σ H1 { s1 with heap := s1.heap.push { cls := .type "dict_values", data := .fields #[.ref d] } } := I1.kept (t' := s1.toks) fun b ob q => Heap.get?_push_of_some _ q
  refine ⟨hdo.typeIs, hdo.mapOf.noDict, ?_⟩
  show wpAny _ _ (callWith cpos (.builtin "dict.values") [.ref d] [] []) _ X.xe s1
  refine method_meetsIn F.slot_dict_values F.entry_dict_values rfl (PySem.evalArgs_none ⟨rfl, hdo.typeIs, F.args_dict_values_1 _, _, meets_dict_values (mixKind X.prog X.w) d hs0, ⟨vs, hdo⟩, ?_⟩)
  refine Calls.spliced_nil ?_
  refine PySem.W.kdl_call (PySem.W.kdl_values (knd := mixKind X.prog X.w) (kvs := vs) (ep := ep)) (I1.ok.hd hc) ⟨⟨_, Heap.get?_push_size _ rfl, rfl, rfl⟩, hat.push _⟩ (by omega) fun h' tk acc c hkeep hS hacc => ?_
  have hz2 : (kvs.map (·.2)).length ≤ sizeLine := by rw [List.length_map]; exact hz
  refine ⟨.ref _, _, I2.laid (o := .lst (kvs.map (·.2))) (t' := tk) hkeep (Nat.le_refl _) ⟨hz2, acc.toList, c, ?_, ?_⟩, rfl, q _ (I2.hok.fresh (Nat.le_refl _))⟩
  · have el : acc.toList.length = acc.size := by simp
    refine vals_of_at (by rw [List.length_map, el, hacc.1, lk]) fun j x w h1 h2 => ?_
    obtain ⟨k, hky⟩ := hacc.2 j w (by rw [← Array.getElem?_toList]; exact h2)
    rw [List.getElem?_map] at h1
    cases e1 : kvs[j]? with
    | none => rw [e1] at h1; cases h1
    | some z =>
      rw [e1] at h1
      cases h1
      obtain ⟨y, hy, _, ry⟩ := LiI.paired_get kv e1
      rw [hky] at hy
      cases hy
      exact ry
  · rw [Array.toArray_toList]; exact hS
end

/-! ### sum of a pair -/
section
variable {prog : Program} {w : World} {A : Around} {E : Value → Shared → Prop} {s : Shared} {l : Addr} {Q : Value → Shared → Prop}
theorem sum_pair {i j : Int} {t u : Tok} (hh : A.handled = none) (hl : s.heap.IsTuple l #[.int i t, .int j u])
    (h : ∀ h' tk t', (∀ b o, s.heap.get? b = some o → h'.get? b = some o) → Q (.int (i + j) t') { s with heap := h', toks := tk }) : wpAny (model prog w) A (call (.builtin "sum") [.ref l]) Q E s := by
  have hl2 : s.heap.IsTuple l (intItems #[(i, t), (j, u)]) := by simpa [intItems] using hl
  have hlt : l < s.heap.objs.size := by obtain ⟨_, e, _⟩ := hl; exact Heap.lt_size e
  refine call_sum_walkG (wpAny_pyIter_tuple hl2 ?_)
  refine ⟨_, [s.heap.objs.size, l], [s.heap.objs.size], _, _, _, numAt #[(i, t), (j, u)], rfl, Walks.tuple (A := A.in1) hh _ l (Nat.ne_of_lt hlt) (intItems #[(i, t), (j, u)]), ⟨⟨_, Heap.get?_push_size _ rfl, rfl, rfl⟩, hl2.push _⟩, fun b hb => ?_, (fun _ _ => intItems_at), fun h' tk t' hk => ?_⟩
  · show b < (s.heap.push _).objs.size
    rw [Heap.size_push]
    rcases List.mem_cons.mp hb with rfl | hb
    · exact Nat.lt_succ_self _
    · rcases List.mem_cons.mp hb with rfl | hb
      · exact Nat.lt_succ_of_lt hlt
      · cases hb
  · have e : preSum (numAt #[(i, t), (j, u)]) (intItems #[(i, t), (j, u)]).size = i + j := by
      simp [intItems, preSum, numAt]
    rw [e]
    refine h h' tk t' fun b o q => hk b o (fun hm => ?_) (Heap.get?_push_of_some _ q)
    rcases List.mem_cons.mp hm with e1 | hm
    · have := Heap.lt_size q
      rw [e1] at this
      exact Nat.lt_irrefl _ this
    · cases hm
end
theorem cr_sumT {X : Cx} (hc : X.calm = true) : CallR X (.builtin "sum") (fun vs H Q => ∃ (a : Addr) (i j : Int), vs = [V.ref a] ∧ SqT X.K H a [.int i, .int j] ∧ Q (.int (i + j)) H) := by
  intro pins s σ H vs us Q I r h
  obtain ⟨a, i, j, rfl, hs, q⟩ := h
  obtain ⟨its, rv, hl, _⟩ := I.tuple hs
  obtain ⟨u1, u2, rfl, ⟨t1, rfl⟩, ⟨t2, rfl⟩⟩ := vals2 rv
  rw [Vals.ref1 r]
  exact sum_pair (I.ok.hd hc) hl fun h' tk t' hk => ⟨.int _, H, I.kept hk, ⟨_, rfl⟩, q⟩
end K36
/-! ## KSorted -/
/-! sorted(e, key=lambda x: int(x[0])) over a list of tuples whose first item is an int -/
namespace K36
open PySem PySem.Spec PyProof.Rows L2
theorem objOk_there {P : Program} {w : World} {H : Hp} {h : Heap} {a : Addr} {o : HO} (x : ObjOk P w H h a o) : ∃ ob, h.get? a = some ob := by
  cases o with
  | lst xs => obtain ⟨_, _, _, _, e⟩ := x; exact ⟨_, e⟩
  | tup xs => obtain ⟨_, _, _, _, e, _⟩ := x; exact ⟨_, e⟩
  | dK kvs => obtain ⟨_, _, _, _, o, _, _, e, _⟩ := x; exact ⟨_, e⟩
  | dT kvs => obtain ⟨_, _, _, _, o, _, _, e, _⟩ := x; exact ⟨_, e⟩
  | set S n => obtain ⟨o, _, _, _, e, _⟩ := x; exact ⟨_, e⟩
  | ins C dx fs => obtain ⟨_, _, _, e, _⟩ := x; exact ⟨_, e⟩
  | own y => obtain ⟨_, e⟩ := x; exact ⟨_, e⟩
  | xd fs => obtain ⟨_, ⟨_, _, _, e, _⟩, _⟩ := x; exact ⟨_, e⟩
  | rng lo hi => obtain ⟨_, _, _, e⟩ := x; exact ⟨_, e⟩
  | frz ob u => obtain ⟨e, _⟩ := x; exact ⟨_, e⟩
  | tbl ps => exact ⟨_, (show h.get? a = some _ from x)⟩
  | met f y => exact ⟨_, (show h.get? a = some _ from x)⟩
  | ext φ => obtain ⟨_, ⟨_, e⟩, _⟩ := x; exact ⟨_, e⟩
section
variable {X : Cx} {pins : List (Addr × Obj)} {σ : L2.St} {H : Hp} {s : Shared}
/-- a new object at D; the frame keeps its names, all else stands -/
theorem inv_news {h' : Heap} {tk : Nat} {D : Addr} {o : HO} {m : Str → Option Value} (I : Inv X pins σ H s) (hm : s.heap.Ns X.env.locals m) (hn : h'.Ns X.env.locals m) (k : ∀ b o, b ≠ X.env.locals → s.heap.get? b = some o → h'.get? b = some o)
    (hD : s.heap.get? D = none) (new : ObjOk X.prog X.w (upd H D o) h' D o) : Inv X pins σ (upd H D o) { s with heap := h', toks := tk } := by
  have nD : H D = none := by
    cases q : H D with
    | none => rfl
    | some u =>
      obtain ⟨ob, e⟩ := objOk_there (I.hok D u q)
      rw [hD] at e
      cases e
  have hnD : ∀ b ob, s.heap.get? b = some ob → b ≠ D := fun b ob e z => by
    rw [z, hD] at e
    cases e
  have tn : ∀ b u, H b = some u → b ≠ D := fun b u e => ne_of_none e nD
  have tL : ∀ b u, H b = some u → b ≠ X.env.locals := fun b u e => ne_of_none e I.free
  refine I.step (g' := s.gens) (d' := s.drawn) (ch := []) (fun b hb => absurd hb (by simp)) (fun b o hb _ _ e _ => k b o hb e) (fun b o hb _ _ e _ => ⟨o.slots, k b o hb e⟩) (fun b ob _ e n => by rw [upd_ne (hnD b ob e)]; exact n) (fun b ob _ e => ?_)
    (fun b xs e => by rw [upd_ne (tn b _ e)]; exact e) (fun b ob u e => by rw [upd_ne (tn b _ e)]; exact e) (fun b ps e => ⟨#[], by rw [upd_ne (tn b _ e), e]; simp⟩) (fun m' hm' => ?_) (fun b u e => ?_) I.bare
  · by_cases hb : b = X.env.locals
    · subst hb
      obtain ⟨o', _, _, e', _⟩ := hn
      exact ⟨o', e'⟩
    · exact ⟨ob, k b ob hb e⟩
  · have em : m' = m := by
      obtain ⟨o1, es1, ep1, e1, d1, _, f1⟩ := hm'
      obtain ⟨o2, es2, ep2, e2, d2, _, f2⟩ := hm
      rw [e1] at e2
      cases e2
      rw [d1] at d2
      cases d2
      funext n
      rw [← f1, ← f2]
    rw [em]
    exact hn
  · by_cases hb : b = D
    · subst hb
      rw [upd_same] at e
      cases e
      exact new
    · rw [upd_ne hb] at e
      refine (I.hok b u e).stay (fun c v hc q => k c v ?_ q) (fun c q => by rw [upd_ne (tn c _ q)]; exact q) fun c xs q => by rw [upd_ne (tn c _ q)]; exact q
      rcases hc with z | z
      · rw [z]; exact tL b u e
      · exact tL c _ z
/-- what is asked of the lambda's own scope -/
structure KeyS (x : Str) (scope : Scope) : Prop where
  kind : scope.kind = .function
  co : scope.isCoroutine = false
  gen : scope.isGenerator = false
  own : ∀ z ∈ scope.names, z.2 ≠ .cell ∧ z.2 ≠ .free
  hx : scope.names.lookup x = some NameKind.local
  hi : scope.names.lookup ("int" : Str) = some NameKind.globalImplicit
  dbg : (x == ("__debug__" : Str)) = false
theorem key_turn {A : Around} {h : Heap} {tk : Nat} {m : Str → Option Value} {need : List (Addr × Obj)} (I : Inv X pins σ H s) (hd : A.depth < recursionLimit) (F : Fr X.base X.env.locals h m) (N : News X.base X.env.locals h need)
    (kp : ∀ b o, b ≠ X.env.locals → s.heap.get? b = some o → h.get? b = some o) {x qual : Str} {params : Arguments} {scope : Scope} {pm ctv : Value} {f c' t : Addr} {k : Int} {y : V} {p1 p2 p3 p4 p5 : Pos} {j : Nat} (S : KeyS x scope)
    (hf : s.heap.get? f = some (PySem.W.kla_obj "<lambda>" qual params (.Call (.Name "int" p1) [.Subscript (.Name x p2) (.Constant (.int 0) j p3) p4] [] p5) scope [] pm c' ctv))
    (hc : H c' = some (LamX.CodeO c' qual)) (ht : H t = some (.tup [.int k, y]))
    (hbind : ∀ v, bindArgs (PySem.W.kla_fn "<lambda>" qual params (.Call (.Name "int" p1) [.Subscript (.Name x p2) (.Constant (.int 0) j p3) p4] [] p5) scope [] pm (.ref c') ctv) ⟨[v], []⟩ = pure [(x, v)]) (hm : X.mg "int" = none) :
    wpAny (model X.prog X.w) A (call (.ref f) [.ref t]) (KskEnd X.base X.env.locals m need k { s with heap := h, toks := tk }) (fun _ _ => False) { s with heap := h, toks := tk } := by
  have hfL : f ≠ X.env.locals := fun z => by
    obtain ⟨ml, ⟨o, es, ep, e, d, _⟩, _⟩ := I.loc
    rw [← z, hf] at e
    cases e
    cases d
  have of1 := kp f _ hfL hf
  obtain ⟨⟨oc, vs, tq, hoc, hdc, hvc⟩, _, _⟩ := I.hok c' _ hc
  have hoc1 := kp c' oc (ne_of_none hc I.free) hoc
  obtain ⟨hz, its, rv, ot, hot, hcl, n, hdt⟩ := I.hok t _ ht
  have ht1 := kp t ot (ne_of_none ht I.free) hot
  obtain ⟨u1, u2, rfl, ⟨t1, rfl⟩, r2⟩ := vals2 rv
  obtain ⟨mb, b1, b2⟩ := I.ok.mod.blt
  refine wpAny_call (PySem.W.kla_callFunE hd of1 rfl S.co S.gen rfl ⟨c', oc, vs, tq, rfl, hoc1, hdc, hvc⟩ ?_)
  rw [hbind]
  refine wpAny_pure (wpAny_newFunctionEnv (fun z hz => (S.own z hz).1) (fun z hz => by rw [List.mem_singleton.mp hz]; exact S.hx) (fun h₁ hns hsb => ⟨(I.ok.mod.nolimit.keeps F.keep).fresh _ hsb, ?_⟩) S.kind)
  show codeAny _ _ (.expr _ (PySem.W.envX qual scope h.objs.size f (.ref c') [])) _ _
  have kp1 : ∀ b o, h.get? b = some o → h₁.get? b = some o := fun b o e => hsb.extBut b o (Nat.ne_of_lt (Heap.lt_size e)) (Heap.get?_push_of_some _ e)
  refine PySem.W.kla_codeExpr ?_
  refine wpAny_Call_Name_kw (Calls.Name_function_global (env := PySem.W.envX qual scope h.objs.size f (.ref c') []) S.kind S.hi (Calls.loadGlobal_builtin (mg := X.mg) (mb := mb) ((I.ok.mod.glob.keeps F.keep).keeps kp1) hm ((b1.keeps F.keep).keeps kp1) ((b2 "int" (by decide)).trans boot_int) ?_))
  refine PyProof.Rows.callWith_type1 ?_ rfl rfl
  refine Calls.spliced_cons (Subscript_ (wpAny_Name (wpAny_loadName_local (env := PySem.W.envX qual scope h.objs.size f (.ref c') []) (v := .ref t) S.kind S.hx hns (by simp [List.lookup]) ?_) S.dbg))
  refine wpAny_Constant_int ?_
  have itup : IsTup h₁ t (List.toArray [Value.int k t1, u2]) := ⟨ot, kp1 _ _ ht1, hcl, n, hdt⟩
  refine subscriptTail_builtinR (x := .int k t1) itup.typeIs slot_tuple_getitem.lookup (getItem_tuple (j := 0) itup (by decide) (by decide) (by rfl) (by rfl) ⟨rfl, ?_⟩) (by with_unfolding_all rfl)
  refine Calls.spliced_nil (call_int_int ?_)
  exact ⟨h₁, _, t1, rfl, rfl, F.kept kp1, N.grown kp1⟩
/-- sorted(e, key=lambda x: int(x[0])): a new list of the same tuples, by their first items, stable -/
def tSortK (K : PySem.W.Frag) (T : List (Addr × Str)) (ta : TA) : TE := fun σ H Q => ta σ H fun vs H1 => ∃ (a : Addr) (ts : List Addr) (ks : List Int), vs = [V.ref a] ∧ SqL K H1 a (ts.map V.ref) ∧ ks.length = ts.length ∧
  (∀ (i : Nat) (t : Addr) (k : Int), ts[i]? = some t → ks[i]? = some k → ∃ y, H1 t = some (.tup [.int k, y])) ∧ LamX.Tabs T H1 ∧
  ∀ (H2 : Hp) (D : Addr), LamX.ExtN H1 H2 → LamX.Tabs T H2 → H2 D = none → Q (.ref D) (upd H2 D (.lst ((sortK (fun p : Int × Addr => p.1) (ks.zip ts)).map fun p => V.ref p.2)))
theorem sqL_extN {K : PySem.W.Frag} {H H' : Hp} {a : Addr} {xs : List V} (e : LamX.ExtN H H') (h : SqL K H a xs) : SqL K H' a xs := by
  rcases h with (h | ⟨o, h⟩) | h
  · exact .inl (.inl (e _ _ h fun ps z => by cases z))
  · exact .inl (.inr ⟨o, e _ _ h fun ps z => by cases z⟩)
  · exact .inr h
theorem zip_refs : ∀ (ks : List Int) (ts : List Addr), ks.zip (ts.map Value.ref) = (ks.zip ts).map fun p => (p.1, Value.ref p.2)
  | [], _ => rfl
  | _ :: _, [] => rfl
  | k :: ks, t :: ts => congrArg (List.cons (k, Value.ref t)) (zip_refs ks ts)
theorem vals_are_refs {ts : List Addr} {us : List Value} (r : Vals (ts.map V.ref) us) : us = ts.map Value.ref := by
  induction ts generalizing us with
  | nil => cases r; rfl
  | cons t ts ih =>
    cases r with
    | cons a b =>
      rw [ih b, show _ = Value.ref t from a]
      rfl
theorem refs_are_vals : ∀ (ts : List Addr), Vals (ts.map V.ref) (ts.map Value.ref)
  | [] => .nil
  | _ :: ts => .cons rfl (refs_are_vals ts)
theorem pe_sortK {T : List (Addr × Str)} {c P : Addr} {k : Nat} {e : Expr} {ta : TA} {x : Str} {params : Arguments} {scope : Scope} {p1 p2 p3 p4 p5 lpos kpos p pos : Pos} {j : Nat} (ha : PA X [e] ta) (hg : Gl X "sorted") (hms : X.mg "sorted" = none) (hmi : X.mg "int" = none)
    (TB : LamX.TabB X.base X.mg c P) (hcode : X.env.code = .ref c) (hmT : (P, X.env.qual ++ "<lambda>") ∈ T) (hu : ∀ p ∈ T, p.1 = P → p.2 = X.env.qual ++ "<lambda>") (hr : Room k X.A) (S : KeyS x scope) (hdef : defaultsOf params X.env = ([], []))
    (hbind : ∀ (q : Str) (pm cdv ctv : Value) (v : Value), bindArgs (PySem.W.kla_fn "<lambda>" q params (.Call (.Name "int" p1) [.Subscript (.Name x p2) (.Constant (.int 0) j p3) p4] [] p5) scope [] pm cdv ctv) ⟨[v], []⟩ = pure [(x, v)])
    (hclo : cloFrom X.env.cells scope.names [] = [])
    (he : backTo pos (starEach [e] X.env) = (false, eval e X.env) :: backTo pos (starEach [] X.env) := by rfl) (hpl : (backTo pos (starEach [e] X.env)).any (·.1) = false := by rfl) :
    PE X (.Call (.Name "sorted" p) [e] [⟨some "key", .Lambda params (.Call (.Name "int" p1) [.Subscript (.Name x p2) (.Constant (.int 0) j p3) p4] [] p5) scope lpos, kpos⟩] pos) (tSortK X.K T ta) := by
  refine ⟨fun pins s σ H Q I h => ?_⟩
  refine wpAny_Call_Name_kw (ld_blt (u := .builtin "sorted") I hg hms (by decide +kernel) ?_)
  refine PyProof.Rows.callWith_kw (thn (ha.run pos pins s σ H _ I h) fun us s1 ⟨vs, H1, I1, r1, a, ts, ks, ev, hS, hlen, hts, hT, q1⟩ => ?_) he hpl rfl rfl
  subst ev
  rw [Vals.ref1 r1]
  show wpAny _ _ (evalAll ((do let v ← eval (.Lambda params (.Call (.Name "int" p1) [.Subscript (.Name x p2) (.Constant (.int 0) j p3) p4] [] p5) scope lpos) X.env; standAt pos; pure v) :: (backToKw pos (keywordEach [] X.env)).map (·.2))) _ _ s1
  refine wpAny_evalAll_cons (wpAny_bind (LamX.lam_make2 I1 TB hcode hmT hu hT hdef (fun z hz e => absurd e (S.own z hz).2) fun f c' pm ctv H2 s2 I2 eN T2 hf hfn hfr hco => ?_))
  refine wpAny_bind (wpAny_standAt (wpAny_pure ?_))
  refine wpAny_evalAll_nil ?_
  show wpAny _ _ (call (.builtin "sorted") [.ref a] [(Str.ofString "key", .ref f)]) _ _ s2
  rw [hclo] at hf
  obtain ⟨its, rv, hl, hz⟩ := I2.list (sqL_extN eN hS)
  have eits : its = ts.map Value.ref := vals_are_refs rv
  subst eits
  obtain ⟨m, hF⟩ := I2.fr
  have kept : ∀ {h : Heap} {more : List (Addr × Obj)}, Fr X.base X.env.locals h m → News X.base X.env.locals h more → (∀ q ∈ allNews X.base s2.heap X.env.locals, q ∈ more) → ∀ b o, b ≠ X.env.locals → s2.heap.get? b = some o → h.get? b = some o := fun {h more} F' N' hm b o hb e => by
    cases q : X.base.get? b with
    | some u =>
      have z := I2.bk b u q
      rw [e] at z
      cases z
      exact F'.keep b _ q
    | none => exact (N' (b, o) (hm _ (mem_allNews hb q e))).1
  refine ksk_sortedSt (kz := ks) (b := false) hF news_all hl.isList (by rw [List.length_map]; exact hlen) (by rw [List.length_map] at hz ⊢; exact hz) (ksk_s1 _ _) (fun _ => ksk_l1 _ _) (fun _ => ksk_t1 _ _) (fun i v k' hv hk' h tk own F' N' => ?_) fun D h' tk out cc F' N' l1 ko => ?_
  · rw [List.getElem?_map] at hv
    cases q : ts[i]? with
    | none => rw [q] at hv; cases hv
    | some t =>
      rw [q] at hv
      cases hv
      obtain ⟨y, ht⟩ := hts i t k' q hk'
      exact key_turn (A := X.A.in1.in1) (tk := tk) I2 (show X.A.depth < _ from hr.depth) F' N' (kept F' N' fun q hq => List.mem_append_left _ hq) S hf hco (eN _ _ ht fun ps z => by cases z) (fun v => hbind _ _ _ _ v) hmi
  · have hk := kept F' N' fun q hq => List.mem_cons_of_mem _ hq
    have nD := N' _ List.mem_cons_self
    have hD : s2.heap.get? D = none := by
      cases q : s2.heap.get? D with
      | none => rfl
      | some o => exact absurd (l1 (D, o) (mem_allNews nD.2.1 nD.2.2 q)) (Nat.lt_irrefl _)
    obtain ⟨ps, hp, ho, hs, hst⟩ := ko
    have e1 : ps = sortK (fun p : Int × Value => p.1) (ks.zip (ts.map Value.ref)) := sortK_of (by simpa using hs) hst
    rw [zip_refs, sortK_map] at e1
    have e2 : out.toList = (sortK (fun p : Int × Addr => p.1) (ks.zip ts)).map fun p => Value.ref p.2 := by
      rw [ho, e1, List.map_map]
      rfl
    have e3 : ((sortK (fun p : Int × Addr => p.1) (ks.zip ts)).map fun p => V.ref p.2) = ((sortK (fun p : Int × Addr => p.1) (ks.zip ts)).map (·.2)).map V.ref := by
      rw [List.map_map]
      rfl
    have e4 : out.toList = ((sortK (fun p : Int × Addr => p.1) (ks.zip ts)).map (·.2)).map Value.ref := by
      rw [e2, List.map_map]
      rfl
    have hlz : ((sortK (fun p : Int × Addr => p.1) (ks.zip ts)).map fun p => V.ref p.2).length ≤ sizeLine := by
      rw [List.length_map, sortK_length, List.length_zip]
      rw [List.length_map] at hz
      omega
    refine ⟨.ref D, _, inv_news (o := .lst ((sortK (fun p : Int × Addr => p.1) (ks.zip ts)).map fun p => V.ref p.2)) (tk := tk) I2 hF.ns F'.ns hk hD ⟨hlz, out.toList, cc, ?_, ?_⟩, rfl, q1 H2 D eN T2 ?_⟩
    · rw [e3, e4]
      exact refs_are_vals _
    · rw [Array.toArray_toList]
      exact nD.1
    · cases q : H2 D with
      | none => rfl
      | some u =>
        obtain ⟨ob, e⟩ := objOk_there (I2.hok D u q)
        rw [hD] at e
        cases e
end
end K36
/-! ## KBase -/
/-! short words: a def with its binding, calls; pairs and lists of them in the heap -/
namespace K36
open PySem PySem.Spec PyProof.Rows L2
/-- a def that lets nothing out, and how its arguments bind -/
def OkD (P : Program) (w : World) (K : PySem.W.Frag) (mg : Str → Option Value) (base : Heap) (k : Nat) (f : Addr) (ps : List Str) (sp : Sp) : Prop := ∃ fd, FnOk P w K mg base CX0 k f fd ps sp ∧ Binds K fd ps []
section
variable {P : Program} {w : World} {K : PySem.W.Frag} {mg : Str → Option Value} {base : Heap}
theorem okd {x qual : Str} {st : Stmt} {f : Addr} {N ps : List Str} {k : Nat} {sp : Sp} (F : ∃ fd, Fun K x qual st f fd) (S : FnScope N ps (defScope st))
    (hb : ∀ (kV doc pm : Value) (an : Option Addr) (cdv ct : Value) (us : List Value), us.length = ps.length → bindArgs (PySem.W.fnOf x qual (defArgs st) (defBody st) (defScope st) .none kV doc pm an cdv ct) ⟨us, []⟩ = pure (ps.zip us))
    (len : ∀ vs H Q E, sp vs H Q E → vs.length = ps.length)
    (hbody : ∀ (cdv : Value) (A : Around) (outer : List Env) (s : Shared) (H : Hp) (vs : List V) (Q : VK) (E : XK), Room k (A.deeper (envOfC qual (defScope st) s.heap.objs.size f cdv)) → sp vs H Q E →
      ∃ t, PSs (cxOf CX0 P w K mg base N qual (defScope st) f cdv A outer s H E).nox (defBody st) t ∧ t { nx := fun _ H' => Q .non H', rt := Q } (start N vs) H) : OkD P w K mg base (k + 1) f ps sp :=
  let ⟨fd, F⟩ := F
  ⟨fd, F.ok S len hbody, F.binds hb⟩
theorem OkD.mono {j k : Nat} {f : Addr} {ps : List Str} {sp : Sp} (o : OkD P w K mg base j f ps sp) (h : j ≤ k) : OkD P w K mg base k f ps sp := let ⟨fd, F, b⟩ := o; ⟨fd, F.mono h, b⟩
end
section
variable {X : Cx} {k : Nat} {f C : Addr} {ps : List Str} {sp : Sp} {x m : Str} {p pos apos : Pos} {e o : Expr} {es : List Expr} {ta : TE} {t : TA}
theorem pe_cl (F : OkD X.prog X.w X.K X.mg X.base k f ps sp) (hr : Room k X.A) (hg : Gl X x) (hm : X.mg x = some (.ref f)) (hk : PySem.W.keepIn X.K (.ref f) = true) (ha : PA X (e :: es) t) (hdb : (x == ("__debug__" : Str)) = false := by decide)
    (he : starEach (e :: es) X.env = (false, eval e X.env) :: starEach es X.env := by rfl) (hpl : (backTo pos (starEach es X.env)).any (·.1) = false := by rfl) : PE X (.Call (.Name x p) (e :: es) [] pos) (tCall sp [] E0 t) :=
  let ⟨_, G, b⟩ := F
  pe_call G hr hg hm hk b .nil pass0 ha hdb he hpl
theorem pe_mk (M : Mk X.K C f) (F : OkD X.prog X.w X.K X.mg X.base k f ps sp) (hr : Room (k + 1) X.A) (hg : Gl X x) (hm : X.mg x = some (.ref C)) (ha : PA X (e :: es) t) (hdb : (x == ("__debug__" : Str)) = false := by decide)
    (he : starEach (e :: es) X.env = (false, eval e X.env) :: starEach es X.env := by rfl) (hpl : (backTo pos (starEach es X.env)).any (·.1) = false := by rfl) : PE X (.Call (.Name x p) (e :: es) [] pos) (tMake C sp [] E0 t) :=
  let ⟨_, G, b⟩ := F
  pe_make M G hr hg hm b .nil pass0 ha hdb he hpl
theorem pe_me {pl : Sem Bool} (he : PE X o ta) (c : Cls X.K C) (hm : Meth X.K C m f) (F : OkD X.prog X.w X.K X.mg X.base k f ps sp) (hr : Room k X.A) (ha : PA X (e :: es) t)
    (hst : starEach (e :: es) X.env = (false, eval e X.env) :: starEach es X.env := by rfl) (hpl : (backTo pos (starEach es X.env)).any (·.1) = false := by rfl)
    (ht : eval (.Call (.Attribute o m apos) (e :: es) [] pos) X.env = (do
      let ov ← eval o X.env
      standAt apos.atName
      let (f, first) ← holding [ov] (getMethod ov m pl)
      callWith pos f first (backTo pos (starEach (e :: es) X.env)) (backToKw pos (keywordEach [] X.env))) := by rfl) :
    PE X (.Call (.Attribute o m apos) (e :: es) [] pos) (tMeth C m sp [] E0 ta t) :=
  let ⟨_, G, b⟩ := F
  pe_meth (pl := pl) he c hm G hr b .nil pass0 ha hst hpl ht
theorem pe_me0 {pl : Sem Bool} (he : PE X o ta) (c : Cls X.K C) (hm : Meth X.K C m f) (F : OkD X.prog X.w X.K X.mg X.base k f ps sp) (hr : Room k X.A)
    (ht : eval (.Call (.Attribute o m apos) [] [] pos) X.env = (do
      let ov ← eval o X.env
      standAt apos.atName
      let (f, first) ← holding [ov] (getMethod ov m pl)
      callWith pos f first (backTo pos (starEach [] X.env)) (backToKw pos (keywordEach [] X.env))) := by rfl) :
    PE X (.Call (.Attribute o m apos) [] [] pos) (tMeth C m sp [] E0 ta tNil) :=
  let ⟨_, G, b⟩ := F
  pe_meth0 (pl := pl) he c hm G hr b .nil pass0 ht
theorem pe_oIx {a b : Expr} {ta tb : TE} (ha : PE X a ta) (hb : PE X b tb) (c : Meth X.K C "__getitem__" f) (hf : PySem.W.fnIn X.K f = true) (F : OkD X.prog X.w X.K X.mg X.base k f ps sp) (hr : Room (k + 1) X.A)
    (hsl : ∀ x i, subscripted b true (.ref x) i = runValue (.builtin "lifetime.subscript" ⟨[.ref x, i], []⟩) := by intro _ _; with_unfolding_all rfl) : PE X (.Subscript a b pos) (tOwnIx C sp ta tb) :=
  let ⟨_, G, bi⟩ := F
  pe_ownIx ha hb c hf G hr bi hsl
theorem op_oSub (c : Meth X.K C "__sub__" f) (hc : PySem.W.selfFirst X.K C = true) (F : OkD X.prog X.w X.K X.mg X.base k f ps sp) (hr : Room k X.A) : OpR X (binaryOp .Sub) (rOwnSub C sp) :=
  let ⟨_, G, bi⟩ := F
  op_ownSub c hc G hr bi
theorem op_oIn (c : Meth X.K C "__contains__" f) (F : OkD X.prog X.w X.K X.mg X.base k f ps sp) (hr : Room k X.A) : OpR X (compareOp .In) (rOwnIn C sp) :=
  let ⟨_, G, bi⟩ := F
  op_ownIn c G hr bi
theorem pt_oBool {a : Expr} {ta : TE} (ha : PE X a ta) (c : Meth X.K C "__bool__" f) (F : OkD X.prog X.w X.K X.mg X.base k f ps sp) (hr : Room k X.A)
    (he : ∀ whole, isTrue a X.env whole = (do let v ← whole; standAt a.pos; holding [v] (truthy v)) := by intro _; rfl) : PT X a (tOwnBool C sp ta) :=
  let ⟨_, G, bi⟩ := F
  pt_ownBool ha c G hr bi he
/-- isinstance(e, T), T a built-in class -/
theorem pe_isi {T : String} {n : Str} {te : TE} {p0 : Pos} (he : PE X e te) (hg : Gl X "isinstance") (hm : X.mg "isinstance" = none) (hgn : Gl X n) (hmn : X.mg n = none) (hv : bootBuiltins n = some (.type T)) (hn : n ≠ "__name__" := by decide) (hd : (n == ("__debug__" : Str)) = false := by decide)
    (hs : starEach [e, .Name n p] X.env = (false, eval e X.env) :: starEach [.Name n p] X.env := by rfl) (hpl : (backTo pos (starEach [.Name n p] X.env)).any (·.1) = false := by rfl) :
    PE X (.Call (.Name "isinstance" p0) [e, .Name n p] [] pos) (tCB (rIsi X.K) (tCons te (tCons (tC (.ty T)) tNil))) :=
  pe_callB (call_isi (X := X)) hg hm (by decide +kernel) (pa_cons he (pa_cons (pe_bltn (v := .ty T) hgn hmn hv rfl hn hd) pa_nil) hs) (he := hs) (hpl := hpl)
/-- isinstance(e, C), C a class of the text -/
theorem pe_isiC {n : Str} {te : TE} {p0 : Pos} (he : PE X e te) (hg : Gl X "isinstance") (hm : X.mg "isinstance" = none) (hgn : Gl X n) (hmn : X.mg n = some (.ref C)) (hd : (n == ("__debug__" : Str)) = false := by decide)
    (hs : starEach [e, .Name n p] X.env = (false, eval e X.env) :: starEach [.Name n p] X.env := by rfl) (hpl : (backTo pos (starEach [.Name n p] X.env)).any (·.1) = false := by rfl) :
    PE X (.Call (.Name "isinstance" p0) [e, .Name n p] [] pos) (tCB (rIsi X.K) (tCons te (tCons (tC (.ref C)) tNil))) :=
  pe_callB (call_isi (X := X)) hg hm (by decide +kernel) (pa_cons he (pa_cons (pe_glob (v := .ref C) hgn hmn rfl hd) pa_nil) hs) (he := hs) (hpl := hpl)
/-- the answers of rIsi -/
theorem isi_ty {K : PySem.W.Frag} {x : V} {t n : String} {b : Bool} {H : Hp} {Q : VK} (ty : TyX K H x (.type t)) (h : kitB t n = some b) (q : Q (.bl b) H) : rIsi K [x, .ty n] H Q := ⟨x, .ty n, _, _, b, rfl, .ty n, ty, kit_ty h, q⟩
theorem isi_own {K : PySem.W.Frag} {x : V} {t : Value} {C : Addr} {b : Bool} {H : Hp} {Q : VK} (ty : TyX K H x t) (h : PySem.W.kitOne K t (.ref C) = some b) (q : Q (.bl b) H) : rIsi K [x, .ref C] H Q := ⟨x, .ref C, _, _, b, rfl, .own C, ty, h, q⟩
end
/-- an if whose test is known -/
theorem ifT {c : Bool} {A B : Prop} (h : c = true) (a : A) : if c = true then A else B := by rw [if_pos h]; exact a
theorem ifF {c : Bool} {A B : Prop} (h : c = false) (b : B) : if c = true then A else B := by rw [if_neg (by rw [h]; exact Bool.false_ne_true)]; exact b
theorem ifC {c : Bool} {A B : Prop} (a : c = true → A) (b : c = false → B) : if c = true then A else B := by
  cases c with
  | true => exact ifT rfl (a rfl)
  | false => exact ifF rfl (b rfl)
/-! ### pairs and lists of them -/
def oV : Option Int → V
  | none => .non
  | some i => .int i
/-- a run or a pair as a tuple at a -/
def TupP (H : Hp) (a : Addr) (p : PR) : Prop := H a = some (.tup [.int p.1, oV p.2])
/-- the tuples at as, in a list at l -/
structure PLa (H : Hp) (l : Addr) (as : List Addr) (ps : List PR) : Prop where
  lst : H l = some (.lst (as.map V.ref))
  tup : Paired (TupP H) as ps
def PL (H : Hp) (l : Addr) (ps : List PR) : Prop := ∃ as, PLa H l as ps
theorem pr_map {α β : Type} {R S : α → β → Prop} : ∀ {xs : List α} {ys : List β}, Paired R xs ys → (∀ a b, R a b → S a b) → Paired S xs ys
  | _, _, .nil, _ => .nil
  | _, _, .cons r t, f => .cons (f _ _ r) (pr_map t f)
theorem pr_snoc {α β : Type} {R : α → β → Prop} : ∀ {xs : List α} {ys : List β} {x : α} {y : β}, Paired R xs ys → R x y → Paired R (xs ++ [x]) (ys ++ [y])
  | _, _, _, _, .nil, r => .cons r .nil
  | _, _, _, _, .cons a t, r => .cons a (pr_snoc t r)
theorem pr_at {α β : Type} {R : α → β → Prop} : ∀ {xs : List α} {ys : List β} {i : Nat} {y : β}, Paired R xs ys → ys[i]? = some y → ∃ x, xs[i]? = some x ∧ R x y
  | _, _, _, _, .nil, h => by simp at h
  | _, _, 0, _, .cons a t, h => by simp at h; subst h; exact ⟨_, rfl, a⟩
  | _, _, i + 1, _, .cons a t, h => by
    obtain ⟨x, h1, h2⟩ := pr_at (i := i) t (by simpa using h)
    exact ⟨x, by simpa using h1, h2⟩
theorem pr_atL {α β : Type} {R : α → β → Prop} : ∀ {xs : List α} {ys : List β} {i : Nat} {x : α}, Paired R xs ys → xs[i]? = some x → ∃ y, ys[i]? = some y ∧ R x y
  | _, _, _, _, .nil, h => by simp at h
  | _, _, 0, _, .cons a t, h => by simp at h; subst h; exact ⟨_, rfl, a⟩
  | _, _, i + 1, _, .cons a t, h => by
    obtain ⟨x, h1, h2⟩ := pr_atL (i := i) t (by simpa using h)
    exact ⟨x, by simpa using h1, h2⟩
theorem TupP.keep {H H' : Hp} {a : Addr} {p : PR} (e : LamX.ExtN H H') (h : TupP H a p) : TupP H' a p := e _ _ h fun ps z => by cases z
theorem PLa.keep {H H' : Hp} {l : Addr} {as : List Addr} {ps : List PR} (e : LamX.ExtN H H') (h : PLa H l as ps) : PLa H' l as ps := ⟨e _ _ h.lst (fun ps z => by cases z), pr_map h.tup fun _ _ => TupP.keep e⟩
theorem PL.keep {H H' : Hp} {l : Addr} {ps : List PR} (e : LamX.ExtN H H') (h : PL H l ps) : PL H' l ps := let ⟨as, a⟩ := h; ⟨as, a.keep e⟩
theorem extN_same {H H' : Hp} (e : Same H H') : LamX.ExtN H H' := fun b o h _ => e b o h
theorem PLa.len {H : Hp} {l : Addr} {as : List Addr} {ps : List PR} (h : PLa H l as ps) : as.length = ps.length := Paired.length h.tup
theorem PLa.sq {K : PySem.W.Frag} {H : Hp} {l : Addr} {as : List Addr} {ps : List PR} (h : PLa H l as ps) : SqL K H l (as.map V.ref) := SqL.of h.lst
/-- an item of the list, in a loop over it -/
theorem PLa.item {H : Hp} {l : Addr} {as : List Addr} {ps : List PR} (h : PLa H l as ps) {i : Nat} {x : V} (e : (as.map V.ref)[i]? = some x) : ∃ a p, x = .ref a ∧ ps[i]? = some p ∧ TupP H a p := by
  rw [List.getElem?_map] at e
  cases q : as[i]? with
  | none => rw [q] at e; cases e
  | some a =>
    rw [q] at e
    cases e
    obtain ⟨p, h1, h2⟩ := pr_atL h.tup q
    exact ⟨a, p, rfl, h1, h2⟩
/-- a new tuple, appended to the list at l -/
theorem PLa.snoc {H : Hp} {l t : Addr} {as : List Addr} {ps : List PR} {p : PR} (h : PLa H l as ps) (ht : H t = none) : PLa (upd (upd H t (.tup [.int p.1, oV p.2])) l (.lst (as.map V.ref ++ [.ref t]))) l (as ++ [t]) (ps ++ [p]) := by
  have nl : ∀ {a q}, TupP H a q → TupP (upd (upd H t (.tup [.int p.1, oV p.2])) l (.lst (as.map V.ref ++ [.ref t]))) a q := fun {a q} e => by
    unfold TupP at e ⊢
    rw [upd_ne (ne_of e h.lst (by intro z; cases z)), upd_ne (ne_of_none e ht)]
    exact e
  refine ⟨by rw [upd_same, List.map_append]; rfl, pr_snoc (pr_map h.tup fun _ _ => nl) ?_⟩
  unfold TupP
  rw [upd_ne (ne_of_none h.lst ht).symm, upd_same]
theorem PLa.nil {H : Hp} {l : Addr} : PLa (upd H l (.lst [])) l [] [] := ⟨upd_same, .nil⟩
/-- behind the heap H0 a new list at l of these pairs: what a building loop keeps -/
structure Built (H0 H : Hp) (l : Addr) (ps : List PR) : Prop where
  same : Same H0 H
  new : H0 l = none
  at_ : PL H l ps
theorem Built.nil {H : Hp} {l : Addr} (h : H l = none) : Built H (upd H l (.lst [])) l [] := ⟨fun b o e => by rw [upd_ne (ne_of_none e h)]; exact e, h, [], PLa.nil⟩
theorem Built.snoc {H0 H : Hp} {l t : Addr} {as : List Addr} {ps : List PR} {p : PR} (h : Built H0 H l ps) (ha : PLa H l as ps) (ht : H t = none) : Built H0 (upd (upd H t (.tup [.int p.1, oV p.2])) l (.lst (as.map V.ref ++ [.ref t]))) l (ps ++ [p]) :=
  ⟨fun b o e => by
    have nb : b ≠ l := ne_of_none e h.new
    rw [upd_ne nb, upd_ne (ne_of_none (h.same b o e) ht)]
    exact h.same b o e, h.new, _, ha.snoc ht⟩
theorem same_upd {H : Hp} {a : Addr} {o : HO} (h : H a = none) : Same H (upd H a o) := fun b u e => by rw [upd_ne (ne_of_none e h)]; exact e
end K36
/-! ## KD1 -/
namespace K36
open PySem PySem.Spec PyProof.Rows L2
section
variable {P : Program} {w : World} {K : PySem.W.Frag} {mg : Str → Option Value} {base : Heap}
/-! ### is_integer -/
def sp_is_integer : Sp := fun vs H Q _ => ∃ a b c : Int, vs = [.int a, .int b, .int c] ∧ Q (.bl (decide (b ≤ a) && decide (a ≤ c))) H
theorem sc_is_integer : FnScope ["thing", "least", "most"] ["thing", "least", "most"] (defScope S_is_integer) := ⟨rfl, rfl, rfl, by decide +kernel, rfl, by decide +kernel, by decide +kernel⟩
theorem ok_is_integer (F : Fx K mg) : OkD P w K mg base 1 (He.ga K "is_integer") ["thing", "least", "most"] sp_is_integer := by
  refine okd F.f_is_integer sc_is_integer (fun _ _ _ _ _ _ us hl => match us, hl with | [_, _, _], _ => rfl) (fun vs H Q E h => ?_) (fun cdv A outer s H vs Q E hr h => ?_)
  · obtain ⟨a, b, c, rfl, _⟩ := h
    rfl
  · obtain ⟨a, b, c, rfl, k⟩ := h
    refine ⟨_, pss_one (ps_ret (pe_and (pe_isi (pv 0) (by rfl) F.b_isinstance (by rfl) F.b_int boot_int) (pe_and (pe_not (pe_isi (pv 0) (by rfl) F.b_isinstance (by rfl) F.b_bool boot_bool)) (pe_one (pe_chain op_le op_le (pv 1) (pv 0) (pv 2)))))), ?_⟩
    refine ⟨_, rfl, _, _, _, _, true, rfl, .ty _, .base (.int _), kit_ty (by decide +kernel), true, rfl, ifT rfl ?_⟩
    refine ⟨_, rfl, _, _, _, _, false, rfl, .ty _, .base (.int _), kit_ty (by decide +kernel), false, rfl, true, rfl, ifT rfl ?_⟩
    refine ⟨_, rfl, _, rfl, _, _, rfl, rfl, _, rfl, ifC (fun e => ?_) fun e => ?_⟩
    · refine ⟨_, rfl, _, _, rfl, rfl, ?_⟩
      rw [e, Bool.true_and] at k
      exact k
    · rw [e, Bool.false_and] at k
      exact k
/-! ### check_integer -/
def sp_check_integer : Sp := fun vs H Q _ => ∃ a b c : Int, vs = [.int a, .int b, .int c] ∧ b ≤ a ∧ a ≤ c ∧ Q .non H
theorem sc_check_integer : FnScope ["thing", "least", "most"] ["thing", "least", "most"] (defScope S_check_integer) := ⟨rfl, rfl, rfl, by decide +kernel, rfl, by decide +kernel, by decide +kernel⟩
theorem ok_check_integer (F : Fx K mg) : OkD P w K mg base 2 (He.ga K "check_integer") ["thing", "least", "most"] sp_check_integer := by
  refine okd F.f_check_integer sc_check_integer (fun _ _ _ _ _ _ us hl => match us, hl with | [_, _, _], _ => rfl) (fun vs H Q E h => ?_) (fun cdv A outer s H vs Q E hr h => ?_)
  · obtain ⟨a, b, c, rfl, _⟩ := h
    rfl
  · obtain ⟨a, b, c, rfl, h1, h2, k⟩ := h
    refine ⟨_, pss_one (ps_if (pt_not (pt_val (pe_cl (ok_is_integer F) hr (by rfl) F.g_is_integer F.p_is_integer (pa_cons (pv 0) (pa_cons (pv 1) (pa_cons (pv 2) pa_nil)))))) (pss_one ps_never) pss_nil), ?_⟩
    refine ⟨_, rfl, _, rfl, _, rfl, a, b, c, rfl, _, rfl, ifF (by simp [h1, h2]) ?_⟩
    exact k
end
end K36
/-! ## KD2 -/
namespace K36
open PySem PySem.Spec PyProof.Rows L2
/-- the two names -/
def nm : Bool → Str
  | false => "a"
  | true => "b"
theorem nm_len (i : Bool) : (nm i).length = 1 ∧ (nm i).cps.size = 1 := by cases i <;> decide +kernel
theorem nm_in (i : Bool) (c : Nat) (h : (nm i).cps[0]? = some c) : (!(Builtin.Str.occurrences ("abcdefghijklmnopqrstuvwxyz" : Str) ⟨#[c]⟩ 0 (("abcdefghijklmnopqrstuvwxyz" : Str).length) 1).isEmpty) = true := by
  cases i with
  | false =>
    have e : (nm false).cps[0]? = some 97 := by decide +kernel
    rw [e] at h
    cases h
    decide +kernel
  | true =>
    have e : (nm true).cps[0]? = some 98 := by decide +kernel
    rw [e] at h
    cases h
    decide +kernel
section
variable {P : Program} {w : World} {K : PySem.W.Frag} {mg : Str → Option Value} {base : Heap}
/-! ### is_name -/
def sp_is_name : Sp := fun vs H Q _ => ∃ i : Bool, vs = [.str (nm i)] ∧ ∀ H', Same H H' → Q (.bl true) H'
theorem sc_is_name : FnScope ["thing", "letter"] ["thing"] (defScope S_is_name) := ⟨rfl, rfl, rfl, by decide +kernel, rfl, by decide +kernel, by decide +kernel⟩
theorem ok_is_name (F : Fx K mg) : OkD P w K mg base 1 (He.ga K "is_name") ["thing"] sp_is_name := by
  refine okd F.f_is_name sc_is_name (fun _ _ _ _ _ _ us hl => match us, hl with | [_], _ => rfl) (fun vs H Q E h => ?_) (fun cdv A outer s H vs Q E hr h => ?_)
  · obtain ⟨i, rfl, _⟩ := h
    rfl
  · obtain ⟨i, rfl, k⟩ := h
    obtain ⟨n1, n2⟩ := nm_len i
    obtain ⟨tS, gS⟩ := F.s_SMALL
    refine ⟨_, pss_cons (ps_if (pw_or (pt_not (pt_val (pe_isi (pv 0) (by rfl) F.b_isinstance (by rfl) F.b_str boot_str))) (pw_or1 (pt_not (pt_chain op_le op_le pe_int (pe_callB call_len (by rfl) F.b_len PySem.boot_len (pa_cons (pv 0) pa_nil)) pe_int)))).pt (pss_one (ps_ret pe_bl)) pss_nil)
      (pss_one (ps_ret (pe_callB (cr_all rfl) (by rfl) F.b_all (by decide +kernel) (pa_cons (pe_lc (own := [("letter", 1)]) (g := gName 1) (tt := tYes) rfl sc_is_name.nd (pi_str (pv 0)) (blkOk_by (own := [("letter", 1)]) (N := ["thing", "letter"]) (sc := defScope S_is_name) (by decide +kernel))
        (fun _ _ _ _ _ => pg_name (i := 1) sc_is_name.nd rfl (Or.inl rfl)) (fun _ _ _ _ _ => pts_nil) (fun _ _ _ _ _ => pe_cmpR op_in_str (pv 1) (pe_glob (v := .str "abcdefghijklmnopqrstuvwxyz") (by rfl) gS ⟨_, rfl⟩) (by rfl))) pa_nil)))), ?_⟩
    refine ⟨_, rfl, _, _, _, _, true, rfl, .ty _, .base (.str _), kit_ty (by decide +kernel), true, rfl, ifF rfl ?_⟩
    refine ⟨_, rfl, _, 1, rfl, ⟨by rw [n1]; decide, n1.symm⟩, ?_⟩
    refine ⟨_, _, rfl, rfl, _, rfl, ifT (by decide) ?_⟩
    refine ⟨_, _, rfl, rfl, _, rfl, ifF (by decide) ?_⟩
    refine ⟨_, rfl, _, rfl, fun D hD => ?_⟩
    refine lc_it walk_str (fun j H' => Same H H' ∧ H D = none ∧ H' D = some (.lst (List.replicate j (.bl true)))) ⟨same_upd hD, hD, upd_same⟩ (fun _ _ _ _ => True.intro) (fun j x H1 H2 hj p y => ?_) fun H' p => ?_
    · obtain ⟨s1, d0, hd⟩ := p
      obtain ⟨rfl, c, hc, rfl⟩ := y
      have j0 : j = 0 := by omega
      subst j0
      refine ⟨rfl, _, rfl, _, _, rfl, rfl, _, hd, (by decide), ?_⟩
      rw [nm_in i c hc]
      exact ⟨fun b o e => by rw [upd_ne (ne_of_none e d0)]; exact s1 b o e, d0, upd_same⟩
    · obtain ⟨s1, d0, hd⟩ := p
      rw [n2] at hd
      exact ⟨D, [true], rfl, SqL.of hd, k _ s1⟩
/-! ### is_enough -/
def sp_is_enough : Sp := fun vs H Q _ => ∃ (a : Addr) (p : PR) (m : Int), vs = [.ref a, .int m] ∧ TupP H a p ∧ Q (.bl (isEnough p m)) H
theorem sc_is_enough : FnScope ["run", "many"] ["run", "many"] (defScope S_is_enough) := ⟨rfl, rfl, rfl, by decide +kernel, rfl, by decide +kernel, by decide +kernel⟩
theorem ok_is_enough (F : Fx K mg) : OkD P w K mg base 1 (He.ga K "is_enough") ["run", "many"] sp_is_enough := by
  refine okd F.f_is_enough sc_is_enough (fun _ _ _ _ _ _ us hl => match us, hl with | [_, _], _ => rfl) (fun vs H Q E h => ?_) (fun cdv A outer s H vs Q E hr h => ?_)
  · obtain ⟨a, p, m, rfl, _⟩ := h
    rfl
  · obtain ⟨a, ⟨p1, p2⟩, m, rfl, hp, k⟩ := h
    refine ⟨_, pss_one (ps_ret (pe_or (pe_cmp (pc_isN (pe_ix ix_tup (pv 0) pe_int (fun _ _ => rfl))) rfl) (pe_one (pe_cmpR op_ge (pe_ix ix_tup (pv 0) pe_int (fun _ _ => rfl)) (pv 1) (nomark _))))), ?_⟩
    refine ⟨_, rfl, a, _, 1, oV p2, rfl, rfl, SqT.of hp, atI_nat (j := 1) rfl, ?_⟩
    cases p2 with
    | none => exact ⟨_, rfl, ifT rfl k⟩
    | some l => exact ⟨_, rfl, ifF rfl ⟨_, rfl, a, _, 1, _, rfl, rfl, SqT.of hp, atI_nat (j := 1) rfl, _, rfl, _, _, rfl, rfl, k⟩⟩
/-! ### end_of -/
def sp_end_of : Sp := fun vs H Q _ => ∃ (a : Addr) (p : PR), vs = [.ref a] ∧ TupP H a p ∧ Q (oV (endOf p)) H
theorem sc_end_of : FnScope ["run", "start", "length"] ["run"] (defScope S_end_of) := ⟨rfl, rfl, rfl, by decide +kernel, rfl, by decide +kernel, by decide +kernel⟩
theorem ok_end_of (F : Fx K mg) : OkD P w K mg base 1 (He.ga K "end_of") ["run"] sp_end_of := by
  refine okd F.f_end_of sc_end_of (fun _ _ _ _ _ _ us hl => match us, hl with | [_], _ => rfl) (fun vs H Q E h => ?_) (fun cdv A outer s H vs Q E hr h => ?_)
  · obtain ⟨a, p, rfl, _⟩ := h
    rfl
  · obtain ⟨a, ⟨p1, p2⟩, rfl, hp, k⟩ := h
    refine ⟨_, pss_cons (ps_asg (pv 0) (pg_tup (by rfl) (pgs_cons (pg_name (i := 1) sc_end_of.nd rfl (.inl rfl)) (pgs_cons (pg_name (i := 2) sc_end_of.nd rfl (.inl rfl)) pgs_nil))))
      (pss_one (ps_ret (pe_ifExp (pt_cmp (pc_isN (pv 2)) rfl) pe_non (pe_op op_add (pv 1) (pv 2))))), ?_⟩
    refine ⟨_, rfl, a, _, rfl, SqT.of hp, rfl, _, _, rfl, _, _, rfl, rfl, ?_⟩
    cases p2 with
    | none => exact ⟨_, rfl, _, rfl, ifT rfl k⟩
    | some l => exact ⟨_, rfl, _, rfl, ifF rfl ⟨_, rfl, _, rfl, _, _, rfl, rfl, k⟩⟩
/-! ### is_before -/
def sp_is_before : Sp := fun vs H Q _ => ∃ (a b : Option Int), vs = [oV a, oV b] ∧ Q (.bl (isBefore a b)) H
theorem sc_is_before : FnScope ["one", "other"] ["one", "other"] (defScope S_is_before) := ⟨rfl, rfl, rfl, by decide +kernel, rfl, by decide +kernel, by decide +kernel⟩
theorem ok_is_before (F : Fx K mg) : OkD P w K mg base 1 (He.ga K "is_before") ["one", "other"] sp_is_before := by
  refine okd F.f_is_before sc_is_before (fun _ _ _ _ _ _ us hl => match us, hl with | [_, _], _ => rfl) (fun vs H Q E h => ?_) (fun cdv A outer s H vs Q E hr h => ?_)
  · obtain ⟨a, b, rfl, _⟩ := h
    rfl
  · obtain ⟨a, b, rfl, k⟩ := h
    refine ⟨_, pss_one (ps_ret (pe_and (pe_cmp (pc_notN (pv 0)) rfl) (pe_one (pe_or (pe_cmp (pc_isN (pv 1)) rfl) (pe_one (pe_cmpR op_lt (pv 0) (pv 1) (nomark _))))))), ?_⟩
    refine ⟨_, rfl, _, rfl, ?_⟩
    cases a with
    | none => exact ifF rfl k
    | some a =>
      refine ifT rfl ⟨_, rfl, _, rfl, ?_⟩
      cases b with
      | none => exact ifT rfl k
      | some b => exact ifF rfl ⟨_, rfl, _, rfl, _, _, rfl, rfl, k⟩
end
end K36
/-! ## KD3 -/
namespace K36
open PySem PySem.Spec PyProof.Rows L2
theorem drop_at {α : Type} {ps : List α} {i : Nat} {p : α} (h : ps[i]? = some p) : ps.drop i = p :: ps.drop (i + 1) := by
  obtain ⟨h1, h2⟩ := List.getElem?_eq_some_iff.mp h
  rw [List.drop_eq_getElem_cons h1, h2]
theorem take_at {α : Type} {ps : List α} {i : Nat} {p : α} (h : ps[i]? = some p) : ps.take (i + 1) = ps.take i ++ [p] := by
  rw [List.take_add_one, h]
  rfl
theorem firstEnough_cons (p : PR) (r : List PR) (m : Int) : firstEnough (p :: r) m = if isEnough p m = true then some p.1 else firstEnough r m := by
  unfold firstEnough
  rw [List.find?_cons]
  cases isEnough p m <;> rfl
theorem bs0 {m : Int} {r : PR} (h : isEnough r m = true) : bestStep m none r = some r := if_pos h
theorem bs1 {m p : Int} {q : PR} : bestStep m (some q) (p, none) = some q := rfl
theorem bs2 {m p l q : Int} (h : isEnough (p, some l) m = true) : bestStep m (some (q, none)) (p, some l) = some (p, some l) := if_pos h
theorem bs3 {m p l q k : Int} (h : isEnough (p, some l) m = true) : bestStep m (some (q, some k)) (p, some l) = if l < k then some (p, some l) else some (q, some k) := if_pos h
section
variable {P : Program} {w : World} {K : PySem.W.Frag} {mg : Str → Option Value} {base : Heap}
/-! ### first_enough -/
def sp_first_enough : Sp := fun vs H Q _ => ∃ (l : Addr) (ps : List PR) (m : Int), vs = [.ref l, .int m] ∧ PL H l ps ∧ Q (oV (firstEnough ps m)) H
theorem sc_first_enough : FnScope ["runs", "many", "run"] ["runs", "many"] (defScope S_first_enough) := ⟨rfl, rfl, rfl, by decide +kernel, rfl, by decide +kernel, by decide +kernel⟩
theorem ok_first_enough (F : Fx K mg) : OkD P w K mg base 2 (He.ga K "first_enough") ["runs", "many"] sp_first_enough := by
  refine okd F.f_first_enough sc_first_enough (fun _ _ _ _ _ _ us hl => match us, hl with | [_, _], _ => rfl) (fun vs H Q E h => ?_) (fun cdv A outer s H vs Q E hr h => ?_)
  · obtain ⟨l, ps, m, rfl, _⟩ := h
    rfl
  · obtain ⟨l, ps, m, rfl, ⟨as, hp⟩, k⟩ := h
    refine ⟨_, pss_cons (ps_for PassesOwn.never rfl (pi_list (pv 0)) (pg_name (i := 2) sc_first_enough.nd rfl (.inl rfl))
        (pss_one (ps_if (pt_val (pe_cl (ok_is_enough F) hr (by rfl) F.g_is_enough F.p_is_enough (pa_cons (pv 2) (pa_cons (pv 1) pa_nil)))) (pss_one (ps_ret (pe_ix ix_tup (pv 2) pe_int (fun _ _ => rfl)))) pss_nil)))
      (pss_one (ps_ret pe_non)), ?_⟩
    refine ⟨_, rfl, l, rfl, ⟨_, hp.sq⟩, for_list (xs := as.map V.ref) (fun i σ H' => H' = H ∧ (∃ x, σ = [some (.ref l), some (.int m), x]) ∧ firstEnough ps m = firstEnough (ps.drop i) m) ⟨rfl, ⟨_, rfl⟩, rfl⟩ (fun i σ H' _ p => by rw [p.1]; exact hp.sq) (fun i x σ H' hx p => ?_) fun σ H' p => ?_⟩
    · obtain ⟨rfl, ⟨y, rfl⟩, e⟩ := p
      obtain ⟨a, p, rfl, hi, ht⟩ := hp.item hx
      rw [drop_at hi, firstEnough_cons] at e
      refine ⟨_, rfl, _, rfl, a, p, m, rfl, ht, _, rfl, ifC (fun c => ?_) fun c => ?_⟩
      · rw [if_pos c] at e
        rw [e] at k
        exact ⟨_, rfl, a, _, 0, _, rfl, rfl, SqT.of ht, atI_nat (j := 0) rfl, k⟩
      · rw [if_neg (by rw [c]; decide)] at e
        exact ⟨rfl, ⟨_, rfl⟩, e⟩
    · obtain ⟨rfl, ⟨y, rfl⟩, e⟩ := p
      rw [List.length_map, hp.len, List.drop_length] at e
      rw [e] at k
      exact k
/-! ### best_enough -/
def BestV (H : Hp) (v : V) : Option PR → Prop
  | none => v = .non
  | some p => ∃ a, v = .ref a ∧ TupP H a p
def sp_best_enough : Sp := fun vs H Q _ => ∃ (l : Addr) (ps : List PR) (m : Int), vs = [.ref l, .int m] ∧ PL H l ps ∧ Q (oV (bestEnough ps m)) H
theorem sc_best_enough : FnScope ["runs", "many", "best", "run"] ["runs", "many"] (defScope S_best_enough) := ⟨rfl, rfl, rfl, by decide +kernel, rfl, by decide +kernel, by decide +kernel⟩
theorem ok_best_enough (F : Fx K mg) : OkD P w K mg base 2 (He.ga K "best_enough") ["runs", "many"] sp_best_enough := by
  refine okd F.f_best_enough sc_best_enough (fun _ _ _ _ _ _ us hl => match us, hl with | [_, _], _ => rfl) (fun vs H Q E h => ?_) (fun cdv A outer s H vs Q E hr h => ?_)
  · obtain ⟨l, ps, m, rfl, _⟩ := h
    rfl
  · obtain ⟨l, ps, m, rfl, ⟨as, hp⟩, k⟩ := h
    refine ⟨_, pss_cons (ps_set (i := 2) sc_best_enough.nd rfl (Or.inl rfl) pe_non) (pss_cons (ps_for PassesOwn.never rfl (pi_list (pv 0)) (pg_name (i := 3) sc_best_enough.nd rfl (.inl rfl))
        (pss_one (ps_if (pt_val (pe_cl (ok_is_enough F) hr (by rfl) F.g_is_enough F.p_is_enough (pa_cons (pv 3) (pa_cons (pv 1) pa_nil))))
          (pss_one (ps_if (pw_or (pt_cmp (pc_isN (pv 2)) rfl) (pw_or1 (pw_and (pt_cmp (pc_notN (pe_ix ix_tup (pv 3) pe_int (fun _ _ => rfl))) rfl) (pw_and1 (pw_or (pt_cmp (pc_isN (pe_ix ix_tup (pv 2) pe_int (fun _ _ => rfl))) rfl)
            (pw_or1 (pt_cmpR op_lt (pe_ix ix_tup (pv 3) pe_int (fun _ _ => rfl)) (pe_ix ix_tup (pv 2) pe_int (fun _ _ => rfl)) (nomark _)))).pt)).pt)).pt (pss_one (ps_set (i := 2) sc_best_enough.nd rfl (Or.inl rfl) (pv 3))) pss_nil)) pss_nil)))
      (pss_one (ps_ret (pe_ifExp (pt_cmp (pc_isN (pv 2)) rfl) pe_non (pe_ix ix_tup (pv 2) pe_int (fun _ _ => rfl)))))), ?_⟩
    refine ⟨_, rfl, l, rfl, ⟨_, hp.sq⟩, for_list (xs := as.map V.ref) (fun i σ H' => H' = H ∧ ∃ bv b x, σ = [some (.ref l), some (.int m), some bv, x] ∧ BestV H bv b ∧ (ps.drop i).foldl (bestStep m) b = ps.foldl (bestStep m) none) ⟨rfl, .non, none, _, rfl, rfl, rfl⟩ (fun i σ H' _ p => by rw [p.1]; exact hp.sq) (fun i x σ H' hx p => ?_) fun σ H' p => ?_⟩
    · obtain ⟨rfl, bv, b, y, rfl, hb, e⟩ := p
      obtain ⟨a, ⟨p1, p2⟩, rfl, hi, ht⟩ := hp.item hx
      rw [drop_at hi, List.foldl_cons] at e
      have t1 : SqT K H' a [.int p1, oV p2] := SqT.of ht
      refine ⟨_, rfl, _, rfl, a, (p1, p2), m, rfl, ht, _, rfl, ifC (fun c => ?_) fun c => ?_⟩
      · refine ⟨_, rfl, ?_⟩
        cases b with
        | none =>
          obtain rfl : bv = .non := hb
          exact ⟨_, rfl, ifT rfl ⟨_, rfl, rfl, .ref a, some (p1, p2), _, rfl, ⟨a, rfl, ht⟩, by rw [bs0 c] at e; exact e⟩⟩
        | some q =>
          obtain ⟨a2, rfl, h2⟩ := hb
          obtain ⟨q1, q2⟩ := q
          have t2 : SqT K H' a2 [.int q1, oV q2] := SqT.of h2
          refine ⟨_, rfl, ifF rfl ⟨_, rfl, a, _, 1, _, rfl, rfl, t1, atI_nat (j := 1) rfl, ?_⟩⟩
          cases p2 with
          | none => exact ⟨_, rfl, ifF rfl ⟨rfl, .ref a2, some (q1, q2), _, rfl, ⟨a2, rfl, h2⟩, by rw [bs1] at e; exact e⟩⟩
          | some p2 =>
            refine ⟨_, rfl, ifT rfl ⟨_, rfl, a2, _, 1, _, rfl, rfl, t2, atI_nat (j := 1) rfl, ?_⟩⟩
            cases q2 with
            | none => exact ⟨_, rfl, ifT rfl ⟨_, rfl, rfl, .ref a, some (p1, some p2), _, rfl, ⟨a, rfl, ht⟩, by rw [bs2 c] at e; exact e⟩⟩
            | some q2 =>
              refine ⟨_, rfl, ifF rfl ⟨_, rfl, a, _, 1, _, rfl, rfl, t1, atI_nat (j := 1) rfl, _, rfl, a2, _, 1, _, rfl, rfl, t2, atI_nat (j := 1) rfl, _, _, rfl, rfl, _, rfl, ifC (fun c2 => ?_) fun c2 => ?_⟩⟩
              · exact ⟨_, rfl, rfl, .ref a, some (p1, some p2), _, rfl, ⟨a, rfl, ht⟩, by rw [bs3 c, if_pos (of_decide_eq_true c2)] at e; exact e⟩
              · exact ⟨rfl, .ref a2, some (q1, some q2), _, rfl, ⟨a2, rfl, h2⟩, by rw [bs3 c, if_neg (of_decide_eq_false c2)] at e; exact e⟩
      · have eb : bestStep m b (p1, p2) = b := if_neg (by rw [c]; decide)
        rw [eb] at e
        exact ⟨rfl, bv, b, _, rfl, hb, e⟩
    · obtain ⟨rfl, bv, b, y, rfl, hb, e⟩ := p
      rw [List.length_map, hp.len, List.drop_length] at e
      have e' : b = ps.foldl (bestStep m) none := e
      have k' : Q (oV (b.map (·.1))) H' := by rw [e']; exact k
      cases b with
      | none =>
        obtain rfl : bv = .non := hb
        exact ⟨_, rfl, _, rfl, ifT rfl k'⟩
      | some q =>
        obtain ⟨a2, rfl, h2⟩ := hb
        exact ⟨_, rfl, _, rfl, ifF rfl ⟨_, rfl, a2, _, 0, _, rfl, rfl, SqT.of h2, atI_nat (j := 0) rfl, k'⟩⟩
/-! ### is_run, of the whole room -/
def sp_is_run : Sp := fun vs H Q _ => ∃ (a : Addr), vs = [.ref a] ∧ TupP H a (0, none) ∧ Q (.bl true) H
theorem sc_is_run : FnScope ["thing"] ["thing"] (defScope S_is_run) := ⟨rfl, rfl, rfl, by decide +kernel, rfl, by decide +kernel, by decide +kernel⟩
theorem ok_is_run (F : Fx K mg) : OkD P w K mg base 2 (He.ga K "is_run") ["thing"] sp_is_run := by
  refine okd F.f_is_run sc_is_run (fun _ _ _ _ _ _ us hl => match us, hl with | [_], _ => rfl) (fun vs H Q E h => ?_) (fun cdv A outer s H vs Q E hr h => ?_)
  · obtain ⟨a, rfl, _⟩ := h
    rfl
  · obtain ⟨a, rfl, ht, k⟩ := h
    obtain ⟨tB, gB⟩ := F.i_MOST_BLOCK
    have t1 : SqT K H a [.int 0, .non] := SqT.of ht
    refine ⟨_, pss_cons (ps_if (pw_or (pt_not (pt_val (pe_isi (T := "tuple") (pv 0) (by rfl) F.b_isinstance (by rfl) F.b_tuple (by decide +kernel)))) (pw_or (pt_cmpR op_ne (pe_callB call_len (by rfl) F.b_len PySem.boot_len (pa_cons (pv 0) pa_nil)) pe_int (nomark _))
        (pw_or1 (pt_not (pt_val (pe_cl (ok_is_integer F) hr (by rfl) F.g_is_integer F.p_is_integer (pa_cons (pe_ix ix_tup (pv 0) pe_int (fun _ _ => rfl)) (pa_cons pe_int (pa_cons (pe_glob (v := .int (10 ^ 50)) (by rfl) gB ⟨_, rfl⟩) pa_nil))))))))).pt (pss_one ps_never) pss_nil)
      (pss_one (ps_ret (pe_or (pe_cmp (pc_isN (pe_ix ix_tup (pv 0) pe_int (fun _ _ => rfl))) rfl) (pe_one (pe_cl (ok_is_integer F) hr (by rfl) F.g_is_integer F.p_is_integer (pa_cons (pe_ix ix_tup (pv 0) pe_int (fun _ _ => rfl)) (pa_cons pe_int (pa_cons (pe_op op_sub (pe_glob (v := .int (10 ^ 50)) (by rfl) gB ⟨_, rfl⟩) (pe_ix ix_tup (pv 0) pe_int (fun _ _ => rfl))) pa_nil)))))))), ?_⟩
    refine ⟨_, rfl, _, _, _, _, true, rfl, .ty _, .base (.tup ht), kit_ty (by decide +kernel), true, rfl, ifF rfl ?_⟩
    refine ⟨_, rfl, _, 2, rfl, .inr ⟨_, t1, rfl⟩, rfl, _, rfl, ifF rfl ?_⟩
    refine ⟨_, rfl, a, _, 0, _, rfl, rfl, t1, atI_nat (j := 0) rfl, _, _, _, rfl, _, rfl, ifF (by decide +kernel) ?_⟩
    exact ⟨_, rfl, a, _, 1, _, rfl, rfl, t1, atI_nat (j := 1) rfl, _, rfl, ifT rfl k⟩
end
end K36
/-! ## KD4 -/
namespace K36
open PySem PySem.Spec PyProof.Rows L2
theorem if_var {c : Bool} {i j : Nat} {x y z : V} {σ : L2.St} {H : Hp} {Q : VK} (hx : σ[i]? = some (some x)) (hy : σ[j]? = some (some y)) (hz : (if c = true then x else y) = z) (h : Q z H) : if c = true then tVar i σ H Q else tVar j σ H Q := by
  subst hz
  cases c with
  | true => exact ifT rfl ⟨x, hx, h⟩
  | false => exact ifF rfl ⟨y, hy, h⟩
theorem mx_eq (a b : Int) : (if decide (a < b) = true then V.int b else V.int a) = V.int (maxI a b) := by
  unfold maxI
  by_cases h : a < b
  · rw [if_pos (decide_eq_true h), if_pos h]
  · rw [if_neg (by rw [decide_eq_false h]; decide), if_neg h]
theorem ob_if (c : Bool) (a b : Option Int) : (if c = true then oV a else oV b) = oV (if c = true then a else b) := by cases c <;> rfl
theorem PLa.lst_upd {H : Hp} {l t : Addr} {o : HO} {as : List Addr} {ps : List PR} (h : PLa H l as ps) (ht : H t = none) : upd H t o l = some (.lst (as.map V.ref)) := by
  rw [upd_ne (ne_of_none h.lst ht)]
  exact h.lst
theorem PLa.short {H : Hp} {l : Addr} {as : List Addr} {ps : List PR} (h : PLa H l as ps) {n : Nat} (hn : ps.length ≤ n) (hs : n < sizeLine) : (as.map V.ref).length < sizeLine := by
  rw [List.length_map, h.len]
  omega
theorem take_le {α : Type} (l : List α) (i : Nat) : (l.take i).length ≤ l.length := by
  rw [List.length_take]
  omega
theorem in_len (a : PR) (bs : List PR) (j : Nat) : ((bs.take j).flatMap (sharedOne a)).length ≤ bs.length := Nat.le_trans (sharedIn_len a _) (take_le bs j)
theorem shared_take {as bs : List PR} {i : Nat} {a : PR} (h : as[i]? = some a) : sharedOf (as.take (i + 1)) bs = sharedOf (as.take i) bs ++ bs.flatMap (sharedOne a) := by
  unfold sharedOf
  rw [take_at h, List.flatMap_append, List.flatMap_singleton]
theorem in_take {a b : PR} {bs : List PR} {j : Nat} (h : bs[j]? = some b) : (bs.take (j + 1)).flatMap (sharedOne a) = (bs.take j).flatMap (sharedOne a) ++ sharedOne a b := by
  rw [take_at h, List.flatMap_append, List.flatMap_singleton]
theorem shared_room {as bs : List PR} {i j n : Nat} {a : PR} (h : as[i]? = some a) (hn : as.length * bs.length ≤ n) : (sharedOf (as.take i) bs ++ (bs.take j).flatMap (sharedOne a)).length ≤ n := by
  have h1 := shared_len (as.take i) bs
  have h2 := in_len a bs j
  obtain ⟨hi, _⟩ := List.getElem?_eq_some_iff.mp h
  rw [List.length_take_of_le (by omega)] at h1
  have h3 : (i + 1) * bs.length ≤ as.length * bs.length := Nat.mul_le_mul_right _ hi
  rw [Nat.add_mul, Nat.one_mul] at h3
  rw [List.length_append]
  omega
section
variable {P : Program} {w : World} {K : PySem.W.Frag} {mg : Str → Option Value} {base : Heap}
/-! ### shared -/
def sp_shared : Sp := fun vs H Q _ => ∃ (l1 l2 : Addr) (as bs : List PR), vs = [.ref l1, .ref l2] ∧ PL H l1 as ∧ PL H l2 bs ∧ as.length * bs.length ≤ 100000 ∧ ∀ H' p, Built H H' p (sharedOf as bs) → Q (.ref p) H'
theorem sc_shared : FnScope ["ours", "theirs", "found", "start", "end", "other", "last", "first"] ["ours", "theirs"] (defScope S_shared) := ⟨rfl, rfl, rfl, by decide +kernel, rfl, by decide +kernel, by decide +kernel⟩
theorem ok_shared (F : Fx K mg) : OkD P w K mg base 2 (He.ga K "shared") ["ours", "theirs"] sp_shared := by
  refine okd F.f_shared sc_shared (fun _ _ _ _ _ _ us hl => match us, hl with | [_, _], _ => rfl) (fun vs H Q E h => ?_) (fun cdv A outer s H vs Q E hr h => ?_)
  · obtain ⟨l1, l2, as, bs, rfl, _⟩ := h
    rfl
  · obtain ⟨l1, l2, as, bs, rfl, ⟨aa, ha⟩, ⟨ba, hb⟩, hn, k⟩ := h
    refine ⟨_, pss_cons (ps_set (i := 2) sc_shared.nd rfl (Or.inl rfl) (pe_lst pa_nil)) (pss_cons (ps_for PassesOwn.never rfl (pi_list (pv 0)) (pg_tup (by rfl) (pgs_cons (pg_name (i := 3) sc_shared.nd rfl (.inl rfl)) (pgs_cons (pg_name (i := 4) sc_shared.nd rfl (.inl rfl)) pgs_nil)))
        (pss_one (ps_for PassesOwn.never rfl (pi_list (pv 1)) (pg_tup (by rfl) (pgs_cons (pg_name (i := 5) sc_shared.nd rfl (.inl rfl)) (pgs_cons (pg_name (i := 6) sc_shared.nd rfl (.inl rfl)) pgs_nil)))
          (pss_cons (ps_set (i := 7) sc_shared.nd rfl (Or.inl rfl) (pe_ifExp (pt_cmpR op_lt (pv 3) (pv 5) (nomark _)) (pv 5) (pv 3)))
          (pss_one (ps_if (pw_and (pt_val (pe_cl (ok_is_before F) hr (by rfl) F.g_is_before F.p_is_before (pa_cons (pv 7) (pa_cons (pv 4) pa_nil)))) (pw_and1 (pt_val (pe_cl (ok_is_before F) hr (by rfl) F.g_is_before F.p_is_before (pa_cons (pv 7) (pa_cons (pv 6) pa_nil)))))).pt
            (pss_one (ps_expr (pe_bm PySem.F.plainAttrs_list PySem.F.slot_list_append PySem.F.type_list_append mt_append (pv 2) (pa_cons (pe_tup (pa_cons (pv 7) (pa_cons (pe_ifExp (pt_val (pe_cl (ok_is_before F) hr (by rfl) F.g_is_before F.p_is_before (pa_cons (pv 4) (pa_cons (pv 6) pa_nil)))) (pv 4) (pv 6)) pa_nil))) pa_nil)))) pss_nil))))))
      (pss_one (ps_ret (pv 2)))), ?_⟩
    refine ⟨by decide, fun l hl => ?_⟩
    refine ⟨_, rfl, l1, rfl, ⟨_, (ha.keep (extN_same (same_upd hl))).sq⟩, for_list (xs := aa.map V.ref) (fun i σ H' => Built H H' l (sharedOf (as.take i) bs) ∧ ∃ x3 x4 x5 x6 x7, σ = [some (.ref l1), some (.ref l2), some (.ref l), x3, x4, x5, x6, x7])
      ⟨by rw [List.take_zero]; exact Built.nil hl, _, _, _, _, _, rfl⟩ (fun i σ H' _ p => (ha.keep (extN_same p.1.same)).sq) (fun i x σ H' hx p => ?_) fun σ H' p => ?_⟩
    · obtain ⟨b1, x3, x4, x5, x6, x7, rfl⟩ := p
      have hb1 := hb.keep (extN_same b1.same)
      obtain ⟨a, ⟨s1, e1⟩, rfl, hi, ht⟩ := (ha.keep (extN_same b1.same)).item hx
      refine ⟨a, _, rfl, SqT.of ht, rfl, _, _, rfl, _, _, rfl, rfl, ?_⟩
      refine ⟨_, rfl, l2, rfl, ⟨_, hb1.sq⟩, for_list (xs := ba.map V.ref) (fun j σ H2 => Built H H2 l (sharedOf (as.take i) bs ++ (bs.take j).flatMap (sharedOne (s1, e1))) ∧ ∃ x5 x6 x7, σ = [some (.ref l1), some (.ref l2), some (.ref l), some (.int s1), some (oV e1), x5, x6, x7])
        ⟨by rw [List.take_zero, List.flatMap_nil, List.append_nil]; exact b1, _, _, _, rfl⟩ (fun i σ H' _ p => (hb.keep (extN_same p.1.same)).sq) (fun j x σ H2 hx2 p => ?_) fun σ H2 p => ?_⟩
      · obtain ⟨b2, y5, y6, y7, rfl⟩ := p
        obtain ⟨b, ⟨s2, e2⟩, rfl, hj, hu⟩ := (hb.keep (extN_same b2.same)).item hx2
        rw [in_take hj, ← List.append_assoc]
        have room := shared_room (j := j) hi hn
        obtain ⟨bs2, bn2, ca, hc⟩ := b2
        have b2 : Built H H2 l (sharedOf (as.take i) bs ++ (bs.take j).flatMap (sharedOne (s1, e1))) := ⟨bs2, bn2, ca, hc⟩
        refine ⟨b, _, rfl, SqT.of hu, rfl, _, _, rfl, _, _, rfl, rfl, ?_⟩
        refine ⟨_, rfl, _, rfl, _, _, rfl, rfl, _, rfl, if_var rfl rfl (mx_eq s1 s2) ?_⟩
        refine ⟨_, rfl, _, rfl, some (maxI s1 s2), e1, rfl, _, rfl, ifC (fun c1 => ?_) fun c1 => ?_⟩
        · refine ⟨_, rfl, _, rfl, some (maxI s1 s2), e2, rfl, _, rfl, ifC (fun c2 => ?_) fun c2 => ?_⟩
          · have es : sharedOne (s1, e1) (s2, e2) = [(maxI s1 s2, if isBefore e1 e2 = true then e1 else e2)] := if_pos (by rw [c1, c2]; rfl)
            rw [es]
            refine ⟨_, rfl, .inl ⟨rfl, _, SqL.of hc.lst⟩, _, rfl, _, rfl, _, rfl, e1, e2, rfl, _, rfl, if_var rfl rfl (ob_if _ _ _) ⟨by show 2 ≤ sizeLine; decide, fun t ht => ?_⟩⟩
            exact ⟨l, _, _, rfl, rfl, hc.lst_upd ht, hc.short room (by decide), b2.snoc (p := (_, _)) hc ht, _, _, _, rfl⟩
          · have es : sharedOne (s1, e1) (s2, e2) = [] := if_neg (by rw [c1, c2]; simp)
            rw [es, List.append_nil]
            exact ⟨b2, _, _, _, rfl⟩
        · have es : sharedOne (s1, e1) (s2, e2) = [] := if_neg (by rw [c1]; simp)
          rw [es, List.append_nil]
          exact ⟨b2, _, _, _, rfl⟩
      · obtain ⟨b2, y5, y6, y7, rfl⟩ := p
        rw [List.length_map, hb.len, List.take_length, ← shared_take hi] at b2
        exact ⟨b2, _, _, _, _, _, rfl⟩
    · obtain ⟨b1, x3, x4, x5, x6, x7, rfl⟩ := p
      rw [List.length_map, ha.len, List.take_length] at b1
      exact ⟨_, rfl, k _ _ b1⟩
end
end K36
/-! ## KD5 -/
namespace K36
open PySem PySem.Spec PyProof.Rows L2
theorem foldl_take {α β : Type} (f : β → α → β) (b : β) {l : List α} {i : Nat} {a : α} (h : l[i]? = some a) : (l.take (i + 1)).foldl f b = f ((l.take i).foldl f b) a := by
  rw [take_at h, List.foldl_append]
  rfl
section
variable {P : Program} {w : World} {K : PySem.W.Frag} {mg : Str → Option Value} {base : Heap}
/-! ### others -/
def sp_others : Sp := fun vs H Q _ => ∃ (l1 : Addr) (ps : List PR), vs = [.ref l1] ∧ PL H l1 ps ∧ ps.length ≤ 100000 ∧ ∀ H' p, Built H H' p (othersOf ps) → Q (.ref p) H'
theorem sc_others : FnScope ["pairs", "found", "at", "start", "end"] ["pairs"] (defScope S_others) := ⟨rfl, rfl, rfl, by decide +kernel, rfl, by decide +kernel, by decide +kernel⟩
theorem ok_others (F : Fx K mg) : OkD P w K mg base 1 (He.ga K "others") ["pairs"] sp_others := by
  refine okd F.f_others sc_others (fun _ _ _ _ _ _ us hl => match us, hl with | [_], _ => rfl) (fun vs H Q E h => ?_) (fun cdv A outer s H vs Q E hr h => ?_)
  · obtain ⟨l1, ps, rfl, _⟩ := h
    rfl
  · obtain ⟨l1, ps, rfl, ⟨aa, ha⟩, hn, k⟩ := h
    refine ⟨_, pss_cons (ps_set (i := 1) sc_others.nd rfl (Or.inl rfl) (pe_lst pa_nil)) (pss_cons (ps_set (i := 2) sc_others.nd rfl (Or.inl rfl) pe_int) (pss_cons (ps_for PassesOwn.never rfl (pi_list (pv 0)) (pg_tup (by rfl) (pgs_cons (pg_name (i := 3) sc_others.nd rfl (.inl rfl)) (pgs_cons (pg_name (i := 4) sc_others.nd rfl (.inl rfl)) pgs_nil)))
        (pss_cons (ps_if (pw_and (pt_cmp (pc_notN (pv 2)) rfl) (pw_and1 (pt_cmpR op_lt (pv 2) (pv 3) (nomark _)))).pt
            (pss_one (ps_expr (pe_bm PySem.F.plainAttrs_list PySem.F.slot_list_append PySem.F.type_list_append mt_append (pv 1) (pa_cons (pe_tup (pa_cons (pv 2) (pa_cons (pv 3) pa_nil))) pa_nil)))) pss_nil)
          (pss_one (ps_set (i := 2) sc_others.nd rfl (Or.inl rfl) (pv 4)))))
      (pss_cons (ps_if (pt_cmp (pc_notN (pv 2)) rfl) (pss_one (ps_expr (pe_bm PySem.F.plainAttrs_list PySem.F.slot_list_append PySem.F.type_list_append mt_append (pv 1) (pa_cons (pe_tup (pa_cons (pv 2) (pa_cons pe_non pa_nil))) pa_nil)))) pss_nil)
      (pss_one (ps_ret (pv 1)))))), ?_⟩
    refine ⟨by decide, fun l hl => ?_⟩
    refine ⟨_, rfl, l1, rfl, ⟨_, (ha.keep (extN_same (same_upd hl))).sq⟩, for_list (xs := aa.map V.ref) (fun i σ H' => Built H H' l ((ps.take i).foldl othersStep ([], some 0)).1 ∧ ∃ x3 x4, σ = [some (.ref l1), some (.ref l), some (oV ((ps.take i).foldl othersStep ([], some 0)).2), x3, x4])
      ⟨Built.nil hl, _, _, rfl⟩ (fun i σ H' _ p => (ha.keep (extN_same p.1.same)).sq) (fun i x σ H' hx p => ?_) fun σ H' p => ?_⟩
    · obtain ⟨b1, x3, x4, rfl⟩ := p
      obtain ⟨a, ⟨s1, e1⟩, rfl, hi, ht⟩ := (ha.keep (extN_same b1.same)).item hx
      rw [foldl_take othersStep _ hi]
      have room : ((ps.take i).foldl othersStep ([], some 0)).1.length ≤ 100000 := by
        have h1 := othersFold_len (ps.take i) ([], some 0)
        have h2 := take_le ps i
        have h3 : ([] : List PR).length = 0 := rfl
        have h4 : (([], some 0) : List PR × Option Int).1.length = 0 := rfl
        omega
      generalize (ps.take i).foldl othersStep ([], some 0) = st at b1 room ⊢
      obtain ⟨f, at_⟩ := st
      obtain ⟨bs1, bn1, ca, hc⟩ := b1
      have b1 : Built H H' l f := ⟨bs1, bn1, ca, hc⟩
      refine ⟨a, _, rfl, SqT.of ht, rfl, _, _, rfl, _, _, rfl, rfl, ?_⟩
      refine ⟨_, rfl, ?_⟩
      cases at_ with
      | none => exact ⟨_, rfl, ifF rfl ⟨_, rfl, b1, _, _, rfl⟩⟩
      | some at_ =>
        refine ⟨_, rfl, ifT rfl ⟨_, rfl, _, rfl, _, _, rfl, rfl, _, rfl, ifC (fun c => ?_) fun c => ?_⟩⟩
        · have es : othersAt f (some at_) s1 = f ++ [(at_, some s1)] := if_pos (of_decide_eq_true c)
          refine ⟨_, rfl, .inl ⟨rfl, _, SqL.of hc.lst⟩, _, rfl, _, rfl, by show 2 ≤ sizeLine; decide, fun t ht => ?_⟩
          refine ⟨l, _, _, rfl, rfl, hc.lst_upd ht, hc.short room (by decide), _, rfl, ?_, _, _, rfl⟩
          show Built _ _ _ (othersAt f (some at_) s1)
          rw [es]
          exact b1.snoc (p := (_, some s1)) hc ht
        · have es : othersAt f (some at_) s1 = f := if_neg (of_decide_eq_false c)
          refine ⟨_, rfl, ?_, _, _, rfl⟩
          show Built _ _ _ (othersAt f (some at_) s1)
          rw [es]
          exact b1
    · obtain ⟨b1, x3, x4, rfl⟩ := p
      rw [List.length_map, ha.len, List.take_length] at b1 ⊢
      have room : (ps.foldl othersStep ([], some 0)).1.length ≤ 100000 := by
        have h1 := othersFold_len ps ([], some 0)
        have h4 : (([], some 0) : List PR × Option Int).1.length = 0 := rfl
        omega
      have k' : ∀ H' p, Built H H' p (othersEnd (ps.foldl othersStep ([], some 0))) → Q (.ref p) H' := k
      generalize ps.foldl othersStep ([], some 0) = st at b1 room k' ⊢
      obtain ⟨f, at_⟩ := st
      obtain ⟨bs1, bn1, ca, hc⟩ := b1
      have b1 : Built H H' l f := ⟨bs1, bn1, ca, hc⟩
      refine ⟨_, rfl, ?_⟩
      cases at_ with
      | none => exact ⟨_, rfl, ifF rfl ⟨_, rfl, k' _ _ b1⟩⟩
      | some at_ =>
        refine ⟨_, rfl, ifT rfl ⟨_, rfl, .inl ⟨rfl, _, SqL.of hc.lst⟩, _, rfl, by show 2 ≤ sizeLine; decide, fun t ht => ?_⟩⟩
        exact ⟨l, _, _, rfl, rfl, hc.lst_upd ht, hc.short room (by decide), _, rfl, k' _ _ (b1.snoc (p := (_, none)) hc ht)⟩
/-! ### runs_of -/
def sp_runs_of : Sp := fun vs H Q _ => ∃ (l1 : Addr) (ps : List PR), vs = [.ref l1] ∧ PL H l1 ps ∧ ps.length ≤ 100000 ∧ ∀ H' p, Built H H' p (runsOf ps) → Q (.ref p) H'
theorem sc_runs_of : FnScope ["pairs", "start", "end"] ["pairs"] (defScope S_runs_of) := ⟨rfl, rfl, rfl, by decide +kernel, rfl, by decide +kernel, by decide +kernel⟩
theorem runs_take {ps : List PR} {i : Nat} {p : PR} (h : ps[i]? = some p) : runsOf (ps.take (i + 1)) = runsOf (ps.take i) ++ [(p.1, p.2.map fun e => e - p.1)] := by
  unfold runsOf
  rw [take_at h, List.map_append]
  rfl
theorem ok_runs_of (F : Fx K mg) : OkD P w K mg base 1 (He.ga K "runs_of") ["pairs"] sp_runs_of := by
  refine okd F.f_runs_of sc_runs_of (fun _ _ _ _ _ _ us hl => match us, hl with | [_], _ => rfl) (fun vs H Q E h => ?_) (fun cdv A outer s H vs Q E hr h => ?_)
  · obtain ⟨l1, ps, rfl, _⟩ := h
    rfl
  · obtain ⟨l1, ps, rfl, ⟨aa, ha⟩, hn, k⟩ := h
    refine ⟨_, pss_one (ps_ret (pe_lc (own := [("start", 1), ("end", 2)]) (g := gTup K 2 (gCons (gName 1) (gCons (gName 2) gNil))) (tt := tYes) rfl sc_runs_of.nd (pi_list (pv 0)) (blkOk_by (own := [("start", 1), ("end", 2)]) (N := ["pairs", "start", "end"]) (sc := defScope S_runs_of) (by decide +kernel))
        (fun _ _ _ _ _ => pg_tup rfl (pgs_cons (pg_name (i := 1) sc_runs_of.nd rfl (Or.inl rfl)) (pgs_cons (pg_name (i := 2) sc_runs_of.nd rfl (Or.inl rfl)) pgs_nil))) (fun _ _ _ _ _ => pts_nil)
        (fun _ _ _ _ _ => pe_tup (pa_cons (pv 1) (pa_cons (pe_ifExp (pt_cmp (pc_isN (pv 2)) rfl) pe_non (pe_op op_sub (pv 2) (pv 1))) pa_nil))))), ?_⟩
    refine ⟨_, rfl, l1, rfl, ⟨_, ha.sq⟩, fun D hD => ?_⟩
    refine lc_list (K := K) (a := l1) (xs := aa.map V.ref) (fun i H' => Built H H' D (runsOf (ps.take i))) (Built.nil hD) (fun i H' _ p => (ha.keep (extN_same p.same)).sq) (fun i x H' hx b1 => ?_) fun H' b1 => ?_
    · obtain ⟨a, ⟨s1, e1⟩, rfl, hi, ht⟩ := (ha.keep (extN_same b1.same)).item hx
      rw [runs_take hi]
      obtain ⟨bs1, bn1, ca, hc⟩ := b1
      have b1 : Built H H' D (runsOf (ps.take i)) := ⟨bs1, bn1, ca, hc⟩
      have room : (runsOf (ps.take i)).length ≤ 100000 := by
        have h2 := take_le ps i
        unfold runsOf
        rw [List.length_map]
        omega
      refine ⟨a, _, rfl, SqT.of ht, rfl, _, _, rfl, _, _, rfl, rfl, rfl, ?_⟩
      refine ⟨_, rfl, _, rfl, ?_⟩
      cases e1 with
      | none =>
        refine ⟨_, rfl, ifT rfl ⟨by show 2 ≤ sizeLine; decide, fun t ht => ⟨_, hc.lst_upd ht, hc.short room (by decide), b1.snoc (p := (_, none)) hc ht⟩⟩⟩
      | some e1 =>
        refine ⟨_, rfl, ifF rfl ⟨_, rfl, _, rfl, _, _, rfl, rfl, by show 2 ≤ sizeLine; decide, fun t ht => ⟨_, hc.lst_upd ht, hc.short room (by decide), b1.snoc (p := (s1, some (e1 - s1))) hc ht⟩⟩⟩
    · rw [List.length_map, ha.len, List.take_length] at b1
      exact k _ _ b1
end
end K36
/-! ## KTab -/
namespace K36
open PySem PySem.Spec PyProof.Rows L2
/-! tables of code objects, frames -/
/-- the tables that grow -/
abbrev TT (K : PySem.W.Frag) : List (Addr × Str) := [(tJ K, "joined.<locals>.<lambda>")]
/-- no table, no code object -/
def Flat (o : HO) : Prop := (∀ ps, o ≠ .tbl ps) ∧ ∀ φ, o ≠ .ext φ
theorem flat_lst (xs : List V) : Flat (.lst xs) := ⟨(by intro _ z; cases z), (by intro _ z; cases z)⟩
theorem flat_tup (xs : List V) : Flat (.tup xs) := ⟨(by intro _ z; cases z), (by intro _ z; cases z)⟩
theorem flat_ins (C dx : Addr) (fs : List (Str × V)) : Flat (.ins C dx fs) := ⟨(by intro _ z; cases z), (by intro _ z; cases z)⟩
theorem flat_dK (kvs : List (Key × V)) : Flat (.dK kvs) := ⟨(by intro _ z; cases z), (by intro _ z; cases z)⟩
theorem flat_own (x : Addr) : Flat (.own x) := ⟨(by intro _ z; cases z), (by intro _ z; cases z)⟩
theorem flat_frz (ob : Obj) (o : HO) : Flat (.frz ob o) := ⟨(by intro _ z; cases z), (by intro _ z; cases z)⟩
/-- what a def may have done: all but the objects W stands; the tables are kept -/
structure Frm (T : List (Addr × Str)) (W : List Addr) (H H' : Hp) : Prop where
  keep : ∀ b o, H b = some o → b ∉ W → (∀ ps, o ≠ .tbl ps) → H' b = some o
  tabs : LamX.Tabs T H'
theorem tabs_ne {T : List (Addr × Str)} {H H' : Hp} {W : List Addr} (t : LamX.Tabs T H) (hw : ∀ a ∈ W, ∃ o, H a = some o ∧ Flat o) (k : ∀ b o, H b = some o → b ∉ W → H' b = some o) : LamX.Tabs T H' := fun p hp => by
  obtain ⟨ps, h1, h2, h3⟩ := t p hp
  refine ⟨ps, k _ _ h1 fun z => ?_, h2, fun pos cv hc => ?_⟩
  · obtain ⟨o, e, f⟩ := hw _ z
    rw [h1] at e
    cases e
    exact f.1 _ rfl
  · obtain ⟨c, e1, e2⟩ := h3 pos cv hc
    refine ⟨c, e1, k _ _ e2 fun z => ?_⟩
    obtain ⟨o, e, f⟩ := hw _ z
    rw [e2] at e
    cases e
    exact f.2 _ rfl
theorem Frm.refl {T : List (Addr × Str)} {W : List Addr} {H : Hp} (t : LamX.Tabs T H) : Frm T W H H := ⟨fun _ _ e _ _ => e, t⟩
theorem Frm.same {T : List (Addr × Str)} {W : List Addr} {H H' : Hp} (t : LamX.Tabs T H) (e : Same H H') : Frm T W H H' := ⟨fun b o h _ _ => e b o h, t.ext e⟩
theorem Frm.trans {T : List (Addr × Str)} {W : List Addr} {H H1 H2 : Hp} (a : Frm T W H H1) (b : Frm T W H1 H2) : Frm T W H H2 := ⟨fun c o h n f => b.keep c o (a.keep c o h n f) n f, b.tabs⟩
theorem Frm.mono {T : List (Addr × Str)} {W W' : List Addr} {H H' : Hp} (a : Frm T W H H') (s : ∀ b ∈ W, b ∈ W') : Frm T W' H H' := ⟨fun c o h n f => a.keep c o h (fun z => n (s c z)) f, a.tabs⟩
theorem Frm.ext {T : List (Addr × Str)} {H H' : Hp} (a : Frm T [] H H') : LamX.ExtN H H' := fun b o h f => a.keep b o h (by simp) f
theorem Frm.of {T : List (Addr × Str)} {W : List Addr} {H H' : Hp} (e : LamX.ExtN H H') (t : LamX.Tabs T H') : Frm T W H H' := ⟨fun b o h _ f => e b o h f, t⟩
/-- a new object, or an object of W or one made since is written -/
theorem Frm.upd {T : List (Addr × Str)} {W : List Addr} {H H' : Hp} {a : Addr} {o : HO} (f : Frm T W H H') (h : H' a = none ∨ ((a ∈ W ∨ H a = none) ∧ ∃ u, H' a = some u ∧ Flat u)) : Frm T W H (upd H' a o) := by
  refine ⟨fun b u e n z => ?_, ?_⟩
  · have k := f.keep b u e n z
    have nb : b ≠ a := by
      rcases h with h | ⟨h, _⟩
      · exact ne_of_none k h
      · rcases h with h | h
        · exact fun q => n (by rw [q]; exact h)
        · exact ne_of_none e h
    rw [upd_ne nb]
    exact k
  · rcases h with h | ⟨_, u, hu, fu⟩
    · exact f.tabs.ext (same_upd h)
    · exact tabs_ne (W := [a]) f.tabs (fun b hb => by rw [List.mem_singleton.mp hb]; exact ⟨u, hu, fu⟩) fun b o e n => by rw [upd_ne (fun q => n (List.mem_singleton.mpr q))]; exact e
/-- with tables: a new list at l of these pairs -/
structure BuiltN (T : List (Addr × Str)) (H0 H : Hp) (l : Addr) (ps : List PR) : Prop where
  frm : Frm T [] H0 H
  new : H0 l = none
  at_ : PL H l ps
theorem Built.n {T : List (Addr × Str)} {H0 H : Hp} {l : Addr} {ps : List PR} (h : Built H0 H l ps) (t : LamX.Tabs T H0) : BuiltN T H0 H l ps := ⟨.same t h.same, h.new, h.at_⟩
/-! ### lists by their last item -/
theorem atI_neg1 {α : Type} {xs : List α} {v : α} (h : xs.getLast? = some v) : atI xs (-1) = some v := by
  obtain ⟨ys, rfl⟩ := List.getLast?_eq_some_iff.mp h
  exact atI_last ys v
theorem ixN_neg1 {n : Nat} (h : 0 < n) : ixN n (-1) = some (n - 1) := by
  unfold ixN
  rw [if_neg (by decide), if_pos (by omega)]
  congr 1
  omega
theorem pr_last {α β : Type} {R : α → β → Prop} {xs : List α} {ys : List β} {y : β} (h : Paired R xs ys) (e : ys.getLast? = some y) : ∃ x, xs.getLast? = some x ∧ R x y := by
  rw [List.getLast?_eq_getElem?] at e ⊢
  rw [Paired.length h]
  exact pr_at h e
theorem pr_set {α β : Type} {R : α → β → Prop} : ∀ {xs : List α} {ys : List β} (i : Nat) {x : α} {y : β}, Paired R xs ys → R x y → Paired R (xs.set i x) (ys.set i y)
  | _, _, _, _, _, .nil, _ => .nil
  | _, _, 0, _, _, .cons _ t, r => .cons r t
  | _, _, i + 1, _, _, .cons a t, r => .cons a (pr_set i t r)
theorem PLa.last {H : Hp} {l : Addr} {as : List Addr} {ps : List PR} {p : PR} (h : PLa H l as ps) (e : ps.getLast? = some p) : ∃ a, (as.map V.ref).getLast? = some (.ref a) ∧ TupP H a p := by
  obtain ⟨a, h1, h2⟩ := pr_last h.tup e
  exact ⟨a, by rw [List.getLast?_map, h1]; rfl, h2⟩
/-- the last tuple replaced by a new one -/
theorem PLa.setLast {H : Hp} {l t : Addr} {as : List Addr} {ps : List PR} {p : PR} (h : PLa H l as ps) (ht : H t = none) : PLa (upd (upd H t (.tup [.int p.1, oV p.2])) l (.lst ((as.map V.ref).set ((as.map V.ref).length - 1) (.ref t)))) l (as.set (as.length - 1) t) (ps.set (ps.length - 1) p) := by
  have nl : ∀ {a q}, TupP H a q → TupP (upd (upd H t (.tup [.int p.1, oV p.2])) l (.lst ((as.map V.ref).set ((as.map V.ref).length - 1) (.ref t)))) a q := fun {a q} e => by
    unfold TupP at e ⊢
    rw [upd_ne (ne_of e h.lst (by intro z; cases z)), upd_ne (ne_of_none e ht)]
    exact e
  refine ⟨by rw [upd_same, List.map_set, List.length_map], ?_⟩
  rw [← h.len]
  refine pr_set _ (pr_map h.tup fun _ _ => nl) ?_
  unfold TupP
  rw [upd_ne (ne_of_none h.lst ht).symm, upd_same]
end K36
/-! ## KD6 -/
namespace K36
open PySem PySem.Spec PyProof.Rows L2
theorem zip_fst {ps : List PR} {as : List Addr} (h : as.length = ps.length) : (ps.zip as).map (·.1) = ps := by
  rw [List.map_fst_zip (by omega)]
theorem pl_sorted {H H2 : Hp} {l D : Addr} {as : List Addr} {ps : List PR} (h : PLa H l as ps) (e : LamX.ExtN H H2) (nD : H2 D = none) :
    PLa (upd H2 D (.lst ((sortK (fun p : Int × Addr => p.1) ((ps.map (·.1)).zip as)).map fun p => V.ref p.2))) D ((sortK (fun p : Int × Addr => p.1) ((ps.map (·.1)).zip as)).map (·.2)) (sortK (fun p => p.1) ps) := by
  have z : ∀ p ∈ ps.zip as, TupP H p.2 p.1 := by
    have go : ∀ (ps : List PR) (as : List Addr), Paired (TupP H) as ps → ∀ p ∈ ps.zip as, TupP H p.2 p.1 := by
      intro ps as hp
      induction hp with
      | nil => intro p hp; simp at hp
      | cons a t ih =>
        intro p hp
        rw [List.zip_cons_cons] at hp
        rcases List.mem_cons.mp hp with q | q
        · rw [q]; exact a
        · exact ih p q
    exact go ps as h.tup
  have e1 : (ps.map (·.1)).zip as = (ps.zip as).map fun q => (q.1.1, q.2) := by
    rw [List.zip_map_left]
    rfl
  have e2 : sortK (fun p : Int × Addr => p.1) ((ps.map (·.1)).zip as) = (sortK (fun q : PR × Addr => q.1.1) (ps.zip as)).map fun q => (q.1.1, q.2) := by
    rw [e1, sortK_map]
  have e3 : sortK (fun p : PR => p.1) ps = (sortK (fun q : PR × Addr => q.1.1) (ps.zip as)).map (·.1) := by
    have h0 := sortK_map (fun p : PR => p.1) (fun q : PR × Addr => q.1) (ps.zip as)
    rw [zip_fst h.len] at h0
    exact h0
  rw [e2, e3]
  refine ⟨by rw [upd_same, List.map_map, List.map_map]; simp only [List.map_map]; rfl, ?_⟩
  have go : ∀ zs : List (PR × Addr), (∀ p ∈ zs, TupP H p.2 p.1) → Paired (TupP (upd H2 D (.lst (((sortK (fun q : PR × Addr => q.1.1) (ps.zip as)).map fun q => (q.1.1, q.2)).map fun p => V.ref p.2)))) (zs.map ((fun p : Int × Addr => p.2) ∘ fun q : PR × Addr => (q.1.1, q.2))) (zs.map (·.1)) := by
    intro zs
    induction zs with
    | nil => intro _; exact .nil
    | cons q t ih =>
      intro hz
      refine .cons ?_ (ih fun p hp => hz p (List.mem_cons_of_mem _ hp))
      have hq : H q.2 = _ := hz q List.mem_cons_self
      have hq2 := e _ _ hq fun ps z => by cases z
      show upd H2 D _ q.2 = _
      rw [upd_ne (ne_of_none hq2 nD)]
      exact hq2
  have h := go (sortK (fun q : PR × Addr => q.1.1) (ps.zip as)) fun p hp => z p ((sortK_perm _ _).mem_iff.mp hp)
  simpa only [List.map_map] using h
section
variable {P : Program} {w : World} {K : PySem.W.Frag} {mg : Str → Option Value} {base : Heap}
/-! ### joined -/
def sp_joined (K : PySem.W.Frag) : Sp := fun vs H Q _ => ∃ (l1 : Addr) (ps : List PR), vs = [.ref l1] ∧ PL H l1 ps ∧ ps.length ≤ 100000 ∧ LamX.Tabs (TT K) H ∧ ∀ H' p, BuiltN (TT K) H H' p (joinedF ps) → Q (.ref p) H'
theorem sc_joined : FnScope ["runs", "found", "run", "start", "end"] ["runs"] (defScope S_joined) := ⟨rfl, rfl, rfl, by decide +kernel, rfl, by decide +kernel, by decide +kernel⟩
/-- the lambda's scope -/
def lamB (st : Stmt) : Option (Arguments × Expr × Scope) := match defBody st with
  | [_, .For _ (.Call _ _ [⟨_, .Lambda a b s _, _⟩] _) _ _ _, _] => some (a, b, s)
  | _ => none
theorem ok_joined (F : Fx K mg) (TB : LamX.TabB base mg (cJ K) (tJ K)) : OkD P w K mg base 2 (He.ga K "joined") ["runs"] (sp_joined K) := by
  obtain ⟨fd, F'⟩ := F.f_joined
  have hbi : Binds K fd ["runs"] [] := F'.binds fun _ _ _ _ _ _ us hl => match us, hl with | [_], _ => rfl
  obtain ⟨oc, od, kV, doc, pm, an, cdv, ct, osl, rfl, lk, hcd⟩ := F'.ex
  have ec : cdv = .ref (cJ K) := by
    cases cdv with
    | ref c =>
      have e1 : cJ K = c := by
        unfold cJ cdK
        rw [lk]
      rw [e1]
    | _ => cases hcd
  subst ec
  refine ⟨_, fn_of lk hcd sc_joined (fun vs H Q E h => ?_) (fun A outer s H vs Q E hr h => ?_), hbi⟩
  · obtain ⟨l, ps, rfl, _⟩ := h
    rfl
  · obtain ⟨l, ps, rfl, ⟨as, hp⟩, hn, hT, k⟩ := h
    refine ⟨_, PSs.nox (pss_cons (ps_set (i := 1) sc_joined.nd rfl (Or.inl rfl) (pe_lst pa_nil)) (pss_cons (ps_for PassesOwn.never rfl (pi_list (pe_sortK (T := TT K) (pa_cons (pv 0) pa_nil) (by rfl) F.b_sorted F.b_int TB rfl (List.mem_singleton.mpr rfl) (fun p hp _ => by rw [List.mem_singleton.mp hp]; rfl) hr
          ⟨rfl, rfl, rfl, by decide +kernel, rfl, rfl, rfl⟩ rfl (fun _ _ _ _ _ => rfl) rfl)) (pg_name (i := 2) sc_joined.nd rfl (.inl rfl))
        (pss_cons (ps_par rfl sc_joined.nd (i := 3) (j := 4) rfl rfl (by decide) rfl rfl (pa_cons (pe_ix ix_tup (pv 2) pe_int (fun _ _ => rfl)) (pa_cons (pe_cl (ok_end_of F) hr (by rfl) F.g_end_of F.p_end_of (pa_cons (pv 2) pa_nil)) pa_nil)) (by rfl))
        (pss_one (ps_if (pw_and (pt_cmpR op_gt (pe_callB call_len (by rfl) F.b_len PySem.boot_len (pa_cons (pv 1) pa_nil)) pe_int (nomark _)) (pw_and1 (pw_or (pt_cmp (pc_isN (pe_ix ix_tup (pe_ix ix_list (pv 1) (pe_un un_neg pe_int) (fun _ _ => rfl)) pe_int (fun _ _ => rfl))) rfl)
              (pw_or1 (pt_cmpR op_le (pv 3) (pe_ix ix_tup (pe_ix ix_list (pv 1) (pe_un un_neg pe_int) (fun _ _ => rfl)) pe_int (fun _ _ => rfl)) (nomark _)))).pt)).pt
            (pss_one (ps_if (pt_val (pe_cl (ok_is_before F) hr (by rfl) F.g_is_before F.p_is_before (pa_cons (pe_ix ix_tup (pe_ix ix_list (pv 1) (pe_un un_neg pe_int) (fun _ _ => rfl)) pe_int (fun _ _ => rfl)) (pa_cons (pv 4) pa_nil))))
              (pss_one (ps_asg (pe_tup (pa_cons (pe_ix ix_tup (pe_ix ix_list (pv 1) (pe_un un_neg pe_int) (fun _ _ => rfl)) pe_int (fun _ _ => rfl)) (pa_cons (pv 4) pa_nil))) (pg_sub (pv 1) (pe_un un_neg pe_int) set_list))) pss_nil))
            (pss_one (ps_expr (pe_bm PySem.F.plainAttrs_list PySem.F.slot_list_append PySem.F.type_list_append mt_append (pv 1) (pa_cons (pe_tup (pa_cons (pv 3) (pa_cons (pv 4) pa_nil))) pa_nil))))))))
      (pss_one (ps_ret (pv 1))))), ?_⟩
    refine ⟨by decide, fun l1 hl1 => ?_⟩
    refine ⟨_, rfl, l, as, ps.map (·.1), rfl, (hp.keep (extN_same (same_upd hl1))).sq, by rw [List.length_map, hp.len], fun i t k' ht hk => ?_, hT.ext (same_upd hl1), fun H2 D eN T2 nD => ?_⟩
    · obtain ⟨p, e1, e2⟩ := pr_atL hp.tup ht
      rw [List.getElem?_map, e1] at hk
      cases hk
      exact ⟨_, e2.keep (extN_same (same_upd hl1))⟩
    · have hS := pl_sorted (hp.keep (extN_same (same_upd hl1))) eN nD
      have hl2 : H2 l1 = some (.lst []) := eN _ _ upd_same fun ps z => by cases z
      generalize (sortK (fun p : Int × Addr => p.1) ((ps.map (·.1)).zip as)).map (fun p => V.ref p.2) = xs at hS ⊢
      have nDl : D ≠ l1 := (ne_of_none hl2 nD).symm
      have f3 : Frm (TT K) [] H (upd H2 D (.lst xs)) := Frm.upd ⟨fun b o e _ z => eN b o (by rw [upd_ne (ne_of_none e hl1)]; exact e) z, T2⟩ (.inl nD)
      have hl3 : upd H2 D (.lst xs) l1 = some (.lst []) := by
        rw [upd_ne nDl.symm]
        exact hl2
      generalize upd H2 D (.lst xs) = H3 at hS f3 hl3 ⊢
      generalize (sortK (fun p : Int × Addr => p.1) ((ps.map (·.1)).zip as)).map (·.2) = bs at hS
      have hSl : (sortK (fun p : PR => p.1) ps).length ≤ 100000 := by
        rw [sortK_length]
        exact hn
      have k' : ∀ H' p, BuiltN (TT K) H H' p ((sortK (fun p : PR => p.1) ps).foldl joinStep []) → Q (.ref p) H' := k
      generalize sortK (fun p : PR => p.1) ps = S at hS hSl k'
      have kS : ∀ {H' : Hp}, (∀ b o, H3 b = some o → b ≠ l1 → H' b = some o) → PLa H' D bs S := fun {H'} e => ⟨e _ _ hS.lst nDl, pr_map hS.tup fun a p h => e _ _ h (ne_of h hl3 (by intro z; cases z))⟩
      refine ⟨D, rfl, ⟨_, hS.sq⟩, for_list (xs := bs.map V.ref) (fun i σ H' => Frm (TT K) [] H H' ∧ (∀ b o, H3 b = some o → b ≠ l1 → H' b = some o) ∧ PL H' l1 ((S.take i).foldl joinStep []) ∧ ∃ x2 x3 x4, σ = [some (.ref l), some (.ref l1), x2, x3, x4])
        ⟨f3, fun b o e _ => e, ⟨[], hl3, .nil⟩, _, _, _, rfl⟩ (fun i σ H' _ p => (kS p.2.1).sq) (fun i x σ H' hx p => ?_) fun σ H' p => ?_⟩
      · obtain ⟨f1, k1, ⟨ca, hc⟩, x2, x3, x4, rfl⟩ := p
        obtain ⟨a, ⟨s1, e1⟩, rfl, hi, ht⟩ := (kS k1).item hx
        rw [foldl_take joinStep _ hi]
        have room : ((S.take i).foldl joinStep []).length ≤ 100000 := by
          have h1 := joinFold_len (S.take i) []
          have h2 := take_le S i
          have h3 : ([] : List PR).length = 0 := rfl
          omega
        generalize (S.take i).foldl joinStep [] = f at hc room ⊢
        have fin : ∀ (t : Addr) (o : HO) (q : PR) (xs : List V), H' t = none → Frm (TT K) [] H (upd (upd H' t (.tup [.int q.1, oV q.2])) l1 (.lst xs)) ∧ ∀ b o, H3 b = some o → b ≠ l1 → upd (upd H' t (.tup [.int q.1, oV q.2])) l1 (.lst xs) b = some o := fun t o q xs ht => by
          refine ⟨(f1.upd (.inl ht)).upd (.inr ⟨.inr hl1, _, hc.lst_upd ht, flat_lst _⟩), fun b o e n => ?_⟩
          rw [upd_ne n, upd_ne (ne_of_none (k1 b o e n) ht)]
          exact k1 b o e n
        refine ⟨_, rfl, a, _, 0, _, rfl, rfl, SqT.of ht, atI_nat (j := 0) rfl, _, rfl, a, (s1, e1), rfl, ht, _, _, rfl, ?_⟩
        refine ⟨_, rfl, _, (ca.map V.ref).length, rfl, .inl ⟨_, SqL.of hc.lst, rfl⟩, _, _, rfl, rfl, _, rfl, ?_⟩
        cases hg : f.getLast? with
        | none =>
          have ef : f = [] := List.getLast?_eq_none_iff.mp hg
          have es : joinStep f (s1, e1) = f ++ [(s1, endOf (s1, e1))] := by
            unfold joinStep
            rw [hg]
          have hz : (ca.map V.ref).length = 0 := by
            rw [List.length_map, hc.len, ef]
            rfl
          rw [es]
          refine ifF (by rw [hz]; rfl) ⟨_, rfl, .inl ⟨rfl, _, SqL.of hc.lst⟩, _, rfl, _, rfl, by show 2 ≤ sizeLine; decide, fun t ht => ?_⟩
          obtain ⟨g1, g2⟩ := fin t (.lst []) (s1, endOf (s1, e1)) (ca.map V.ref ++ [.ref t]) ht
          exact ⟨l1, _, _, rfl, rfl, hc.lst_upd ht, hc.short room (by decide), g1, g2, ⟨_, hc.snoc (p := (s1, endOf (s1, e1))) ht⟩, _, _, _, rfl⟩
        | some c =>
          obtain ⟨c1, c2⟩ := c
          obtain ⟨ta, hta, htc⟩ := hc.last hg
          have pos : 0 < (ca.map V.ref).length := by
            rw [List.length_map, hc.len]
            cases f with
            | nil => cases hg
            | cons _ _ => exact Nat.succ_pos _
          have sq1 : SqT K H' ta [.int c1, oV c2] := SqT.of htc
          refine ifT (decide_eq_true (by omega)) ⟨_, rfl, _, rfl, l1, _, _, _, rfl, rfl, SqL.of hc.lst, atI_neg1 hta, ta, _, 1, _, rfl, rfl, sq1, atI_nat (j := 1) rfl, ?_⟩
          cases c2 with
          | none =>
            have es : joinStep f (s1, e1) = f := by
              unfold joinStep
              rw [hg]
              rfl
            rw [es]
            refine ⟨_, rfl, ifT rfl ⟨_, rfl, _, rfl, l1, _, _, _, rfl, rfl, SqL.of hc.lst, atI_neg1 hta, ta, _, 1, _, rfl, rfl, sq1, atI_nat (j := 1) rfl, _, rfl, none, endOf (s1, e1), rfl, _, rfl, ifF rfl ?_⟩⟩
            exact ⟨f1, k1, ⟨_, hc⟩, _, _, _, rfl⟩
          | some c2 =>
            refine ⟨_, rfl, ifF rfl ⟨_, rfl, _, rfl, _, rfl, l1, _, _, _, rfl, rfl, SqL.of hc.lst, atI_neg1 hta, ta, _, 1, _, rfl, rfl, sq1, atI_nat (j := 1) rfl, _, _, rfl, rfl, _, rfl, ifC (fun q => ?_) fun q => ?_⟩⟩
            · refine ⟨_, rfl, _, rfl, l1, _, _, _, rfl, rfl, SqL.of hc.lst, atI_neg1 hta, ta, _, 1, _, rfl, rfl, sq1, atI_nat (j := 1) rfl, _, rfl, some c2, endOf (s1, e1), rfl, _, rfl, ifC (fun q2 => ?_) fun q2 => ?_⟩
              · have es : joinStep f (s1, e1) = f.set (f.length - 1) (c1, endOf (s1, e1)) := by
                  unfold joinStep
                  rw [hg]
                  dsimp only
                  rw [if_pos (show lastOpen (some c2) s1 = true from q), if_pos q2]
                rw [es]
                refine ⟨_, rfl, _, rfl, l1, _, _, _, rfl, rfl, SqL.of hc.lst, atI_neg1 hta, ta, _, 0, _, rfl, rfl, sq1, atI_nat (j := 0) rfl, _, rfl, by show 2 ≤ sizeLine; decide, fun t ht => ?_⟩
                obtain ⟨g1, g2⟩ := fin t (.lst []) (c1, endOf (s1, e1)) ((ca.map V.ref).set ((ca.map V.ref).length - 1) (.ref t)) ht
                exact ⟨_, rfl, _, rfl, l1, _, _, _, rfl, rfl, hc.lst_upd ht, ixN_neg1 pos, g1, g2, ⟨_, hc.setLast (p := (c1, endOf (s1, e1))) ht⟩, _, _, _, rfl⟩
              · have es : joinStep f (s1, e1) = f := by
                  unfold joinStep
                  rw [hg]
                  dsimp only
                  rw [if_pos (show lastOpen (some c2) s1 = true from q), if_neg (by rw [q2]; decide)]
                rw [es]
                exact ⟨f1, k1, ⟨_, hc⟩, _, _, _, rfl⟩
            · have es : joinStep f (s1, e1) = f ++ [(s1, endOf (s1, e1))] := by
                unfold joinStep
                rw [hg]
                dsimp only
                rw [if_neg (show ¬ lastOpen (some c2) s1 = true from by unfold lastOpen; dsimp only; rw [q]; decide)]
              rw [es]
              refine ⟨_, rfl, .inl ⟨rfl, _, SqL.of hc.lst⟩, _, rfl, _, rfl, by show 2 ≤ sizeLine; decide, fun t ht => ?_⟩
              obtain ⟨g1, g2⟩ := fin t (.lst []) (s1, endOf (s1, e1)) (ca.map V.ref ++ [.ref t]) ht
              exact ⟨l1, _, _, rfl, rfl, hc.lst_upd ht, hc.short room (by decide), g1, g2, ⟨_, hc.snoc (p := (s1, endOf (s1, e1))) ht⟩, _, _, _, rfl⟩
      · obtain ⟨f1, k1, hc, x2, x3, x4, rfl⟩ := p
        rw [List.length_map, hS.len, List.take_length] at hc
        exact ⟨_, rfl, k' _ _ ⟨f1, hl1, hc⟩⟩
end
end K36
/-! ## KD7 -/
namespace K36
open PySem PySem.Spec PyProof.Rows L2
/-- an instance at x as C(..) makes it -/
abbrev mkH (H : Hp) (x dx C : Addr) : Hp := upd (upd H dx (.own x)) x (.ins C dx [])
theorem mkH_at {H : Hp} {x dx C : Addr} : mkH H x dx C x = some (.ins C dx []) := upd_same
theorem mkH_same {H : Hp} {x dx C : Addr} (hx : H x = none) (hd : H dx = none) (ne : dx ≠ x) : Same H (mkH H x dx C) := fun b o e => by
  unfold mkH
  rw [upd_ne (ne_of_none e hx), upd_ne (ne_of_none e hd)]
  exact e
theorem same_trans {H H1 H2 : Hp} (a : Same H H1) (b : Same H1 H2) : Same H H2 := fun c o e => b c o (a c o e)
/-- written over an object that is new since H -/
theorem same_over {H H1 : Hp} {a : Addr} {o : HO} (s : Same H H1) (h : H a = none) : Same H (upd H1 a o) := fun b u e => by
  rw [upd_ne (ne_of_none e h)]
  exact s b u e
theorem none_back {H H1 : Hp} {a : Addr} (s : Same H H1) (h : H1 a = none) : H a = none := by
  cases q : H a with
  | none => rfl
  | some u => exact absurd ((s _ _ q).symm.trans h) (by intro z; cases z)
theorem PL.same {H H' : Hp} {l : Addr} {ps : List PR} (e : Same H H') (h : PL H l ps) : PL H' l ps := h.keep (extN_same e)
/-- an instance is written: the list of pairs stands -/
theorem PL.ins {H : Hp} {l x : Addr} {o u : HO} {ps : List PR} (h : PL H l ps) (hx : H x = some u) (hl : ∀ xs, u ≠ .lst xs) (ht : ∀ xs, u ≠ .tup xs) : PL (upd H x o) l ps := by
  obtain ⟨as, a⟩ := h
  refine ⟨as, ?_, pr_map a.tup fun b q e => ?_⟩
  · rw [upd_ne (ne_of a.lst hx (fun z => hl _ z.symm))]
    exact a.lst
  · unfold TupP at e ⊢
    rw [upd_ne (ne_of e hx (fun z => ht _ z.symm))]
    exact e
/-- a room of these pairs -/
def RoomL (K : PySem.W.Frag) (H : Hp) (r l : Addr) : Prop := ∃ dx, H r = some (.ins (He.ga K "Room") dx [("pairs", .ref l)])
def RoomAt (K : PySem.W.Frag) (H : Hp) (r : Addr) (ps : List PR) : Prop := ∃ l, RoomL K H r l ∧ PL H l ps
theorem RoomAt.keep {K : PySem.W.Frag} {H H' : Hp} {r : Addr} {ps : List PR} (e : LamX.ExtN H H') (h : RoomAt K H r ps) : RoomAt K H' r ps :=
  let ⟨l, ⟨dx, a⟩, b⟩ := h
  ⟨l, ⟨dx, e _ _ a fun ps z => by cases z⟩, b.keep e⟩
section
variable {P : Program} {w : World} {K : PySem.W.Frag} {mg : Str → Option Value} {base : Heap}
/-! ### Pairs -/
def sp_Pairs_init (K : PySem.W.Frag) : Sp := fun vs H Q _ => ∃ (x dx : Addr) (v : V), vs = [.ref x, v] ∧ H x = some (.ins (He.ga K "Pairs") dx []) ∧ Q .non (upd H x (.ins (He.ga K "Pairs") dx [("pairs", v)]))
theorem sc_Pairs_init : FnScope ["self", "pairs"] ["self", "pairs"] (defScope S_Pairs_init) := ⟨rfl, rfl, rfl, by decide +kernel, rfl, by decide +kernel, by decide +kernel⟩
theorem ok_Pairs_init (F : Fx K mg) : OkD P w K mg base 1 (He.ma K (He.ga K "Pairs") "__init__") ["self", "pairs"] (sp_Pairs_init K) := by
  refine okd F.f_Pairs_init sc_Pairs_init (fun _ _ _ _ _ _ us hl => match us, hl with | [_, _], _ => rfl) (fun vs H Q E h => ?_) (fun cdv A outer s H vs Q E hr h => ?_)
  · obtain ⟨x, dx, v, rfl, _⟩ := h
    rfl
  · obtain ⟨x, dx, v, rfl, hx, k⟩ := h
    refine ⟨_, pss_one (ps_fld (pv 0) (pv 1) rfl), ?_⟩
    exact ⟨_, rfl, _, rfl, x, _, dx, _, rfl, hx, F.c_Pairs, F.n_Pairs_pairs, by decide, k⟩
/-! ### Room.__init__ -/
theorem joined_whole : joinedF [(0, none)] = [(0, none)] := by decide
def sp_Room_init (K : PySem.W.Frag) : Sp := fun vs H Q _ => ∃ (x dx : Addr) (v : V), vs = [.ref x, v] ∧ H x = some (.ins (He.ga K "Room") dx []) ∧
  ((∃ pr dp l, v = .ref pr ∧ H pr = some (.ins (He.ga K "Pairs") dp [("pairs", .ref l)]) ∧ Q .non (upd H x (.ins (He.ga K "Room") dx [("pairs", .ref l)]))) ∨
   (∃ l, v = .ref l ∧ PL H l [(0, none)] ∧ LamX.Tabs (TT K) H ∧ ∀ H' p, Frm (TT K) [x] H H' → H' x = some (.ins (He.ga K "Room") dx [("pairs", .ref p)]) → PL H' p [(0, none)] → Q .non H'))
theorem sc_Room_init : FnScope ["self", "runs", "number", "run"] ["self", "runs"] (defScope S_Room_init) := ⟨rfl, rfl, rfl, by decide +kernel, rfl, by decide +kernel, by decide +kernel⟩
theorem ok_Room_init (F : Fx K mg) (TB : LamX.TabB base mg (cJ K) (tJ K)) : OkD P w K mg base 3 (He.ma K (He.ga K "Room") "__init__") ["self", "runs"] (sp_Room_init K) := by
  refine okd F.f_Room_init sc_Room_init (fun _ _ _ _ _ _ us hl => match us, hl with | [_, _], _ => rfl) (fun vs H Q E h => ?_) (fun cdv A outer s H vs Q E hr h => ?_)
  · obtain ⟨x, dx, v, rfl, _⟩ := h
    rfl
  · obtain ⟨x, dx, v, rfl, hx, h⟩ := h
    obtain ⟨tM, gM⟩ := F.i_MOST_RUNS
    refine ⟨_, pss_cons (ps_if (pt_val (pe_isiC (pv 1) (by rfl) F.b_isinstance (by rfl) F.g_Pairs)) (pss_cons (ps_fld (pv 0) (pe_fld (pv 1) rfl) rfl) (pss_one ps_retN)) pss_nil)
      (pss_cons (ps_if (pw_or (pt_not (pt_val (pe_isi (T := "list") (pv 1) (by rfl) F.b_isinstance (by rfl) F.b_list (by decide +kernel)))) (pw_or1 (pt_cmpR op_gt (pe_callB call_len (by rfl) F.b_len PySem.boot_len (pa_cons (pv 1) pa_nil)) (pe_glob (v := .int 1000) (by rfl) gM ⟨_, rfl⟩) (nomark _)))).pt (pss_one ps_never) pss_nil)
      (pss_cons (ps_for PassesOwn.never rfl (pi_enum (by rfl) F.b_enumerate (pa_cons (pv 1) pa_nil)) (pg_tup rfl (pgs_cons (pg_name (i := 2) sc_Room_init.nd rfl (.inl rfl)) (pgs_cons (pg_name (i := 3) sc_Room_init.nd rfl (.inl rfl)) pgs_nil)))
        (pss_one (ps_if (pt_not (pt_val (pe_cl (ok_is_run F) hr (by rfl) F.g_is_run F.p_is_run (pa_cons (pv 3) pa_nil)))) (pss_one ps_never) pss_nil)))
      (pss_one (ps_fld (pv 0) (pe_cl (ok_joined F TB) hr (by rfl) F.g_joined F.p_joined (pa_cons (pv 1) pa_nil)) rfl)))), ?_⟩
    rcases h with ⟨pr, dp, l, rfl, hp, k⟩ | ⟨l, rfl, hl, hT, k⟩
    · refine ⟨_, rfl, _, _, _, _, true, rfl, .own _, .base (.ins hp F.c_Pairs F.x_cl_Pairs F.x_get F.x_tk F.x_mro_Pairs), if_pos (beq_self_eq_true _), true, rfl, ifT rfl ?_⟩
      exact ⟨_, rfl, pr, _, dp, _, _, rfl, hp, F.c_Pairs, F.n_Pairs_pairs, rfl, _, rfl, x, _, dx, _, rfl, hx, F.c_Room, F.n_Room_pairs, by decide, k⟩
    · obtain ⟨as, ha⟩ := hl
      refine ⟨_, rfl, _, _, _, _, false, rfl, .own _, .base (.lst ha.lst), F.x_lp, false, rfl, ifF rfl ?_⟩
      refine ⟨_, rfl, _, _, _, _, true, rfl, .ty _, .base (.lst ha.lst), kit_ty (by decide +kernel), true, rfl, ifF rfl ?_⟩
      have h1 : (as.map V.ref).length = 1 := by rw [List.length_map, ha.len]; rfl
      refine ⟨_, rfl, _, (as.map V.ref).length, rfl, .inl ⟨_, ha.sq, rfl⟩, _, _, rfl, rfl, _, rfl, ifF (by rw [h1]; decide) ?_⟩
      refine ⟨_, rfl, l, _, rfl, ha.sq, for_it walk_enum (fun i σ H' => Same H H' ∧ ∃ x2 x3, σ = [some (.ref x), some (.ref l), x2, x3]) ⟨fun _ _ e => e, _, _, rfl⟩ (fun i σ H' _ p => (ha.keep (extN_same p.1)).sq) (fun i v σ H1 H2 hi p y => ?_) fun σ H' p => ?_⟩
      · obtain ⟨s1, x2, x3, rfl⟩ := p
        obtain ⟨t, v1, v2, rfl, nt, rfl, e1, e2⟩ := y
        cases e1
        obtain ⟨a, p, rfl, hp, ht⟩ := ha.item e2
        have hp0 : p = (0, none) := by
          have : i = 0 := by omega
          subst this
          cases hp
          rfl
        subst hp0
        refine ⟨t, _, rfl, SqT.of upd_same, rfl, _, _, rfl, _, _, rfl, rfl, ?_⟩
        exact ⟨_, rfl, a, rfl, (ht.keep (extN_same (same_trans s1 (same_upd nt)))), true, rfl, ifF rfl ⟨same_trans s1 (same_upd nt), _, _, rfl⟩⟩
      · obtain ⟨s1, x2, x3, rfl⟩ := p
        refine ⟨_, rfl, l, [(0, none)], rfl, PL.same s1 ⟨as, ha⟩, by decide, hT.ext s1, fun H2 p b => ?_⟩
        rw [joined_whole] at b
        have hx2 : H2 x = some (.ins (He.ga K "Room") dx []) := b.frm.keep _ _ (s1 _ _ hx) (by simp) fun ps z => by cases z
        refine ⟨_, rfl, x, _, dx, _, rfl, hx2, F.c_Room, F.n_Room_pairs, by decide, k _ p ?_ upd_same (b.at_.ins hx2 (by intro _ z; cases z) (by intro _ z; cases z))⟩
        exact ((Frm.same hT s1).trans (b.frm.mono (by simp))).upd (.inr ⟨.inl List.mem_cons_self, _, hx2, flat_ins _ _ _⟩)
/-! ### room_of -/
def sp_room_of (K : PySem.W.Frag) : Sp := fun vs H Q _ => ∃ (l : Addr) (ps : List PR), vs = [.ref l] ∧ PL H l ps ∧ ∀ H' r, Same H H' → H r = none → RoomAt K H' r ps → Q (.ref r) H'
theorem sc_room_of : FnScope ["pairs"] ["pairs"] (defScope S_room_of) := ⟨rfl, rfl, rfl, by decide +kernel, rfl, by decide +kernel, by decide +kernel⟩
theorem ok_room_of (F : Fx K mg) (TB : LamX.TabB base mg (cJ K) (tJ K)) : OkD P w K mg base 5 (He.ga K "room_of") ["pairs"] (sp_room_of K) := by
  refine okd F.f_room_of sc_room_of (fun _ _ _ _ _ _ us hl => match us, hl with | [_], _ => rfl) (fun vs H Q E h => ?_) (fun cdv A outer s H vs Q E hr h => ?_)
  · obtain ⟨l, ps, rfl, _⟩ := h
    rfl
  · obtain ⟨l, ps, rfl, hl, k⟩ := h
    refine ⟨_, pss_one (ps_ret (pe_mk F.k_Room (ok_Room_init F TB) hr (by rfl) F.g_Room (pa_cons (pe_mk F.k_Pairs (ok_Pairs_init F) (hr.mono (by decide)) (by rfl) F.g_Pairs (pa_cons (pv 0) pa_nil)) pa_nil))), ?_⟩
    refine ⟨_, rfl, fun p dp hp hdp ne => ⟨p, dp, _, rfl, mkH_at, rfl, fun r dr hr' hdr ne2 => ?_⟩⟩
    have s1 : Same H (upd (mkH H p dp (He.ga K "Pairs")) p (.ins (He.ga K "Pairs") dp [("pairs", .ref l)])) := same_over (mkH_same hp hdp ne) hp
    have hr0 : H r = none := none_back s1 hr'
    have s2 := mkH_same (C := He.ga K "Room") hr' hdr ne2
    refine ⟨r, dr, _, rfl, mkH_at, .inl ⟨p, dp, l, rfl, s2 _ _ upd_same, rfl, k _ r (same_over (same_trans s1 s2) hr0) hr0 ⟨l, ⟨dr, upd_same⟩, ?_⟩⟩⟩
    exact ((hl.same s1).same s2).ins mkH_at (by intro _ z; cases z) (by intro _ z; cases z)
/-! ### Room.runs, __bool__, pairs_of -/
def sp_Room_runs (K : PySem.W.Frag) : Sp := fun vs H Q _ => ∃ (r : Addr) (ps : List PR), vs = [.ref r] ∧ RoomAt K H r ps ∧ ps.length ≤ 100000 ∧ ∀ H' p, Built H H' p (runsOf ps) → Q (.ref p) H'
theorem sc_Room_runs : FnScope ["self"] ["self"] (defScope S_Room_runs) := ⟨rfl, rfl, rfl, by decide +kernel, rfl, by decide +kernel, by decide +kernel⟩
theorem ok_Room_runs (F : Fx K mg) : OkD P w K mg base 2 (He.ma K (He.ga K "Room") "runs") ["self"] (sp_Room_runs K) := by
  refine okd F.f_Room_runs sc_Room_runs (fun _ _ _ _ _ _ us hl => match us, hl with | [_], _ => rfl) (fun vs H Q E h => ?_) (fun cdv A outer s H vs Q E hr h => ?_)
  · obtain ⟨r, ps, rfl, _⟩ := h
    rfl
  · obtain ⟨r, ps, rfl, ⟨l, ⟨dx, hx⟩, hl⟩, hn, k⟩ := h
    refine ⟨_, pss_one (ps_ret (pe_cl (ok_runs_of F) hr (by rfl) F.g_runs_of F.p_runs_of (pa_cons (pe_fld (pv 0) rfl) pa_nil))), ?_⟩
    exact ⟨_, rfl, r, _, dx, _, _, rfl, hx, F.c_Room, F.n_Room_pairs, rfl, l, ps, rfl, hl, hn, k⟩
def sp_Room_bool (K : PySem.W.Frag) : Sp := fun vs H Q _ => ∃ (r : Addr) (ps : List PR), vs = [.ref r] ∧ RoomAt K H r ps ∧ Q (.bl (decide (0 < (ps.length : Int)))) H
theorem sc_Room_bool : FnScope ["self"] ["self"] (defScope S_Room_bool) := ⟨rfl, rfl, rfl, by decide +kernel, rfl, by decide +kernel, by decide +kernel⟩
theorem ok_Room_bool (F : Fx K mg) : OkD P w K mg base 1 (He.ma K (He.ga K "Room") "__bool__") ["self"] (sp_Room_bool K) := by
  refine okd F.f_Room_bool sc_Room_bool (fun _ _ _ _ _ _ us hl => match us, hl with | [_], _ => rfl) (fun vs H Q E h => ?_) (fun cdv A outer s H vs Q E hr h => ?_)
  · obtain ⟨r, ps, rfl, _⟩ := h
    rfl
  · obtain ⟨r, ps, rfl, ⟨l, ⟨dx, hx⟩, as, hl⟩, k⟩ := h
    refine ⟨_, pss_one (ps_ret (pe_cmpR op_gt (pe_callB call_len (by rfl) F.b_len PySem.boot_len (pa_cons (pe_fld (pv 0) rfl) pa_nil)) pe_int (nomark _))), ?_⟩
    have e : (as.map V.ref).length = ps.length := by rw [List.length_map, hl.len]
    refine ⟨_, rfl, r, _, dx, _, _, rfl, hx, F.c_Room, F.n_Room_pairs, rfl, _, (as.map V.ref).length, rfl, .inl ⟨_, hl.sq, rfl⟩, _, _, rfl, rfl, ?_⟩
    rw [e]
    exact k
def sp_pairs_of (K : PySem.W.Frag) : Sp := fun vs H Q _ => ∃ (r l : Addr), vs = [.ref r] ∧ RoomL K H r l ∧ Q (.ref l) H
theorem sc_pairs_of : FnScope ["thing"] ["thing"] (defScope S_pairs_of) := ⟨rfl, rfl, rfl, by decide +kernel, rfl, by decide +kernel, by decide +kernel⟩
theorem ok_pairs_of (F : Fx K mg) : OkD P w K mg base 1 (He.ga K "pairs_of") ["thing"] (sp_pairs_of K) := by
  refine okd F.f_pairs_of sc_pairs_of (fun _ _ _ _ _ _ us hl => match us, hl with | [_], _ => rfl) (fun vs H Q E h => ?_) (fun cdv A outer s H vs Q E hr h => ?_)
  · obtain ⟨r, l, rfl, _⟩ := h
    rfl
  · obtain ⟨r, l, rfl, ⟨dx, hx⟩, k⟩ := h
    refine ⟨_, pss_cons (ps_if (pt_val (pe_isiC (pv 0) (by rfl) F.b_isinstance (by rfl) F.g_Room)) (pss_one (ps_ret (pe_fld (pv 0) rfl))) pss_nil) pss_never, ?_⟩
    refine ⟨_, rfl, _, _, _, _, true, rfl, .own _, .base (.ins hx F.c_Room F.x_cl_Room F.x_get F.x_tk F.x_mro_Room), if_pos (beq_self_eq_true _), true, rfl, ifT rfl ?_⟩
    exact ⟨_, rfl, r, _, dx, _, _, rfl, hx, F.c_Room, F.n_Room_pairs, rfl, k⟩
/-! ### Room.__sub__ -/
def sp_Room_sub (K : PySem.W.Frag) : Sp := fun vs H Q _ => ∃ (r1 r2 : Addr) (ps qs : List PR), vs = [.ref r1, .ref r2] ∧ RoomAt K H r1 ps ∧ RoomAt K H r2 qs ∧ ps.length ≤ 10 ∧ qs.length ≤ 5000 ∧
  ∀ H' r, Same H H' → H r = none → RoomAt K H' r (sharedOf ps (othersOf qs)) → Q (.ref r) H'
theorem sc_Room_sub : FnScope ["self", "other", "pairs"] ["self", "other"] (defScope S_Room_sub) := ⟨rfl, rfl, rfl, by decide +kernel, rfl, by decide +kernel, by decide +kernel⟩
theorem ok_Room_sub (F : Fx K mg) (TB : LamX.TabB base mg (cJ K) (tJ K)) : OkD P w K mg base 6 (He.ma K (He.ga K "Room") "__sub__") ["self", "other"] (sp_Room_sub K) := by
  refine okd F.f_Room_sub sc_Room_sub (fun _ _ _ _ _ _ us hl => match us, hl with | [_, _], _ => rfl) (fun vs H Q E h => ?_) (fun cdv A outer s H vs Q E hr h => ?_)
  · obtain ⟨r1, r2, ps, qs, rfl, _⟩ := h
    rfl
  · obtain ⟨r1, r2, ps, qs, rfl, ⟨l1, ⟨d1, h1⟩, p1⟩, ⟨l2, h2, p2⟩, n1, n2, k⟩ := h
    refine ⟨_, pss_cons (ps_set (i := 2) sc_Room_sub.nd rfl (Or.inl rfl) (pe_cl (ok_pairs_of F) (hr.mono (by decide)) (by rfl) F.g_pairs_of F.p_pairs_of (pa_cons (pv 1) pa_nil)))
      (pss_cons (ps_if (pt_cmp (pc_isN (pv 2)) rfl) (pss_one ps_never) pss_nil)
      (pss_one (ps_ret (pe_cl (ok_room_of F TB) hr (by rfl) F.g_room_of F.p_room_of (pa_cons (pe_cl (ok_shared F) (hr.mono (by decide)) (by rfl) F.g_shared F.p_shared (pa_cons (pe_fld (pv 0) rfl) (pa_cons (pe_cl (ok_others F) (hr.mono (by decide)) (by rfl) F.g_others F.p_others (pa_cons (pv 2) pa_nil)) pa_nil))) pa_nil))))), ?_⟩
    refine ⟨_, rfl, r2, l2, rfl, h2, _, rfl, _, rfl, ifF rfl ?_⟩
    refine ⟨_, rfl, r1, _, d1, _, _, rfl, h1, F.c_Room, F.n_Room_pairs, rfl, _, rfl, l2, qs, rfl, p2, by omega, fun H1 l3 b1 => ?_⟩
    refine ⟨l1, l3, ps, othersOf qs, rfl, p1.same b1.same, b1.at_, ?_, fun H2 l4 b2 => ?_⟩
    · have h3 := others_len qs
      have h4 : ps.length * (othersOf qs).length ≤ 10 * 5001 := Nat.mul_le_mul n1 (by omega)
      omega
    · refine ⟨l4, _, rfl, b2.at_, fun H3 r s3 nr a => k H3 r (same_trans b1.same (same_trans b2.same s3)) (none_back b1.same (none_back b2.same nr)) a⟩
end
end K36
/-! ## KGen -/
/-! yield from over a list; the generator method runs_from -/
namespace K36
open PySem PySem.Spec PyProof.Rows L2
section
variable {pr : Program} {wo : World} {Ar : Around} {Er : Value → Shared → Prop} {sh : Shared}
/-- the list's iterator: the next item -/
theorem li_item {ia la : Addr} {j : Nat} {us : Array Value} {u : Value} {Qr : Option Value → Shared → Prop} (hi : sh.heap.IsListIter ia la j) (hl : sh.heap.IsList la us) (hu : us[j]? = some u)
    (hq : ∀ g, g.IsListIter ia la (j + 1) → Heap.SameBut ia sh.heap g → Qr (some u) { sh with heap := g }) : wpAny (model pr wo) Ar (callSpecial? (.ref ia) "__next__") Qr Er sh := by
  obtain ⟨oi, hoi, hci, hdi⟩ := id hi
  obtain ⟨ol, hol, _, nl, hdl⟩ := hl
  refine wpAny_callSpecial?_slot (name := Str.ofString "__next__") hi.typeIs slot_listiter_next (wpAny_call_entry slot_listiter_next hi.typeIs entry_listiter_next ?_ (args_listiter_next _))
  show wpAny _ _ (field (.ref ia) 0 >>= _) _ _ sh
  refine wpAny_bind (wpAny_field hoi hdi (x := .ref la) rfl ?_)
  show wpAny _ _ (if (Value.ref la == Value.none) = true then _ else _) _ _ sh
  rw [if_neg (show ¬ ((Value.ref la == .none) = true) from Bool.false_ne_true)]
  show wpAny _ _ (field (.ref ia) 1 >>= _) _ _ sh
  refine wpAny_bind (wpAny_field hoi hdi (x := .int j 0) rfl ?_)
  show wpAny _ _ (seqItems? (.ref la) >>= _) _ _ sh
  refine wpAny_bind (wpAny_seqItems hol hdl ?_)
  simp only [Int.toNat_natCast, hu]
  refine wpAny_bind (wpAny_setField hoi hdi (by simp) (wpAny_pure ⟨u, rfl, hq _ ?_ (Heap.SameBut.update ..)⟩))
  exact ⟨_, Heap.get?_update_self _ hoi (Obj.isFreed_of_fields (Obj.data_mapFields hdi _)), (Obj.cls_mapFields ..).trans hci, by rw [Obj.data_mapFields hdi]; simp [rawInt]⟩
/-- its end -/
theorem li_end {ia la : Addr} {j : Nat} {us : Array Value} {Qr : Option Value → Shared → Prop} (hn : Ar.handled = none) (hi : sh.heap.IsListIter ia la j) (hl : sh.heap.IsList la us) (hu : us[j]? = none)
    (hq : ∀ e g, StopX e g → Heap.ExtBut ia sh.heap g → Er e { sh with heap := g }) : wpAny (model pr wo) Ar (callSpecial? (.ref ia) "__next__") Qr Er sh := by
  obtain ⟨oi, hoi, hci, hdi⟩ := id hi
  obtain ⟨ol, hol, _, nl, hdl⟩ := hl
  refine wpAny_callSpecial?_slot (name := Str.ofString "__next__") hi.typeIs slot_listiter_next (wpAny_call_entry slot_listiter_next hi.typeIs entry_listiter_next ?_ (args_listiter_next _))
  show wpAny _ _ (field (.ref ia) 0 >>= _) _ _ sh
  refine wpAny_bind (wpAny_field hoi hdi (x := .ref la) rfl ?_)
  show wpAny _ _ (if (Value.ref la == Value.none) = true then _ else _) _ _ sh
  rw [if_neg (show ¬ ((Value.ref la == .none) = true) from Bool.false_ne_true)]
  show wpAny _ _ (field (.ref ia) 1 >>= _) _ _ sh
  refine wpAny_bind (wpAny_field hoi hdi (x := .int j 0) rfl ?_)
  show wpAny _ _ (seqItems? (.ref la) >>= _) _ _ sh
  refine wpAny_bind (wpAny_seqItems hol hdl ?_)
  simp only [Int.toNat_natCast, hu]
  refine wpAny_bind (wpAny_rule (wpAny_bind (wpAny_setField hoi hdi (by simp) ?_)))
  show wpAny _ _ (newExc (Value.type "StopIteration") [] >>= _) _ _ _
  refine wpAny_bind ?_
  simp only [newExc, newTuple]
  refine wpAny_bind (wpAny_newObj_type ?_ (by size_fits))
  refine wpAny_bind (m := firstArgMember _ _) (wpAny_of_eq (a := .none) (by first | rfl | (simp only [firstArgMember]; rfl)) ?_)
  refine wpAny_newObj_type ?_ (by size_fits)
  simp only [raiseNew]
  refine wpAny_bind (wpAny_handled ?_)
  first | rw [show Ar.in1.handled = none from hn] | rw [hn]
  refine wpAny_bind (wpAny_pure (wpAny_throw ?_))
  refine hq _ _ ⟨_, _, _, rfl, Heap.get?_push_size _ rfl, rfl, rfl, ?_⟩ (((Heap.SameBut.update ..).extBut.push _).push _)
  first
    | rfl
    | (rw [Array.getElem?_append_left (by decide)]; rfl)
    | kernel_rfl
end
section
variable {X : Cx} {e : Expr} {te : TE}
def tYfLst (te : TE) : TYf := fun σ H Q => te σ H fun x H1 => ∃ a xs, x = .ref a ∧ H1 a = some (.lst xs) ∧ Q xs H1
theorem close_li : typeLookup (.type "list_iterator") "close" = pure none := by rw [typeLookup_type, builtinLookup_eq_fast]; kernel_rfl
theorem yf_lst (he : PE X e te) : YfE X e (tYfLst te) := by
  refine ⟨fun pins s σ H Q I h => ?_⟩
  refine thn (he.run pins s σ H _ I h) fun v sa ⟨x, Ha, Ia, ra, a, xs, ex, ha, hq⟩ => ?_
  subst ex
  obtain rfl : v = Value.ref a := ra
  obtain ⟨hlen, its, nn, rits, hobj⟩ := Ia.hok a _ ha
  have hl : sa.heap.IsList a its.toArray := ⟨_, hobj, rfl, _, rfl⟩
  have ksz : ∀ b o, sa.heap.get? b = some o → b ≠ sa.heap.objs.size := fun b o e => Nat.ne_of_lt (Heap.lt_size e)
  have kp : ∀ b o, sa.heap.get? b = some o → (sa.heap.push { cls := .type "list_iterator", data := .fields #[.ref a, .int 0 0] }).get? b = some o := fun b o e => Heap.get?_push_of_some _ e
  refine ⟨"list", hl.typeIs, by decide, wpAny_pyIter_list hl ?_⟩
  refine ⟨sa.heap.objs.size, Ha, xs, fun j h => h.IsListIter sa.heap.objs.size a j ∧ h.IsList a its.toArray, rfl, Ia.kept (t' := sa.toks) kp, .inr Ia.sz, Nat.ne_of_gt Ia.lt, fun y c hy => ?_, Ia.hok.fresh (Nat.le_refl _), fun p hp => ?_,
    ⟨⟨_, Heap.get?_push_size _ rfl, rfl, rfl⟩, hl.at fun o e => kp _ o e⟩, ⟨⟨"list_iterator", fun j h q => ?_, close_li, by decide⟩, fun j h h' q hk => ?_, fun A' j x s2 Q' E' hA hx q hQ => ?_, fun A' s2 Q' E' hA q hE => ?_⟩, hq⟩
  · obtain ⟨v, o, ho, _⟩ := Ia.cell y c hy
    exact ksz c o ho
  · exact ksz p.1 _ (Ia.pin p hp).1
  · obtain ⟨⟨o, ho, hc, _⟩, _⟩ := q
    exact ⟨o, ho, hc⟩
  · exact ⟨q.1.at fun o e => hk _ o (.inl rfl) e, q.2.at fun o e => hk _ o (.inr (by rw [ha]; intro z; cases z)) e⟩
  · obtain ⟨q1, q2⟩ := q
    obtain ⟨u, hu, ru⟩ := rits.get hx
    exact li_item q1 q2 (u := u) (by simpa using hu) fun g q1' hs => hQ u g s2.toks ru ⟨q1', q2.at fun o e => hs.extBut _ o (ksz a _ hobj) e⟩ fun b o hb eb => hs.extBut b o hb eb
  · obtain ⟨q1, q2⟩ := q
    have hnone : its.toArray[xs.length]? = none := by
      have e := rits.length
      have e2 : its[xs.length]? = none := List.getElem?_eq_none_iff.mpr (by omega)
      simpa using e2
    exact li_end hA q1 q2 hnone fun e g hS hk => hE e g s2.toks hS fun b o hb eb => hk b o hb eb
end
section
variable {P : Program} {w : World} {K : PySem.W.Frag} {mg : Str → Option Value} {base : Heap}
theorem not2 {a b : Prop} [Decidable a] [Decidable b] (ha : a) (hb : b) : (!(decide a && decide b)) = false := by
  rw [decide_eq_true ha, decide_eq_true hb]
  rfl
/-- these values are tuples of these pairs -/
def Tups (H : Hp) (xs : List V) (ps : List PR) : Prop := ∃ as, xs = as.map V.ref ∧ Paired (TupP H) as ps
theorem runsFrom_len (ps : List PR) (b : Int) : (runsFrom ps b).length ≤ ps.length := by
  have h := shared_len ps [(b, none)]
  unfold runsFrom runsOf
  rw [List.length_map]
  simp only [List.length_cons, List.length_nil, Nat.zero_add, Nat.mul_one] at h
  exact h
def sp_runs_from (K : PySem.W.Frag) : SpG := fun vs H Q _ => ∃ (r : Addr) (b : Int) (ps : List PR), vs = [.ref r, .int b] ∧ RoomAt K H r ps ∧ 0 ≤ b ∧ b ≤ 10 ^ 50 ∧ ps.length ≤ 5000 ∧ ∀ H' xs, Same H H' → Tups H' xs (runsFrom ps b) → Q xs H'
theorem sc_runs_from : GScope ["self", "block"] ["self", "block"] (defScope S_Room_runs_from) := ⟨rfl, rfl, rfl, by decide +kernel, rfl, by decide +kernel, by decide +kernel⟩
theorem ok_runs_from (F : Fx K mg) : ∃ fd, GFn P w K mg base 3 (He.ma K (He.ga K "Room") "runs_from") fd ["self", "block"] (sp_runs_from K) ∧ Binds K fd ["self", "block"] [] := by
  obtain ⟨fd, F'⟩ := F.f_Room_runs_from
  have hbi : Binds K fd ["self", "block"] [] := F'.binds fun _ _ _ _ _ _ us hl => match us, hl with | [_, _], _ => rfl
  obtain ⟨oc, od, kV, doc, pm, an, cdv, ct, osl, rfl, lk, hcd⟩ := F'.ex
  obtain ⟨tB, gB⟩ := F.i_MOST_BLOCK
  refine ⟨_, gfn_of lk hcd sc_runs_from (fun vs H Q E h => ?_) (fun A outer s H vs Q E pn hr h => ?_), hbi⟩
  · obtain ⟨r, b, ps, rfl, _⟩ := h
    rfl
  · obtain ⟨r, b, ps, rfl, ⟨l, ⟨dx, hx⟩, hl⟩, b0, b1, hn, k⟩ := h
    refine ⟨_, gss_cons (gs_ps (ps_if (pt_not (pt_val (pe_cl (ok_is_integer F) (hr.mono (by decide)) (by rfl) F.g_is_integer F.p_is_integer (pa_cons (pv 1) (pa_cons pe_int (pa_cons (pe_glob (v := .int (10 ^ 50)) (by rfl) gB ⟨_, rfl⟩) pa_nil)))))) (pss_one ps_never) pss_nil))
      (gss_cons (gs_yieldFrom (yf_lst (pe_cl (ok_runs_of F) (hr.mono (by decide)) (by rfl) F.g_runs_of F.p_runs_of (pa_cons (pe_cl (ok_shared F) hr (by rfl) F.g_shared F.p_shared (pa_cons (pe_fld (pv 0) rfl) (pa_cons (pe_lst (pa_cons (pe_tup (pa_cons (pv 1) (pa_cons pe_non pa_nil))) pa_nil)) pa_nil))) pa_nil))) hr.hd) gss_nil), ?_⟩
    refine ⟨_, rfl, _, _, _, rfl, _, rfl, ifF (not2 b0 b1) ?_⟩
    refine ⟨_, rfl, r, _, dx, _, _, rfl, hx, F.c_Room, F.n_Room_pairs, rfl, _, rfl, by show 2 ≤ sizeLine; decide, fun t ht => ⟨by show 1 ≤ sizeLine; decide, fun m hm => ?_⟩⟩
    have s1 : Same H (upd H t (.tup [.int b, .non])) := same_upd ht
    have s2 : Same H (upd (upd H t (.tup [.int b, .non])) m (.lst [.ref t])) := same_trans s1 (same_upd hm)
    have ml : PL (upd (upd H t (.tup [.int b, .non])) m (.lst [.ref t])) m [(b, none)] := ⟨[t], upd_same, .cons (by
      have q : upd H t (.tup [.int b, .non]) t = some (.tup [.int b, .non]) := upd_same
      show upd _ m _ t = _
      rw [upd_ne (ne_of_none q hm)]
      exact q) .nil⟩
    refine ⟨l, m, ps, [(b, none)], rfl, hl.same s2, ml, by simp; omega, fun H2 l2 u2 => ⟨l2, _, rfl, u2.at_, ?_, fun H3 l3 u3 => ?_⟩⟩
    · have h := shared_len ps [(b, none)]
      simp only [List.length_cons, List.length_nil, Nat.zero_add, Nat.mul_one] at h
      omega
    · obtain ⟨as, h3⟩ := u3.at_
      refine ⟨l3, _, rfl, h3.lst, ?_, k _ _ (same_trans s2 (same_trans u2.same u3.same)) ⟨as, rfl, h3.tup⟩⟩
      have e : (runsFrom ps b).length ≤ ps.length := runsFrom_len ps b
      have e2 : as.length = (runsFrom ps b).length := h3.len
      have e3 : sizeLine = 16777216 := rfl
      rw [List.length_map]
      show 0 + _ ≤ _
      omega
end
end K36
/-! ## KD8 -/
namespace K36
open PySem PySem.Spec PyProof.Rows L2
/-! ### keyword-only parameters, all of them given -/
def OkK (P : Program) (w : World) (K : PySem.W.Frag) (mg : Str → Option Value) (base : Heap) (k : Nat) (f : Addr) (ps : List Str) (n : Nat) (ks : List Str) (sp : Sp) : Prop :=
  ∃ fd, FnOk P w K mg base CX0 k f fd ps sp ∧ KBn K fd ps n ks (fun us ws => us ++ ws) (fun vs zs => vs ++ zs)
section
variable {P : Program} {w : World} {K : PySem.W.Frag} {mg : Str → Option Value} {base : Heap}
theorem okk {x qual : Str} {st : Stmt} {f : Addr} {N ps ks : List Str} {k n : Nat} {sp : Sp} (F : ∃ fd, Fun K x qual st f fd) (S : FnScope N ps (defScope st))
    (hb : ∀ (kV doc pm : Value) (an : Option Addr) (cdv ct : Value) (us ws : List Value), us.length = n → ws.length = ks.length → bindArgs (PySem.W.fnOf x qual (defArgs st) (defBody st) (defScope st) .none kV doc pm an cdv ct) ⟨us, ks.zip ws⟩ = pure (ps.zip (us ++ ws)))
    (len : ∀ vs H Q E, sp vs H Q E → vs.length = ps.length)
    (hbody : ∀ (cdv : Value) (A : Around) (outer : List Env) (s : Shared) (H : Hp) (vs : List V) (Q : VK) (E : XK), Room k (A.deeper (envOfC qual (defScope st) s.heap.objs.size f cdv)) → sp vs H Q E →
      ∃ t, PSs (cxOf CX0 P w K mg base N qual (defScope st) f cdv A outer s H E).nox (defBody st) t ∧ t { nx := fun _ H' => Q .non H', rt := Q } (start N vs) H) : OkK P w K mg base (k + 1) f ps n ks sp := by
  obtain ⟨fd, F⟩ := F
  have G := F.ok S len hbody
  obtain ⟨oc, od, kV, doc, pm, an, cdv, ct, osl, rfl, lk, hcd⟩ := F.ex
  exact ⟨_, G, ⟨fun s us ws _ l1 l2 => BindsTo.of_eq (hb kV doc pm an cdv ct us ws l1 l2), fun r1 r2 => r1.append r2⟩⟩
end
section
variable {X : Cx} {k n : Nat} {f C : Addr} {ps ks : List Str} {sp : Sp} {x : Str} {p pos : Pos} {e : Expr} {es : List Expr} {kws : List Keyword} {t tk : TA}
theorem pe_ck (F : OkK X.prog X.w X.K X.mg X.base k f ps n ks sp) (hr : Room k X.A) (hg : Gl X x) (hm : X.mg x = some (.ref f)) (hk : PySem.W.keepIn X.K (.ref f) = true) (ha : PA X (e :: es) t) (hkw : PK X kws tk)
    (hall : (backToKw pos (keywordEach kws X.env)).all (·.1.isSome) = true := by rfl) (hks : (backToKw pos (keywordEach kws X.env)).filterMap (·.1) = ks := by rfl) (hdb : (x == ("__debug__" : Str)) = false := by decide)
    (he : starEach (e :: es) X.env = (false, eval e X.env) :: starEach es X.env := by rfl) (hpl : ((backTo pos (starEach (e :: es) X.env)).any (·.1) || (backToKw pos (keywordEach kws X.env)).any (·.1.isNone)) = false := by rfl) :
    PE X (.Call (.Name x p) (e :: es) kws pos) (tCallN n ks.length sp (fun vs zs => vs ++ zs) E0 t tk) :=
  let ⟨_, G, b⟩ := F
  pe_callN G hr hg hm hk b pass0 ha hkw hall hks hdb he hpl
theorem pe_mkK (M : Mk X.K C f) (F : OkK X.prog X.w X.K X.mg X.base k f ps (n + 1) ks sp) (hr : Room (k + 1) X.A) (hg : Gl X x) (hm : X.mg x = some (.ref C)) (ha : PA X (e :: es) t) (hkw : PK X kws tk)
    (hall : (backToKw pos (keywordEach kws X.env)).all (·.1.isSome) = true := by rfl) (hks : (backToKw pos (keywordEach kws X.env)).filterMap (·.1) = ks := by rfl) (hdb : (x == ("__debug__" : Str)) = false := by decide)
    (he : starEach (e :: es) X.env = (false, eval e X.env) :: starEach es X.env := by rfl) (hpl : ((backTo pos (starEach (e :: es) X.env)).any (·.1) || (backToKw pos (keywordEach kws X.env)).any (·.1.isNone)) = false := by rfl) :
    PE X (.Call (.Name x p) (e :: es) kws pos) (tMakeK C n ks.length sp (fun vs zs => vs ++ zs) E0 t tk) :=
  let ⟨_, G, b⟩ := F
  pe_makeK M G hr hg hm b pass0 ha hkw hall hks hdb he hpl
end
/-! ### rules -/
def RuleOk (ru : Str) : Prop := ru = "behind" ∨ ru = "first" ∨ ru = "best" ∨ ru = "next"
def parOf (ru : Str) (b : BookP) : Par := ⟨decide (ru = "best"), decide (ru = "next"), decide (ru = "behind"), b⟩
/-- an old tuple, appended to the list at l -/
theorem PLa.push {H : Hp} {l t : Addr} {as : List Addr} {ps : List PR} {p : PR} (h : PLa H l as ps) (ht : TupP H t p) : PLa (upd H l (.lst (as.map V.ref ++ [.ref t]))) l (as ++ [t]) (ps ++ [p]) := by
  have nl : ∀ {a q}, TupP H a q → TupP (upd H l (.lst (as.map V.ref ++ [.ref t]))) a q := fun {a q} e => by
    unfold TupP at e ⊢
    rw [upd_ne (ne_of e h.lst (by intro z; cases z))]
    exact e
  exact ⟨by rw [upd_same, List.map_append]; rfl, pr_snoc (pr_map h.tup fun _ _ => nl) (nl ht)⟩
theorem Tups.list {H : Hp} {l : Addr} {xs : List V} {ps : List PR} (h : Tups H xs ps) (hl : H l = none) : PL (upd H l (.lst xs)) l ps := by
  obtain ⟨as, rfl, ht⟩ := h
  exact ⟨as, upd_same, pr_map ht fun a p e => e.keep (extN_same (same_upd hl))⟩
theorem filter_take {α : Type} {q : α → Bool} {l : List α} {i : Nat} {a : α} (h : l[i]? = some a) : (l.take (i + 1)).filter q = (l.take i).filter q ++ if q a = true then [a] else [] := by
  rw [take_at h, List.filter_append]
  cases e : q a with
  | true => rw [List.filter_cons_of_pos e]; rfl
  | false => rw [List.filter_cons_of_neg (by rw [e]; decide)]; rfl
theorem nostop0 {K : PySem.W.Frag} : NoStop K E0 := fun _ _ _ h => h.elim
section
variable {P : Program} {w : World} {K : PySem.W.Frag} {mg : Str → Option Value} {base : Heap}
/-! ### place_by_rule -/
def sp_place (K : PySem.W.Frag) : Sp := fun vs H Q _ => ∃ (ru : Str) (r : Addr) (ps : List PR) (m b a : Int) (bk : BookP), vs = [.str ru, .ref r, .int m, .int b, .int a] ∧ RuleOk ru ∧ RoomAt K H r ps ∧ ps.length ≤ 5000 ∧ 0 ≤ b ∧ b ≤ 10 ^ 40 ∧ 0 ≤ a ∧ a ≤ 10 ^ 40 ∧
  ∀ H', Same H H' → Q (oV (placeBy (parOf ru bk).best (parOf ru bk).next (parOf ru bk).beh ps m b a)) H'
theorem sc_place : FnScope ["rule", "free", "many", "behind", "after", "found", "run"] ["rule", "free", "many", "behind", "after"] (defScope S_place_by_rule) := ⟨rfl, rfl, rfl, by decide +kernel, rfl, by decide +kernel, by decide +kernel⟩
theorem ok_place (F : Fx K mg) : OkD P w K mg base 7 (He.ga K "place_by_rule") ["rule", "free", "many", "behind", "after"] (sp_place K) := by
  refine okd F.f_place_by_rule sc_place (fun _ _ _ _ _ _ us hl => match us, hl with | [_, _, _, _, _], _ => rfl) (fun vs H Q E h => ?_) (fun cdv A outer s H vs Q E hr h => ?_)
  · obtain ⟨ru, r, ps, m, b, a, bk, rfl, _⟩ := h
    rfl
  · obtain ⟨ru, r, ps, m, b, a, bk, rfl, hru, hR, hn, b0, b1, a0, a1, k⟩ := h
    obtain ⟨gfd, G, gb⟩ := ok_runs_from (P := P) (w := w) (base := base) F
    have hRL := hR
    obtain ⟨l, ⟨dx, hx⟩, hl⟩ := hRL
    refine ⟨_, pss_cons (ps_if (pt_cmpR op_eq (pv 0) pe_str (nomark _)) (pss_one (ps_ret (pe_cl (ok_best_enough F) (hr.mono (by decide)) (by rfl) F.g_best_enough F.p_best_enough (pa_cons (pe_me0 (pv 1) F.c_Room F.m_Room_runs (ok_Room_runs F) (hr.mono (by decide))) (pa_cons (pv 2) pa_nil))))) pss_nil)
      (pss_cons (ps_set (i := 5) sc_place.nd rfl (Or.inl rfl) pe_non)
      (pss_cons (ps_if (pt_cmpR op_eq (pv 0) pe_str (nomark _)) (pss_one (ps_set (i := 5) sc_place.nd rfl (Or.inl rfl) (pe_cl (ok_first_enough F) (hr.mono (by decide)) (by rfl) F.g_first_enough F.p_first_enough
          (pa_cons (pe_listG (pgen_meth (pv 1) F.c_Room F.m_Room_runs_from G (hr.mono (by decide)) gb .nil (pa_cons (pv 4) pa_nil)) passL nostop0 hr (by rfl) F.b_list (by decide +kernel)) (pa_cons (pv 2) pa_nil))))) pss_nil)
      (pss_cons (ps_if (pt_cmpR op_eq (pv 0) pe_str (nomark _)) (pss_one (ps_set (i := 5) sc_place.nd rfl (Or.inl rfl) (pe_cl (ok_first_enough F) (hr.mono (by decide)) (by rfl) F.g_first_enough F.p_first_enough
          (pa_cons (pe_lc (own := [("run", 6)]) (g := gName 6) rfl sc_place.nd (pi_list (pe_listG (pgen_meth (pv 1) F.c_Room F.m_Room_runs_from G (hr.mono (by decide)) gb .nil (pa_cons (pv 3) pa_nil)) passL nostop0 hr (by rfl) F.b_list (by decide +kernel)))
            (blkOk_by (own := [("run", 6)]) (N := ["rule", "free", "many", "behind", "after", "found", "run"]) (sc := defScope S_place_by_rule) (by decide +kernel)) (fun _ _ _ _ _ => pg_name (i := 6) sc_place.nd rfl (Or.inl rfl))
            (fun _ _ _ _ _ => pts_one (pt_cmpR op_eq (pe_ix (show IxR _ (rIxT K) from ix_tup) (pv 6) pe_int (fun _ _ => rfl)) (pv 3) (nomark _))) (fun _ _ _ _ _ => pv 6)) (pa_cons (pv 2) pa_nil))))) pss_nil)
      (pss_cons (ps_if (pt_cmp (pc_isN (pv 5)) rfl) (pss_one (ps_ret (pe_cl (ok_first_enough F) (hr.mono (by decide)) (by rfl) F.g_first_enough F.p_first_enough (pa_cons (pe_me0 (pv 1) F.c_Room F.m_Room_runs (ok_Room_runs F) (hr.mono (by decide))) (pa_cons (pv 2) pa_nil))))) pss_nil)
      (pss_one (ps_ret (pv 5))))))), ?_⟩
    rcases hru with rfl | rfl | rfl | rfl
    · -- behind
      have k' : ∀ H', Same H H' → Q (oV (match firstEnough ((runsFrom ps b).filter fun r => decide (r.1 = b)) m with
        | none => firstEnough (runsOf ps) m
        | some x => some x)) H' := k
      refine ⟨_, rfl, rfl, _, rfl, ifF (by decide +kernel) ?_⟩
      refine ⟨_, rfl, rfl, _, rfl, ifF (by decide +kernel) ?_⟩
      refine ⟨_, rfl, rfl, _, rfl, ifT (by decide +kernel) ?_⟩
      refine ⟨_, rfl, r, dx, _, rfl, hx, rfl, _, rfl, r, b, ps, rfl, hR, b0, by omega, hn, fun H1 xs s1 t1 p hp => ?_⟩
      have s2 : Same H (upd H1 p (.lst xs)) := same_trans s1 (same_upd hp)
      obtain ⟨as, ha⟩ := t1.list hp
      generalize hZ : upd H1 p (.lst xs) = Z at s2 ha
      refine ⟨p, rfl, ⟨_, ha.sq⟩, fun D hD => ?_⟩
      have hn2 := runsFrom_len ps b
      refine lc_list (K := K) (a := p) (xs := as.map V.ref) (fun i H' => Same Z H' ∧ PL H' D (((runsFrom ps b).take i).filter fun r => decide (r.1 = b))) ?_ (fun i H' _ q => (ha.keep (extN_same q.1)).sq) (fun i x H' hx2 q => ?_) fun H' q => ?_
      · exact ⟨same_upd hD, [], PLa.nil⟩
      · obtain ⟨s3, ca, hc⟩ := q
        obtain ⟨ta, ⟨p1, p2⟩, rfl, hi, ht⟩ := (ha.keep (extN_same s3)).item hx2
        rw [filter_take hi]
        refine ⟨rfl, _, rfl, ta, _, 0, _, rfl, rfl, SqT.of ht, atI_nat (j := 0) rfl, _, rfl, rfl, ?_⟩
        have es : decide (V.int p1 = V.int b) = decide (p1 = b) := by simp
        rw [es]
        have cl : (((runsFrom ps b).take i).filter fun r => decide (r.1 = b)).length ≤ 5000 := by
          have h1 := List.length_filter_le (fun r : PR => decide (r.1 = b)) ((runsFrom ps b).take i)
          have h2 := take_le (runsFrom ps b) i
          omega
        refine ⟨_, rfl, ifC (fun c => ?_) fun c => ?_⟩
        · rw [if_pos (show decide ((p1, p2).1 = b) = true from c)]
          refine ⟨_, rfl, _, hc.lst, hc.short cl (by decide), fun b' o e => ?_, _, hc.push ht⟩
          rw [upd_ne (ne_of_none e hD)]
          exact s3 b' o e
        · rw [if_neg (show ¬ decide ((p1, p2).1 = b) = true from by rw [show decide ((p1, p2).1 = b) = false from c]; decide), List.append_nil]
          exact ⟨s3, _, hc⟩
      · obtain ⟨s3, hc⟩ := q
        rw [List.length_map, ha.len, List.take_length] at hc
        refine ⟨_, rfl, D, _, m, rfl, hc, ?_⟩
        have s4 := same_trans s2 s3
        cases e : firstEnough ((runsFrom ps b).filter fun r => decide (r.1 = b)) m with
        | none =>
          rw [e] at k'
          refine ⟨_, rfl, _, rfl, ifT rfl ⟨_, rfl, r, dx, _, rfl, s4 _ _ hx, rfl, r, ps, rfl, hR.keep (extN_same s4), by omega, fun H2 q b2 => ?_⟩⟩
          exact ⟨_, rfl, q, _, m, rfl, b2.at_, k' _ (same_trans s4 b2.same)⟩
        | some x =>
          rw [e] at k'
          exact ⟨_, rfl, _, rfl, ifF rfl ⟨_, rfl, k' _ s4⟩⟩
    · -- first
      have k' : ∀ H', Same H H' → Q (oV (firstEnough (runsOf ps) m)) H' := k
      refine ⟨_, rfl, rfl, _, rfl, ifF (by decide +kernel) ?_⟩
      refine ⟨_, rfl, rfl, _, rfl, ifF (by decide +kernel) ?_⟩
      refine ⟨_, rfl, rfl, _, rfl, ifF (by decide +kernel) ?_⟩
      refine ⟨_, rfl, _, rfl, ifT rfl ⟨_, rfl, r, dx, _, rfl, hx, rfl, r, ps, rfl, hR, by omega, fun H2 q b2 => ?_⟩⟩
      exact ⟨_, rfl, q, _, m, rfl, b2.at_, k' _ b2.same⟩
    · -- best
      have k' : ∀ H', Same H H' → Q (oV (bestEnough (runsOf ps) m)) H' := k
      refine ⟨_, rfl, rfl, _, rfl, ifT (by decide +kernel) ⟨_, rfl, r, dx, _, rfl, hx, rfl, r, ps, rfl, hR, by omega, fun H2 q b2 => ?_⟩⟩
      exact ⟨_, rfl, q, _, m, rfl, b2.at_, k' _ b2.same⟩
    · -- next
      have k' : ∀ H', Same H H' → Q (oV (match firstEnough (runsFrom ps a) m with
        | none => firstEnough (runsOf ps) m
        | some x => some x)) H' := k
      refine ⟨_, rfl, rfl, _, rfl, ifF (by decide +kernel) ?_⟩
      refine ⟨_, rfl, rfl, _, rfl, ifT (by decide +kernel) ?_⟩
      refine ⟨_, rfl, r, dx, _, rfl, hx, rfl, _, rfl, r, a, ps, rfl, hR, a0, by omega, hn, fun H1 xs s1 t1 p hp => ?_⟩
      have s2 : Same H (upd H1 p (.lst xs)) := same_trans s1 (same_upd hp)
      refine ⟨_, rfl, p, _, m, rfl, t1.list hp, ?_⟩
      refine ⟨_, rfl, rfl, _, rfl, ifF (by decide +kernel) ?_⟩
      cases e : firstEnough (runsFrom ps a) m with
      | none =>
        rw [e] at k'
        refine ⟨_, rfl, _, rfl, ifT rfl ⟨_, rfl, r, dx, _, rfl, s2 _ _ hx, rfl, r, ps, rfl, hR.keep (extN_same s2), by omega, fun H2 q b2 => ?_⟩⟩
        exact ⟨_, rfl, q, _, m, rfl, b2.at_, k' _ (same_trans s2 b2.same)⟩
      | some x =>
        rw [e] at k'
        exact ⟨_, rfl, _, rfl, ifF rfl ⟨_, rfl, k' _ s2⟩⟩
end
end K36
/-! ## KD9 -/
namespace K36
open PySem PySem.Spec PyProof.Rows L2
theorem rule_in {ru : Str} (h : RuleOk ru) : inV (.str ru) [.str "behind", .str "first", .str "best", .str "next"] = true := by
  rcases h with rfl | rfl | rfl | rfl <;> decide +kernel
section
variable {P : Program} {w : World} {K : PySem.W.Frag} {mg : Str → Option Value} {base : Heap}
/-! ### placed -/
def sp_placed (K : PySem.W.Frag) : Sp := fun vs H Q _ => ∃ (ru : Str) (r : Addr) (ps : List PR) (m b a nd x : Int) (sh : Bool) (bk : BookP), vs = [.str ru, .ref r, .int m, .int b, .int a, .bl sh, .int nd] ∧ RuleOk ru ∧ RoomAt K H r ps ∧ ps.length ≤ 5000 ∧ 1 ≤ m ∧ m ≤ 10 ^ 40 ∧ 0 ≤ b ∧ b ≤ 10 ^ 40 ∧ 0 ≤ a ∧ a ≤ 10 ^ 40 ∧ 1 ≤ nd ∧ nd ≤ m ∧
  placeBy (parOf ru bk).best (parOf ru bk).next (parOf ru bk).beh ps m b a = some x ∧ ∀ H' l, Built H H' l [(x, some m)] → Q (.ref l) H'
theorem sc_placed : FnScope ["rule", "free", "many", "behind", "after", "short", "need", "start"] ["rule", "free", "many", "behind", "after", "short", "need"] (defScope S_placed) := ⟨rfl, rfl, rfl, by decide +kernel, rfl, by decide +kernel, by decide +kernel⟩
theorem ok_placed (F : Fx K mg) : OkK P w K mg base 8 (He.ga K "placed") ["rule", "free", "many", "behind", "after", "short", "need"] 3 ["behind", "after", "short", "need"] (sp_placed K) := by
  refine okk F.f_placed sc_placed (fun _ _ _ _ _ _ us ws h1 h2 => match us, ws, h1, h2 with | [_, _, _], [_, _, _, _], _, _ => rfl) (fun vs H Q E h => ?_) (fun cdv A outer s H vs Q E hr h => ?_)
  · obtain ⟨ru, r, ps, m, b, a, nd, x, sh, bk, rfl, _⟩ := h
    rfl
  · obtain ⟨ru, r, ps, m, b, a, nd, x, sh, bk, rfl, hru, hR, hn, m0, m1, b0, b1, a0, a1, n0, n1, hx, k⟩ := h
    obtain ⟨tM, gM⟩ := F.i_MOST
    refine ⟨_, pss_cons (ps_if (pw_or (pt_not (pt_val (pe_isi (pv 0) (by rfl) F.b_isinstance (by rfl) F.b_str boot_str))) (pw_or1 (pt_cmpR op_notIn_seq (pv 0) (pe_glob (v := .ref (He.ga K "RULES")) (by rfl) F.g_RULES rfl) (by rfl)))).pt (pss_one ps_never) pss_nil)
      (pss_cons (ps_expr (pe_cl (ok_check_integer F) (hr.mono (by decide)) (by rfl) F.g_check_integer F.p_check_integer (pa_cons (pv 2) (pa_cons pe_int (pa_cons (pe_glob (v := .int (10 ^ 40)) (by rfl) gM ⟨_, rfl⟩) pa_nil)))))
      (pss_cons (ps_expr (pe_cl (ok_check_integer F) (hr.mono (by decide)) (by rfl) F.g_check_integer F.p_check_integer (pa_cons (pv 3) (pa_cons pe_int (pa_cons (pe_glob (v := .int (10 ^ 40)) (by rfl) gM ⟨_, rfl⟩) pa_nil)))))
      (pss_cons (ps_expr (pe_cl (ok_check_integer F) (hr.mono (by decide)) (by rfl) F.g_check_integer F.p_check_integer (pa_cons (pv 4) (pa_cons pe_int (pa_cons (pe_glob (v := .int (10 ^ 40)) (by rfl) gM ⟨_, rfl⟩) pa_nil)))))
      (pss_cons (ps_expr (pe_cl (ok_check_integer F) (hr.mono (by decide)) (by rfl) F.g_check_integer F.p_check_integer (pa_cons (pv 6) (pa_cons pe_int (pa_cons (pv 2) pa_nil)))))
      (pss_cons (ps_set (i := 7) sc_placed.nd rfl (Or.inl rfl) (pe_cl (ok_place F) hr (by rfl) F.g_place_by_rule F.p_place_by_rule (pa_cons (pv 0) (pa_cons (pv 1) (pa_cons (pv 2) (pa_cons (pv 3) (pa_cons (pv 4) pa_nil)))))))
      (pss_cons (ps_if (pt_cmp (pc_notN (pv 7)) rfl) (pss_one (ps_ret (pe_lst (pa_cons (pe_tup (pa_cons (pv 7) (pa_cons (pv 2) pa_nil))) pa_nil)))) pss_nil) pss_never)))))), ?_⟩
    refine ⟨_, rfl, _, _, _, _, true, rfl, .ty _, .base (.str _), kit_ty (by decide +kernel), true, rfl, ifF rfl ?_⟩
    refine ⟨_, rfl, _, _, rfl, .inr (F.x_rules H), rfl, rfl, _, rfl, ifF (by rw [if_pos rfl, rule_in hru]; rfl) ?_⟩
    refine ⟨_, rfl, _, _, _, rfl, m0, m1, _, rfl, _, _, _, rfl, b0, b1, _, rfl, _, _, _, rfl, a0, a1, _, rfl, _, rfl, _, _, _, rfl, n0, n1, ?_⟩
    refine ⟨_, rfl, _, rfl, _, rfl, _, rfl, _, rfl, ru, r, ps, m, b, a, bk, rfl, hru, hR, hn, b0, b1, a0, a1, fun H1 s1 => ?_⟩
    rw [hx]
    refine ⟨_, rfl, _, rfl, ifT rfl ⟨_, rfl, _, rfl, by show 2 ≤ sizeLine; decide, fun t ht => ⟨by show 1 ≤ sizeLine; decide, fun l hl => k _ l ⟨same_trans s1 (same_trans (same_upd ht) (same_upd hl)), none_back s1 (none_back (same_upd ht) hl), [t], upd_same, .cons ?_ .nil⟩⟩⟩⟩
    have q : upd H1 t (.tup [.int x, .int m]) t = some (.tup [.int x, .int m]) := upd_same
    show upd _ l _ t = _
    rw [upd_ne (ne_of_none q hl)]
    exact q
/-! ### checks -/
def sp_is_share : Sp := fun vs H Q _ => ∃ (a : Addr) (t b : Int), vs = [.ref a] ∧ H a = some (.tup [.int t, .int b]) ∧ 1 ≤ t ∧ t ≤ 100 ∧ 1 ≤ b ∧ b ≤ 100 ∧ Q (.bl true) H
theorem sc_is_share : FnScope ["thing"] ["thing"] (defScope S_is_share) := ⟨rfl, rfl, rfl, by decide +kernel, rfl, by decide +kernel, by decide +kernel⟩
theorem and2 {a b : Prop} [Decidable a] [Decidable b] (ha : a) (hb : b) : (decide a && decide b) = true := by
  rw [decide_eq_true ha, decide_eq_true hb]
  rfl
theorem ok_is_share (F : Fx K mg) : OkD P w K mg base 2 (He.ga K "is_share") ["thing"] sp_is_share := by
  refine okd F.f_is_share sc_is_share (fun _ _ _ _ _ _ us hl => match us, hl with | [_], _ => rfl) (fun vs H Q E h => ?_) (fun cdv A outer s H vs Q E hr h => ?_)
  · obtain ⟨a, t, b, rfl, _⟩ := h
    rfl
  · obtain ⟨a, t, b, rfl, ht, t1, t2, b1, b2, k⟩ := h
    obtain ⟨tB, gB⟩ := F.i_MOST_SHARE
    have s1 : SqT K H a [.int t, .int b] := SqT.of ht
    refine ⟨_, pss_cons (ps_if (pw_or (pt_not (pt_val (pe_isi (T := "tuple") (pv 0) (by rfl) F.b_isinstance (by rfl) F.b_tuple (by decide +kernel)))) (pw_or1 (pt_cmpR op_ne (pe_callB call_len (by rfl) F.b_len PySem.boot_len (pa_cons (pv 0) pa_nil)) pe_int (nomark _)))).pt (pss_one ps_never) pss_nil)
      (pss_one (ps_ret (pe_and (pe_cl (ok_is_integer F) hr (by rfl) F.g_is_integer F.p_is_integer (pa_cons (pe_ix ix_tup (pv 0) pe_int (fun _ _ => rfl)) (pa_cons pe_int (pa_cons (pe_glob (v := .int 100) (by rfl) gB ⟨_, rfl⟩) pa_nil))))
        (pe_one (pe_cl (ok_is_integer F) hr (by rfl) F.g_is_integer F.p_is_integer (pa_cons (pe_ix ix_tup (pv 0) pe_int (fun _ _ => rfl)) (pa_cons pe_int (pa_cons (pe_glob (v := .int 100) (by rfl) gB ⟨_, rfl⟩) pa_nil)))))))), ?_⟩
    refine ⟨_, rfl, _, _, _, _, true, rfl, .ty _, .base (.tup ht), kit_ty (by decide +kernel), true, rfl, ifF rfl ?_⟩
    refine ⟨_, rfl, _, 2, rfl, .inr ⟨_, s1, rfl⟩, rfl, _, rfl, ifF rfl ?_⟩
    refine ⟨_, rfl, a, _, 0, _, rfl, rfl, s1, atI_nat (j := 0) rfl, _, _, _, rfl, _, rfl, ifT (and2 t1 t2) ?_⟩
    refine ⟨_, rfl, a, _, 1, _, rfl, rfl, s1, atI_nat (j := 1) rfl, _, _, _, rfl, ?_⟩
    rw [and2 b1 b2]
    exact k
/-- numbers of a book -/
structure BookN (b : BookP) : Prop where
  f1 : 1 ≤ b.first
  fr : b.first ≤ b.roof
  r : b.roof ≤ 10 ^ 30
  t1 : 1 ≤ b.top
  t2 : b.top ≤ 100
  b1 : 1 ≤ b.bottom
  b2 : b.bottom ≤ 100
theorem BookOk.n {b : BookP} (h : BookOk b) : BookN b := ⟨h.f1, h.fr, by have := h.r; omega, h.t1, h.t2, h.b1, h.b2⟩
def sp_check_parts : Sp := fun vs H Q _ => ∃ (b : BookP) (sh : Addr) (v : V), vs = [.int b.first, .int b.roof, .ref sh, v] ∧ BookN b ∧ H sh = some (.tup [.int b.top, .int b.bottom]) ∧ Q .non H
theorem sc_check_parts : FnScope ["first", "roof", "share", "ahead"] ["first", "roof", "share", "ahead"] (defScope S_check_parts) := ⟨rfl, rfl, rfl, by decide +kernel, rfl, by decide +kernel, by decide +kernel⟩
theorem ok_check_parts (F : Fx K mg) : OkD P w K mg base 3 (He.ga K "check_parts") ["first", "roof", "share", "ahead"] sp_check_parts := by
  refine okd F.f_check_parts sc_check_parts (fun _ _ _ _ _ _ us hl => match us, hl with | [_, _, _, _], _ => rfl) (fun vs H Q E h => ?_) (fun cdv A outer s H vs Q E hr h => ?_)
  · obtain ⟨b, sh, v, rfl, _⟩ := h
    rfl
  · obtain ⟨b, sh, v, rfl, hb, hs, k⟩ := h
    obtain ⟨tB, gB⟩ := F.i_MOST_GROWTH
    have h1 := hb.f1
    have h2 := hb.fr
    have h3 := hb.r
    refine ⟨_, pss_cons (ps_if (pt_not (pt_val (pe_cl (ok_is_integer F) (hr.mono (by decide)) (by rfl) F.g_is_integer F.p_is_integer (pa_cons (pv 0) (pa_cons pe_int (pa_cons (pe_glob (v := .int (10 ^ 30)) (by rfl) gB ⟨_, rfl⟩) pa_nil)))))) (pss_one ps_never) pss_nil)
      (pss_cons (ps_if (pw_or (pt_not (pt_val (pe_cl (ok_is_integer F) (hr.mono (by decide)) (by rfl) F.g_is_integer F.p_is_integer (pa_cons (pv 1) (pa_cons pe_int (pa_cons (pe_glob (v := .int (10 ^ 30)) (by rfl) gB ⟨_, rfl⟩) pa_nil)))))) (pw_or1 (pt_cmpR op_lt (pv 1) (pv 0) (nomark _)))).pt (pss_one ps_never) pss_nil)
      (pss_one (ps_if (pt_not (pt_val (pe_cl (ok_is_share F) hr (by rfl) F.g_is_share F.p_is_share (pa_cons (pv 2) pa_nil)))) (pss_one ps_never) pss_nil))), ?_⟩
    refine ⟨_, rfl, _, _, _, rfl, _, rfl, ifF (not2 h1 (Int.le_trans h2 h3)) ?_⟩
    refine ⟨_, rfl, _, _, _, rfl, _, rfl, ifF (not2 (Int.le_trans h1 h2) h3) ?_⟩
    refine ⟨_, rfl, _, rfl, _, _, rfl, rfl, _, rfl, ifF (decide_eq_false (by omega)) ?_⟩
    exact ⟨_, rfl, sh, _, _, rfl, hs, hb.t1, hb.t2, hb.b1, hb.b2, _, rfl, ifF rfl k⟩
/-! ### books -/
abbrev bookF (b : BookP) (sh : Addr) : List (Str × V) := [("own_first", .int b.first), ("own_roof", .int b.roof), ("own_share", .ref sh)]
/-- a book at bk: its share stands at sh -/
def BookL (K : PySem.W.Frag) (H : Hp) (bk sh : Addr) (b : BookP) : Prop := (∃ dx, H bk = some (.ins (He.ga K "Book") dx (bookF b sh))) ∧ H sh = some (.tup [.int b.top, .int b.bottom])
def BookAt (K : PySem.W.Frag) (H : Hp) (bk : Addr) (b : BookP) : Prop := ∃ sh, BookL K H bk sh b
theorem BookAt.keep {K : PySem.W.Frag} {H H' : Hp} {bk : Addr} {b : BookP} (e : LamX.ExtN H H') (h : BookAt K H bk b) : BookAt K H' bk b :=
  let ⟨sh, ⟨dx, a⟩, c⟩ := h
  ⟨sh, ⟨dx, e _ _ a fun ps z => by cases z⟩, e _ _ c fun ps z => by cases z⟩
def sp_Book_init (K : PySem.W.Frag) : Sp := fun vs H Q _ => ∃ (x dx sh : Addr) (b : BookP), vs = [.ref x, .int b.first, .int b.roof, .ref sh] ∧ BookN b ∧ H x = some (.ins (He.ga K "Book") dx []) ∧ H sh = some (.tup [.int b.top, .int b.bottom]) ∧
  (∀ H', (∀ c, c ≠ x → H' c = H c) → H' x = some (.ins (He.ga K "Book") dx (bookF b sh)) → Q .non H')
theorem sc_Book_init : FnScope ["self", "first", "roof", "share"] ["self", "first", "roof", "share"] (defScope S_Book_init) := ⟨rfl, rfl, rfl, by decide +kernel, rfl, by decide +kernel, by decide +kernel⟩
theorem ok_Book_init (F : Fx K mg) : OkK P w K mg base 4 (He.ma K (He.ga K "Book") "__init__") ["self", "first", "roof", "share"] 3 ["share"] (sp_Book_init K) := by
  refine okk F.f_Book_init sc_Book_init (fun _ _ _ _ _ _ us ws h1 h2 => match us, ws, h1, h2 with | [_, _, _], [_], _, _ => rfl) (fun vs H Q E h => ?_) (fun cdv A outer s H vs Q E hr h => ?_)
  · obtain ⟨x, dx, sh, b, rfl, _⟩ := h
    rfl
  · obtain ⟨x, dx, sh, b, rfl, hb, hx, hs, k⟩ := h
    refine ⟨_, pss_cons (ps_expr (pe_cl (ok_check_parts F) hr (by rfl) F.g_check_parts F.p_check_parts (pa_cons (pv 1) (pa_cons (pv 2) (pa_cons (pv 3) (pa_cons pe_str pa_nil))))))
      (pss_cons (ps_fld (pv 0) (pv 1) rfl) (pss_cons (ps_fld (pv 0) (pv 2) rfl) (pss_one (ps_fld (pv 0) (pv 3) rfl)))), ?_⟩
    refine ⟨_, rfl, _, rfl, _, rfl, b, sh, _, rfl, hb, hs, ?_⟩
    refine ⟨_, rfl, _, rfl, x, _, dx, _, rfl, hx, F.c_Book, F.n_Book_own_first, by decide, ?_⟩
    refine ⟨_, rfl, _, rfl, x, _, dx, _, rfl, upd_same, F.c_Book, F.n_Book_own_roof, by show 1 < 1000; decide, ?_⟩
    refine ⟨_, rfl, _, rfl, x, _, dx, _, rfl, upd_same, F.c_Book, F.n_Book_own_share, by show 2 < 1000; decide, ?_⟩
    exact k _ (fun c n => by rw [upd_ne n, upd_ne n, upd_ne n]) upd_same
def sp_part_of : Sp := fun vs H Q _ => ∃ (a : Addr) (b : BookP) (n : Int), vs = [.ref a, .int n] ∧ BookN b ∧ H a = some (.tup [.int b.top, .int b.bottom]) ∧ Q (.int (partOf b n)) H
theorem sc_part_of : FnScope ["share", "hold", "top", "bottom"] ["share", "hold"] (defScope S_part_of) := ⟨rfl, rfl, rfl, by decide +kernel, rfl, by decide +kernel, by decide +kernel⟩
theorem ok_part_of (F : Fx K mg) : OkD P w K mg base 1 (He.ga K "part_of") ["share", "hold"] sp_part_of := by
  refine okd F.f_part_of sc_part_of (fun _ _ _ _ _ _ us hl => match us, hl with | [_, _], _ => rfl) (fun vs H Q E h => ?_) (fun cdv A outer s H vs Q E hr h => ?_)
  · obtain ⟨a, b, n, rfl, _⟩ := h
    rfl
  · obtain ⟨a, b, n, rfl, hb, hs, k⟩ := h
    have h1 := hb.t1
    have h2 := hb.t2
    have h3 := hb.b1
    have h4 := hb.b2
    refine ⟨_, pss_cons (ps_asg (pv 0) (pg_tup (by rfl) (pgs_cons (pg_name (i := 2) sc_part_of.nd rfl (.inl rfl)) (pgs_cons (pg_name (i := 3) sc_part_of.nd rfl (.inl rfl)) pgs_nil))))
      (pss_one (ps_ret (pe_un un_neg (pe_op op_fdiv (pe_op op_mul (pe_un un_neg (pv 1)) (pv 2)) (pv 3))))), ?_⟩
    refine ⟨_, rfl, a, _, rfl, SqT.of hs, rfl, _, _, rfl, _, _, rfl, rfl, ?_⟩
    exact ⟨_, rfl, _, rfl, _, rfl, _, _, rfl, rfl, .inr ⟨by omega, by omega⟩, _, rfl, _, _, rfl, rfl, ⟨by omega, by omega⟩, _, rfl, k⟩
def sp_given (K : PySem.W.Frag) : Sp := fun vs H Q _ => ∃ (bk : Addr) (b : BookP) (n : Int), vs = [.ref bk, .int n] ∧ BookN b ∧ BookAt K H bk b ∧ Q (.int (givenF b n)) H
theorem sc_given : FnScope ["self", "hold", "many"] ["self", "hold"] (defScope S_Book_given) := ⟨rfl, rfl, rfl, by decide +kernel, rfl, by decide +kernel, by decide +kernel⟩
theorem ok_given (F : Fx K mg) : OkD P w K mg base 2 (He.ma K (He.ga K "Book") "given") ["self", "hold"] (sp_given K) := by
  refine okd F.f_Book_given sc_given (fun _ _ _ _ _ _ us hl => match us, hl with | [_, _], _ => rfl) (fun vs H Q E h => ?_) (fun cdv A outer s H vs Q E hr h => ?_)
  · obtain ⟨bk, b, n, rfl, _⟩ := h
    rfl
  · obtain ⟨bk, b, n, rfl, hb, ⟨sh, ⟨dx, hx⟩, hs⟩, k⟩ := h
    refine ⟨_, pss_cons (ps_set (i := 2) sc_given.nd rfl (Or.inl rfl) (pe_cl (ok_part_of F) hr (by rfl) F.g_part_of F.p_part_of (pa_cons (pe_fld (pv 0) rfl) (pa_cons (pv 1) pa_nil))))
      (pss_cons (ps_if (pt_cmpR op_lt (pv 2) (pe_fld (pv 0) rfl) (nomark _)) (pss_one (ps_ret (pe_fld (pv 0) rfl))) pss_nil)
      (pss_one (ps_ret (pe_ifExp (pt_cmpR op_lt (pv 2) (pe_fld (pv 0) rfl) (nomark _)) (pv 2) (pe_fld (pv 0) rfl))))), ?_⟩
    refine ⟨_, rfl, bk, _, dx, _, _, rfl, hx, F.c_Book, F.n_Book_own_share, rfl, _, rfl, sh, b, n, rfl, hb, hs, ?_⟩
    unfold givenF at k
    refine ⟨_, rfl, _, rfl, bk, _, dx, _, _, rfl, hx, F.c_Book, F.n_Book_own_first, rfl, _, _, rfl, rfl, _, rfl, ifC (fun c => ?_) fun c => ?_⟩
    · rw [if_pos (of_decide_eq_true c)] at k
      exact ⟨_, rfl, bk, _, dx, _, _, rfl, hx, F.c_Book, F.n_Book_own_first, rfl, k⟩
    · rw [if_neg (of_decide_eq_false c)] at k
      refine ⟨_, rfl, _, rfl, bk, _, dx, _, _, rfl, hx, F.c_Book, F.n_Book_own_roof, rfl, _, _, rfl, rfl, _, rfl, ifC (fun c => ?_) fun c => ?_⟩
      · rw [if_pos (of_decide_eq_true c)] at k
        exact ⟨_, rfl, k⟩
      · rw [if_neg (of_decide_eq_false c)] at k
        exact ⟨_, rfl, bk, _, dx, _, _, rfl, hx, F.c_Book, F.n_Book_own_roof, rfl, k⟩
def sp_Book_call (K : PySem.W.Frag) : Sp := fun vs H Q _ => ∃ (bk : Addr) (b : BookP) (n nd : Int), vs = [.ref bk, .int n, .int nd] ∧ BookN b ∧ BookAt K H bk b ∧ 0 ≤ n ∧ n ≤ 10 ^ 40 ∧ 1 ≤ nd ∧ nd ≤ 10 ^ 40 ∧ Q (.int (askedF b n nd)) H
theorem sc_Book_call : FnScope ["self", "hold", "need", "many"] ["self", "hold", "need"] (defScope S_Book_call) := ⟨rfl, rfl, rfl, by decide +kernel, rfl, by decide +kernel, by decide +kernel⟩
theorem ok_Book_call (F : Fx K mg) : OkD P w K mg base 3 (He.ma K (He.ga K "Book") "__call__") ["self", "hold", "need"] (sp_Book_call K) := by
  refine okd F.f_Book_call sc_Book_call (fun _ _ _ _ _ _ us hl => match us, hl with | [_, _, _], _ => rfl) (fun vs H Q E h => ?_) (fun cdv A outer s H vs Q E hr h => ?_)
  · obtain ⟨bk, b, n, nd, rfl, _⟩ := h
    rfl
  · obtain ⟨bk, b, n, nd, rfl, hb, hB, n0, n1, d0, d1, k⟩ := h
    obtain ⟨tM, gM⟩ := F.i_MOST
    have hB' := hB
    obtain ⟨sh, ⟨dx, hx⟩, hs⟩ := hB'
    refine ⟨_, pss_cons (ps_expr (pe_cl (ok_check_integer F) hr (by rfl) F.g_check_integer F.p_check_integer (pa_cons (pv 1) (pa_cons pe_int (pa_cons (pe_glob (v := .int (10 ^ 40)) (by rfl) gM ⟨_, rfl⟩) pa_nil)))))
      (pss_cons (ps_expr (pe_cl (ok_check_integer F) hr (by rfl) F.g_check_integer F.p_check_integer (pa_cons (pv 2) (pa_cons pe_int (pa_cons (pe_glob (v := .int (10 ^ 40)) (by rfl) gM ⟨_, rfl⟩) pa_nil)))))
      (pss_cons (ps_set (i := 3) sc_Book_call.nd rfl (Or.inl rfl) (pe_me (pv 0) F.c_Book F.m_Book_given (ok_given F) hr (pa_cons (pv 1) pa_nil)))
      (pss_one (ps_ret (pe_ifExp (pt_cmpR op_gt (pv 3) (pv 2) (nomark _)) (pv 3) (pv 2)))))), ?_⟩
    refine ⟨_, rfl, _, _, _, rfl, n0, n1, _, rfl, _, _, _, rfl, d0, d1, ?_⟩
    refine ⟨_, rfl, bk, dx, _, rfl, hx, rfl, _, rfl, bk, b, n, rfl, hb, hB, ?_⟩
    refine ⟨_, rfl, _, rfl, _, _, rfl, rfl, _, rfl, if_var rfl rfl ?_ k⟩
    unfold askedF
    by_cases h : givenF b n > nd
    · rw [if_pos (decide_eq_true h), if_pos h]
    · rw [if_neg (by rw [decide_eq_false h]; decide), if_neg h]
def sp_Book_twin (K : PySem.W.Frag) : Sp := fun vs H Q _ => ∃ (bk : Addr) (b : BookP), vs = [.ref bk] ∧ BookN b ∧ BookAt K H bk b ∧ ∀ H' q, Same H H' → H q = none → BookAt K H' q b → Q (.ref q) H'
theorem sc_Book_twin : FnScope ["self"] ["self"] (defScope S_Book_twin) := ⟨rfl, rfl, rfl, by decide +kernel, rfl, by decide +kernel, by decide +kernel⟩
theorem ok_Book_twin (F : Fx K mg) : OkD P w K mg base 6 (He.ma K (He.ga K "Book") "twin") ["self"] (sp_Book_twin K) := by
  refine okd F.f_Book_twin sc_Book_twin (fun _ _ _ _ _ _ us hl => match us, hl with | [_], _ => rfl) (fun vs H Q E h => ?_) (fun cdv A outer s H vs Q E hr h => ?_)
  · obtain ⟨bk, b, rfl, _⟩ := h
    rfl
  · obtain ⟨bk, b, rfl, hb, ⟨sh, ⟨dx, hx⟩, hs⟩, k⟩ := h
    refine ⟨_, pss_one (ps_ret (pe_mkK (n := 2) F.k_Book (ok_Book_init F) hr (by rfl) F.g_Book (pa_cons (pe_fld (pv 0) rfl) (pa_cons (pe_fld (pv 0) rfl) pa_nil)) (pk_cons (pe_fld (pv 0) rfl) pk_nil))), ?_⟩
    refine ⟨_, rfl, bk, _, dx, _, _, rfl, hx, F.c_Book, F.n_Book_own_first, rfl, _, rfl, bk, _, dx, _, _, rfl, hx, F.c_Book, F.n_Book_own_roof, rfl, _, rfl, bk, _, dx, _, _, rfl, hx, F.c_Book, F.n_Book_own_share, rfl, rfl, rfl, fun q dq hq hdq ne => ?_⟩
    have s1 := mkH_same (C := He.ga K "Book") hq hdq ne
    refine ⟨q, dq, sh, b, rfl, hb, mkH_at, s1 _ _ hs, fun H' e1 e2 => ⟨rfl, k H' q (fun c o e => ?_) hq ⟨sh, ⟨dq, e2⟩, ?_⟩⟩⟩
    · rw [e1 c (ne_of_none e hq)]
      exact s1 _ _ e
    · rw [e1 sh (ne_of_none hs hq)]
      exact s1 _ _ hs
end
end K36
/-! ## KD10 -/
namespace K36
open PySem PySem.Spec PyProof.Rows L2
/-! ### files in the heap -/
abbrev fileF (d : Addr) (i : Bool) (s : FS) (l : Addr) : List (Str × V) := [("disk", .ref d), ("name", .str (nm i)), ("size", .int s.size), ("hold", .int s.hold), ("waiting", .int s.wait), ("is_open", .bl s.op), ("runs_held", .ref l)]
def FileI (K : PySem.W.Frag) (H : Hp) (d f l : Addr) (i : Bool) (s : FS) : Prop := ∃ dx, H f = some (.ins (He.ga K "File") dx (fileF d i s l))
/-- the instance at f, its list of runs at l -/
def FileL (K : PySem.W.Frag) (H : Hp) (d f l : Addr) (i : Bool) (s : FS) : Prop := FileI K H d f l i s ∧ PL H l (finR s.runs)
def fs0 : FS := ⟨0, 0, 0, true, []⟩
theorem fin_last {rs : List (Int × Int)} {c : Int × Int} (h : rs.getLast? = some c) : (finR rs).getLast? = some (c.1, some c.2) := by
  unfold finR
  rw [List.getLast?_map, h]
  rfl
theorem fin_set (rs : List (Int × Int)) (i : Nat) (c : Int × Int) : finR (rs.set i c) = (finR rs).set i (c.1, some c.2) := by
  unfold finR
  rw [List.map_set]
theorem fin_len (rs : List (Int × Int)) : (finR rs).length = rs.length := List.length_map _
theorem fin_app (a b : List (Int × Int)) : finR (a ++ b) = finR a ++ finR b := List.map_append
section
variable {P : Program} {w : World} {K : PySem.W.Frag} {mg : Str → Option Value} {base : Heap}
/-! ### File.__init__ -/
def sp_File_init (K : PySem.W.Frag) : Sp := fun vs H Q _ => ∃ (x dx d : Addr) (i : Bool), vs = [.ref x, .ref d, .str (nm i)] ∧ H x = some (.ins (He.ga K "File") dx []) ∧
  ∀ H' l, (∀ c o, c ≠ x → H c = some o → H' c = some o) → H l = none → FileI K H' d x l i fs0 → H' l = some (.lst []) → Q .non H'
theorem sc_File_init : FnScope ["self", "disk", "name"] ["self", "disk", "name"] (defScope S_File_init) := ⟨rfl, rfl, rfl, by decide +kernel, rfl, by decide +kernel, by decide +kernel⟩
theorem ok_File_init (F : Fx K mg) : OkD P w K mg base 1 (He.ma K (He.ga K "File") "__init__") ["self", "disk", "name"] (sp_File_init K) := by
  refine okd F.f_File_init sc_File_init (fun _ _ _ _ _ _ us hl => match us, hl with | [_, _, _], _ => rfl) (fun vs H Q E h => ?_) (fun cdv A outer s H vs Q E hr h => ?_)
  · obtain ⟨x, dx, d, i, rfl, _⟩ := h
    rfl
  · obtain ⟨x, dx, d, i, rfl, hx, k⟩ := h
    refine ⟨_, pss_cons (ps_fld (pv 0) (pv 1) rfl) (pss_cons (ps_fld (pv 0) (pv 2) rfl) (pss_cons (ps_fld (pv 0) pe_int rfl) (pss_cons (ps_fld (pv 0) pe_int rfl) (pss_cons (ps_fld (pv 0) pe_int rfl) (pss_cons (ps_fld (pv 0) pe_bl rfl) (pss_one (ps_fld (pv 0) (pe_lst pa_nil) rfl))))))), ?_⟩
    refine ⟨_, rfl, _, rfl, x, _, dx, _, rfl, hx, F.c_File, F.n_File_disk, by decide, ?_⟩
    refine ⟨_, rfl, _, rfl, x, _, dx, _, rfl, upd_same, F.c_File, F.n_File_name, by show 1 < 1000; decide, ?_⟩
    refine ⟨_, rfl, x, _, dx, _, rfl, upd_same, F.c_File, F.n_File_size, by show 2 < 1000; decide, ?_⟩
    refine ⟨_, rfl, x, _, dx, _, rfl, upd_same, F.c_File, F.n_File_hold, by show 3 < 1000; decide, ?_⟩
    refine ⟨_, rfl, x, _, dx, _, rfl, upd_same, F.c_File, F.n_File_waiting, by show 4 < 1000; decide, ?_⟩
    refine ⟨_, rfl, x, _, dx, _, rfl, upd_same, F.c_File, F.n_File_is_open, by show 5 < 1000; decide, ?_⟩
    refine ⟨by decide, fun l hl => ⟨_, rfl, x, _, dx, _, rfl, (upd_ne (ne_of_none upd_same hl)).trans upd_same, F.c_File, F.n_File_runs_held, by show 6 < 1000; decide, ?_⟩⟩
    · have nlx : x ≠ l := ne_of_none upd_same hl
      have hl0 : H l = none := by
        rw [upd_ne nlx.symm, upd_ne nlx.symm, upd_ne nlx.symm, upd_ne nlx.symm, upd_ne nlx.symm, upd_ne nlx.symm] at hl
        exact hl
      refine k _ l (fun c o n e => ?_) hl0 ⟨dx, upd_same⟩ ?_
      · rw [upd_ne n, upd_ne (ne_of_none e hl0), upd_ne n, upd_ne n, upd_ne n, upd_ne n, upd_ne n, upd_ne n]
        exact e
      · rw [upd_ne nlx.symm, upd_same]
/-! ### File.pieces -/
def sp_pieces (K : PySem.W.Frag) : Sp := fun vs H Q _ => ∃ (d f l : Addr) (i : Bool) (s : FS), vs = [.ref f] ∧ FileL K H d f l i s ∧ ∀ H' q, Built H H' q (finR s.runs) → Q (.ref q) H'
theorem sc_pieces : FnScope ["self"] ["self"] (defScope S_File_pieces) := ⟨rfl, rfl, rfl, by decide +kernel, rfl, by decide +kernel, by decide +kernel⟩
theorem ok_pieces (F : Fx K mg) : OkD P w K mg base 1 (He.ma K (He.ga K "File") "pieces") ["self"] (sp_pieces K) := by
  refine okd F.f_File_pieces sc_pieces (fun _ _ _ _ _ _ us hl => match us, hl with | [_], _ => rfl) (fun vs H Q E h => ?_) (fun cdv A outer s H vs Q E hr h => ?_)
  · obtain ⟨d, f, l, i, s, rfl, _⟩ := h
    rfl
  · obtain ⟨d, f, l, i, s, rfl, ⟨⟨dx, hf⟩, as, hl⟩, k⟩ := h
    refine ⟨_, pss_one (ps_ret (pe_callTy call_list_of (by rfl) F.b_list (by decide +kernel) (pa_cons (pe_fld (pv 0) rfl) pa_nil))), ?_⟩
    refine ⟨_, rfl, f, _, dx, _, _, rfl, hf, F.c_File, F.n_File_runs_held, rfl, l, _, rfl, .inl hl.sq, fun q hq => k _ q ⟨same_upd hq, hq, as, upd_same, pr_map hl.tup fun a p e => e.keep (extN_same (same_upd hq))⟩⟩
/-! ### File.lose_all -/
def sp_lose_all (K : PySem.W.Frag) : Sp := fun vs H Q _ => ∃ (d f l : Addr) (i : Bool) (s : FS), vs = [.ref f] ∧ FileI K H d f l i s ∧ ∀ H', (∀ c o, c ≠ f → H c = some o → H' c = some o) → Q .non H'
theorem sc_lose_all : FnScope ["self"] ["self"] (defScope S_File_lose_all) := ⟨rfl, rfl, rfl, by decide +kernel, rfl, by decide +kernel, by decide +kernel⟩
theorem ok_lose_all (F : Fx K mg) : OkD P w K mg base 1 (He.ma K (He.ga K "File") "lose_all") ["self"] (sp_lose_all K) := by
  refine okd F.f_File_lose_all sc_lose_all (fun _ _ _ _ _ _ us hl => match us, hl with | [_], _ => rfl) (fun vs H Q E h => ?_) (fun cdv A outer s H vs Q E hr h => ?_)
  · obtain ⟨d, f, l, i, s, rfl, _⟩ := h
    rfl
  · obtain ⟨d, f, l, i, s, rfl, ⟨dx, hf⟩, k⟩ := h
    refine ⟨_, pss_cons (ps_fld (pv 0) pe_int rfl) (pss_cons (ps_fld (pv 0) pe_int rfl) (pss_cons (ps_fld (pv 0) pe_int rfl) (pss_cons (ps_fld (pv 0) pe_bl rfl) (pss_one (ps_fld (pv 0) (pe_lst pa_nil) rfl))))), ?_⟩
    refine ⟨_, rfl, f, _, dx, _, rfl, hf, F.c_File, F.n_File_size, by show 7 < 1000; decide, ?_⟩
    refine ⟨_, rfl, f, _, dx, _, rfl, upd_same, F.c_File, F.n_File_hold, by show 7 < 1000; decide, ?_⟩
    refine ⟨_, rfl, f, _, dx, _, rfl, upd_same, F.c_File, F.n_File_waiting, by show 7 < 1000; decide, ?_⟩
    refine ⟨_, rfl, f, _, dx, _, rfl, upd_same, F.c_File, F.n_File_is_open, by show 7 < 1000; decide, ?_⟩
    refine ⟨by decide, fun l' hl => ⟨_, rfl, f, _, dx, _, rfl, (upd_ne (ne_of_none upd_same hl)).trans upd_same, F.c_File, F.n_File_runs_held, by show 7 < 1000; decide, ?_⟩⟩
    · refine k _ fun c o n e => ?_
      have nlx : f ≠ l' := ne_of_none upd_same hl
      have hl0 : H l' = none := by
        rw [upd_ne nlx.symm, upd_ne nlx.symm, upd_ne nlx.symm, upd_ne nlx.symm] at hl
        exact hl
      rw [upd_ne n, upd_ne (ne_of_none e hl0), upd_ne n, upd_ne n, upd_ne n, upd_ne n]
      exact e
/-! ### File.put_behind -/
def sp_put_behind (K : PySem.W.Frag) : Sp := fun vs H Q _ => ∃ (d f l r : Addr) (i : Bool) (s : FS) (x n : Int), vs = [.ref f, .ref r] ∧ FileL K H d f l i s ∧ PL H r [(x, some n)] ∧ r ≠ l ∧ s.runs.length ≤ 100000 ∧ LamX.Tabs (TT K) H ∧
  ∀ H', Frm (TT K) [f, l] H H' → FileL K H' d f l i { s with hold := s.hold + n, runs := putF1 s.runs x n } → Q .non H'
theorem sc_put_behind : FnScope ["self", "runs", "start", "length"] ["self", "runs"] (defScope S_File_put_behind) := ⟨rfl, rfl, rfl, by decide +kernel, rfl, by decide +kernel, by decide +kernel⟩
theorem ok_put_behind (F : Fx K mg) : OkD P w K mg base 1 (He.ma K (He.ga K "File") "put_behind") ["self", "runs"] (sp_put_behind K) := by
  refine okd F.f_File_put_behind sc_put_behind (fun _ _ _ _ _ _ us hl => match us, hl with | [_, _], _ => rfl) (fun vs H Q E h => ?_) (fun cdv A outer s H vs Q E hr h => ?_)
  · obtain ⟨d, f, l, r, i, s, x, n, rfl, _⟩ := h
    rfl
  · obtain ⟨d, f, l, r, i, s, x, n, rfl, ⟨⟨dx, hf⟩, hL⟩, ⟨as, ha⟩, nrl, hn, hT, k⟩ := h
    refine ⟨_, pss_one (ps_for PassesOwn.never rfl (pi_list (pv 1)) (pg_tup (by rfl) (pgs_cons (pg_name (i := 2) sc_put_behind.nd rfl (.inl rfl)) (pgs_cons (pg_name (i := 3) sc_put_behind.nd rfl (.inl rfl)) pgs_nil)))
      (pss_cons (ps_fldaug (pv 0) (pv 3) in_add)
      (pss_one (ps_if (pw_and (pt_cmpR op_gt (pe_callB call_len (by rfl) F.b_len PySem.boot_len (pa_cons (pe_fld (pv 0) rfl) pa_nil)) pe_int (nomark _)) (pw_and1 (pt_cmpR op_eq (pe_callB (cr_sumT rfl) (by rfl) F.b_sum (by decide +kernel) (pa_cons (pe_ix ix_list (pe_fld (pv 0) rfl) (pe_un un_neg pe_int) (fun _ _ => rfl)) pa_nil)) (pv 2) (nomark _)))).pt
        (pss_one (ps_asg (pe_tup (pa_cons (pe_ix ix_tup (pe_ix ix_list (pe_fld (pv 0) rfl) (pe_un un_neg pe_int) (fun _ _ => rfl)) pe_int (fun _ _ => rfl)) (pa_cons (pe_op op_add (pe_ix ix_tup (pe_ix ix_list (pe_fld (pv 0) rfl) (pe_un un_neg pe_int) (fun _ _ => rfl)) pe_int (fun _ _ => rfl)) (pv 3)) pa_nil)))
          (pg_sub (pe_fld (pv 0) rfl) (pe_un un_neg pe_int) set_list)))
        (pss_one (ps_expr (pe_bm PySem.F.plainAttrs_list PySem.F.slot_list_append PySem.F.type_list_append mt_append (pe_fld (pv 0) rfl) (pa_cons (pe_tup (pa_cons (pv 2) (pa_cons (pv 3) pa_nil))) pa_nil)))))))), ?_⟩
    have nfr : r ≠ f := ne_of ha.lst hf (by intro z; cases z)
    have ea : (as.map V.ref).length = 1 := by rw [List.length_map, ha.len]; rfl
    refine ⟨_, rfl, r, rfl, ⟨_, ha.sq⟩, for_list (xs := as.map V.ref) (fun j σ H' => (j = 0 ∧ H' = H ∧ ∃ x2 x3, σ = [some (.ref f), some (.ref r), x2, x3]) ∨ (j = 1 ∧ Frm (TT K) [f, l] H H' ∧ FileL K H' d f l i { s with hold := s.hold + n, runs := putF1 s.runs x n }))
      (.inl ⟨rfl, rfl, _, _, rfl⟩) (fun j σ H' _ p => ?_) (fun j v σ H' hx p => ?_) fun σ H' p => ?_⟩
    · rcases p with ⟨_, rfl, _⟩ | ⟨_, fr, _⟩
      · exact ha.sq
      · refine SqL.of (fr.keep _ _ ha.lst (fun z => ?_) fun ps z => by cases z)
        rcases List.mem_cons.mp z with e | z
        · exact nfr e
        · exact nrl (List.mem_singleton.mp z)
    · have hj : j = 0 := by
        have := (List.getElem?_eq_some_iff.mp hx).1
        omega
      subst hj
      rcases p with ⟨_, rfl, x2, x3, rfl⟩ | ⟨e, _⟩
      case inr => exact absurd e (by decide)
      obtain ⟨a, p, rfl, hi, ht⟩ := ha.item hx
      cases hi
      refine ⟨a, _, rfl, SqT.of ht, rfl, _, _, rfl, _, _, rfl, rfl, ?_⟩
      refine ⟨_, rfl, f, _, dx, _, _, rfl, hf, F.c_File, F.n_File_hold, rfl, _, rfl, _, _, rfl, rfl, dx, _, hf, by show 7 < 1000; decide, ?_⟩
      have hf1 : upd H' f (.ins (He.ga K "File") dx (fileF d i { s with hold := s.hold + n } l)) f = some (.ins (He.ga K "File") dx (fileF d i { s with hold := s.hold + n } l)) := upd_same
      have fr1 : Frm (TT K) [f, l] H' (upd H' f (.ins (He.ga K "File") dx (fileF d i { s with hold := s.hold + n } l))) := (Frm.refl hT).upd (.inr ⟨.inl List.mem_cons_self, _, hf, flat_ins _ _ _⟩)
      have hL1 : PL (upd H' f (.ins (He.ga K "File") dx (fileF d i { s with hold := s.hold + n } l))) l (finR s.runs) := hL.ins hf (by intro _ z; cases z) (by intro _ z; cases z)
      obtain ⟨ca, hc⟩ := hL1
      have fin : ∀ (t : Addr) (q : PR) (xs : List V) (rs : List (Int × Int)), (upd H' f (.ins (He.ga K "File") dx (fileF d i { s with hold := s.hold + n } l))) t = none → PL (upd (upd (upd H' f (.ins (He.ga K "File") dx (fileF d i { s with hold := s.hold + n } l))) t (.tup [.int q.1, oV q.2])) l (.lst xs)) l (finR rs) →
          Frm (TT K) [f, l] H' (upd (upd (upd H' f (.ins (He.ga K "File") dx (fileF d i { s with hold := s.hold + n } l))) t (.tup [.int q.1, oV q.2])) l (.lst xs)) ∧ FileL K (upd (upd (upd H' f (.ins (He.ga K "File") dx (fileF d i { s with hold := s.hold + n } l))) t (.tup [.int q.1, oV q.2])) l (.lst xs)) d f l i { s with hold := s.hold + n, runs := rs } := fun t q xs rs ht hp => by
        refine ⟨(fr1.upd (.inl ht)).upd (.inr ⟨.inl (List.mem_cons_of_mem _ List.mem_cons_self), _, hc.lst_upd ht, flat_lst _⟩), ⟨dx, ?_⟩, hp⟩
        rw [upd_ne (ne_of hf1 hc.lst (by intro z; cases z)), upd_ne (ne_of_none hf1 ht)]
        exact hf1
      have room : (finR s.runs).length ≤ 100000 := by rw [fin_len]; exact hn
      refine ⟨_, rfl, f, _, dx, _, _, rfl, hf1, F.c_File, F.n_File_runs_held, rfl, _, (ca.map V.ref).length, rfl, .inl ⟨_, hc.sq, rfl⟩, _, _, rfl, rfl, _, rfl, ?_⟩
      cases hg : s.runs.getLast? with
      | none =>
        have er : s.runs = [] := List.getLast?_eq_none_iff.mp hg
        have hz : (ca.map V.ref).length = 0 := by
          rw [List.length_map, hc.len, er]
          rfl
        have es : putF1 s.runs x n = s.runs ++ [(x, n)] := by
          unfold putF1
          rw [hg]
        refine ifF (by rw [hz]; rfl) ⟨_, rfl, f, _, dx, _, _, rfl, hf1, F.c_File, F.n_File_runs_held, rfl, .inl ⟨rfl, _, hc.sq⟩, _, rfl, _, rfl, by show 2 ≤ sizeLine; decide, fun t ht => ⟨l, _, _, rfl, rfl, hc.lst_upd ht, hc.short room (by decide), .inr ⟨rfl, ?_⟩⟩⟩
        rw [es]
        exact fin t (x, some n) _ _ ht ⟨_, by rw [fin_app]; exact hc.snoc (p := (x, some n)) ht⟩
      | some c =>
        obtain ⟨c1, c2⟩ := c
        obtain ⟨ta, hta, htc⟩ := hc.last (fin_last hg)
        have sq1 : SqT K _ ta [.int c1, .int c2] := SqT.of htc
        have pos : 0 < (ca.map V.ref).length := by
          rw [List.length_map, hc.len, fin_len]
          cases er : s.runs with
          | nil => rw [er] at hg; cases hg
          | cons _ _ => exact Nat.succ_pos _
        refine ifT (decide_eq_true (by omega)) ⟨_, rfl, f, _, dx, _, _, rfl, hf1, F.c_File, F.n_File_runs_held, rfl, _, rfl, l, _, _, _, rfl, rfl, hc.sq, atI_neg1 hta, ta, c1, c2, rfl, sq1, _, rfl, rfl, _, rfl, ?_⟩
        have es : decide (V.int (c1 + c2) = V.int x) = decide (c1 + c2 = x) := by simp
        rw [es]
        refine ifC (fun q => ?_) fun q => ?_
        · have e1 : putF1 s.runs x n = s.runs.set (s.runs.length - 1) (c1, c2 + n) := by
            unfold putF1
            rw [hg]
            exact if_pos (of_decide_eq_true q)
          refine ⟨_, rfl, f, _, dx, _, _, rfl, hf1, F.c_File, F.n_File_runs_held, rfl, _, rfl, l, _, _, _, rfl, rfl, hc.sq, atI_neg1 hta, ta, _, 0, _, rfl, rfl, sq1, atI_nat (j := 0) rfl, ?_⟩
          refine ⟨_, rfl, f, _, dx, _, _, rfl, hf1, F.c_File, F.n_File_runs_held, rfl, _, rfl, l, _, _, _, rfl, rfl, hc.sq, atI_neg1 hta, ta, _, 1, _, rfl, rfl, sq1, atI_nat (j := 1) rfl, _, rfl, _, _, rfl, rfl, by show 2 ≤ sizeLine; decide, fun t ht => ?_⟩
          refine ⟨_, rfl, f, _, dx, _, _, rfl, by rw [upd_ne (ne_of_none hf1 ht)]; exact hf1, F.c_File, F.n_File_runs_held, rfl, _, rfl, l, _, _, _, rfl, rfl, hc.lst_upd ht, ixN_neg1 pos, .inr ⟨rfl, ?_⟩⟩
          rw [e1]
          exact fin t (c1, some (c2 + n)) _ _ ht ⟨_, by rw [fin_set, ← fin_len]; exact hc.setLast (p := (c1, some (c2 + n))) ht⟩
        · have e1 : putF1 s.runs x n = s.runs ++ [(x, n)] := by
            unfold putF1
            rw [hg]
            exact if_neg (of_decide_eq_false q)
          refine ⟨_, rfl, f, _, dx, _, _, rfl, hf1, F.c_File, F.n_File_runs_held, rfl, .inl ⟨rfl, _, hc.sq⟩, _, rfl, _, rfl, by show 2 ≤ sizeLine; decide, fun t ht => ⟨l, _, _, rfl, rfl, hc.lst_upd ht, hc.short room (by decide), .inr ⟨rfl, ?_⟩⟩⟩
          rw [e1]
          exact fin t (x, some n) _ _ ht ⟨_, by rw [fin_app]; exact hc.snoc (p := (x, some n)) ht⟩
    · rcases p with ⟨e, _⟩ | ⟨_, fr, q⟩
      · exact absurd e (by rw [ea]; decide)
      · exact k H' fr q
end
end K36
/-! ## KD11 -/
namespace K36
open PySem PySem.Spec PyProof.Rows L2
/-! ### disks in the heap -/
abbrev diskF (bk : Addr) (ru : Str) (sh late : Bool) (af : Int) (dic : Addr) : List (Str × V) := [("own_book", .ref bk), ("rule", .str ru), ("size", .non), ("short", .bl sh), ("back", .bl false), ("late", .bl late), ("after", .int af), ("files", .ref dic)]
def DiskI (K : PySem.W.Frag) (H : Hp) (d bk dic : Addr) (ru : Str) (sh late : Bool) (af : Int) : Prop := ∃ dx, H d = some (.ins (He.ga K "Disk") dx (diskF bk ru sh late af dic))
/-- a disk's addresses -/
structure DA where
  d : Addr
  dic : Addr
  bk : Addr
  f : Bool → Addr
  l : Bool → Addr
/-- what of it is written -/
def DA.W (A : DA) : List Addr := [A.d, A.f false, A.f true, A.l false, A.l true]
abbrev kvA (A : DA) : List (Key × V) := [(.inr "a", .ref (A.f false)), (.inr "b", .ref (A.f true))]
structure DiskAt (K : PySem.W.Frag) (H : Hp) (A : DA) (ru : Str) (sh : Bool) (b : BookP) (late : Bool) (af : Int) (fs : Bool → FS) : Prop where
  disk : DiskI K H A.d A.bk A.dic ru sh late af
  dic : H A.dic = some (.dK (kvA A))
  file : ∀ i, FileL K H A.d (A.f i) (A.l i) i (fs i)
  book : BookAt K H A.bk b
  lne : A.l false ≠ A.l true
  fne : A.f false ≠ A.f true
def allR (fs : Bool → FS) : List (Int × Int) := (fs false).runs ++ (fs true).runs
theorem valA (A : DA) (i : Bool) : valV (kvA A) (.inr (nm i)) = some (.ref (A.f i)) := by
  cases i with
  | false => rfl
  | true =>
    have e : valV (kvA A) (.inr (nm true)) = valV [((.inr "b", .ref (A.f true)) : Key × V)] (.inr (nm true)) := valV_neg (show ¬ ((.inr "a" : Key) = .inr (nm true)) from by decide +kernel)
    rw [e]
    rfl
theorem Frm.fresh {T : List (Addr × Str)} {W : List Addr} {H H1 H2 : Hp} (a : Frm T [] H H1) (b : Frm T W H1 H2) (hW : ∀ x ∈ W, H x = none) : Frm T [] H H2 :=
  ⟨fun c o e n z => b.keep c o (a.keep c o e n z) (fun q => by rw [hW c q] at e; cases e) z, b.tabs⟩
theorem PL.append {H : Hp} {l q : Addr} {as bs : List Addr} {ps qs : List PR} (h : PLa H l as ps) (g : PLa H q bs qs) : PL (upd H l (.lst (as.map V.ref ++ bs.map V.ref))) l (ps ++ qs) := by
  have nl : ∀ {a p}, TupP H a p → TupP (upd H l (.lst (as.map V.ref ++ bs.map V.ref))) a p := fun {a p} e => by
    unfold TupP at e ⊢
    rw [upd_ne (ne_of e h.lst (by intro z; cases z))]
    exact e
  have go : ∀ {xs : List Addr} {ys : List PR} {xs' : List Addr} {ys' : List PR}, Paired (TupP H) xs ys → Paired (TupP H) xs' ys' → Paired (TupP H) (xs ++ xs') (ys ++ ys') := by
    intro xs ys xs' ys' a b
    induction a with
    | nil => exact b
    | cons r t ih => exact .cons r ih
  exact ⟨as ++ bs, by rw [upd_same, List.map_append], pr_map (go h.tup g.tup) fun _ _ => nl⟩
/-- a test that is never reached -/
theorem pt_nev {X : Cx} {e : Expr} : PT X e (fun _ _ _ => False) := ⟨fun _ _ _ _ _ _ h => h.elim⟩
section
variable {P : Program} {w : World} {K : PySem.W.Frag} {mg : Str → Option Value} {base : Heap}
/-! ### check_disk -/
def sp_check_disk : Sp := fun vs H Q _ => ∃ (ru : Str) (b1 b2 b3 : Bool), vs = [.str ru, .non, .bl b1, .bl b2, .bl b3] ∧ RuleOk ru ∧ ∀ H', Same H H' → Q .non H'
theorem sc_check_disk : FnScope ["rule", "size", "short", "back", "late", "part", "thing"] ["rule", "size", "short", "back", "late"] (defScope S_check_disk) := ⟨rfl, rfl, rfl, by decide +kernel, rfl, by decide +kernel, by decide +kernel⟩
theorem ok_check_disk (F : Fx K mg) : OkD P w K mg base 2 (He.ga K "check_disk") ["rule", "size", "short", "back", "late"] sp_check_disk := by
  refine okd F.f_check_disk sc_check_disk (fun _ _ _ _ _ _ us hl => match us, hl with | [_, _, _, _, _], _ => rfl) (fun vs H Q E h => ?_) (fun cdv A outer s H vs Q E hr h => ?_)
  · obtain ⟨ru, b1, b2, b3, rfl, _⟩ := h
    rfl
  · obtain ⟨ru, b1, b2, b3, rfl, hru, k⟩ := h
    refine ⟨_, pss_cons (ps_if (pw_or (pt_not (pt_val (pe_isi (pv 0) (by rfl) F.b_isinstance (by rfl) F.b_str boot_str))) (pw_or1 (pt_cmpR op_notIn_seq (pv 0) (pe_glob (v := .ref (He.ga K "RULES")) (by rfl) F.g_RULES rfl) (by rfl)))).pt (pss_one ps_never) pss_nil)
      (pss_cons (ps_if (pw_and (pt_cmp (pc_notN (pv 1)) rfl) (pw_and1 pt_nev)).pt (pss_one ps_never) pss_nil)
      (pss_one (ps_for PassesOwn.never rfl (pi_tup (pe_tup (pa_cons (pe_tup (pa_cons pe_str (pa_cons (pv 2) pa_nil))) (pa_cons (pe_tup (pa_cons pe_str (pa_cons (pv 3) pa_nil))) (pa_cons (pe_tup (pa_cons pe_str (pa_cons (pv 4) pa_nil))) pa_nil)))))
        (pg_tup (by rfl) (pgs_cons (pg_name (i := 5) sc_check_disk.nd rfl (.inl rfl)) (pgs_cons (pg_name (i := 6) sc_check_disk.nd rfl (.inl rfl)) pgs_nil)))
        (pss_one (ps_if (pt_not (pt_val (pe_isi (pv 6) (by rfl) F.b_isinstance (by rfl) F.b_bool boot_bool))) (pss_one ps_never) pss_nil))))), ?_⟩
    refine ⟨_, rfl, _, _, _, _, true, rfl, .ty _, .base (.str _), kit_ty (by decide +kernel), true, rfl, ifF rfl ?_⟩
    refine ⟨_, rfl, _, _, rfl, .inr (F.x_rules H), rfl, rfl, _, rfl, ifF (by rw [if_pos rfl, rule_in hru]; rfl) ?_⟩
    refine ⟨_, rfl, _, rfl, ifF rfl ?_⟩
    refine ⟨_, rfl, by show 2 ≤ sizeLine; decide, fun t1 h1 => ⟨_, rfl, by show 2 ≤ sizeLine; decide, fun t2 h2 => ⟨_, rfl, by show 2 ≤ sizeLine; decide, fun t3 h3 => ⟨by show 3 ≤ sizeLine; decide, fun T hT => ?_⟩⟩⟩⟩
    have z1 : upd (upd (upd (upd H t1 (.tup [.str "short", .bl b1])) t2 (.tup [.str "back", .bl b2])) t3 (.tup [.str "late", .bl b3])) T (.tup [.ref t1, .ref t2, .ref t3]) t1 = some (.tup [.str "short", .bl b1]) := by
      have q1 : upd H t1 (.tup [.str "short", .bl b1]) t1 = some (.tup [.str "short", .bl b1]) := upd_same
      have q2 := (same_upd (o := .tup [.str "back", .bl b2]) h2) _ _ q1
      have q3 := (same_upd (o := .tup [.str "late", .bl b3]) h3) _ _ q2
      exact (same_upd hT) _ _ q3
    have z2 : upd (upd (upd (upd H t1 (.tup [.str "short", .bl b1])) t2 (.tup [.str "back", .bl b2])) t3 (.tup [.str "late", .bl b3])) T (.tup [.ref t1, .ref t2, .ref t3]) t2 = some (.tup [.str "back", .bl b2]) := by
      have q2 : upd (upd H t1 (.tup [.str "short", .bl b1])) t2 (.tup [.str "back", .bl b2]) t2 = some (.tup [.str "back", .bl b2]) := upd_same
      have q3 := (same_upd (o := .tup [.str "late", .bl b3]) h3) _ _ q2
      exact (same_upd hT) _ _ q3
    have z3 : upd (upd (upd (upd H t1 (.tup [.str "short", .bl b1])) t2 (.tup [.str "back", .bl b2])) t3 (.tup [.str "late", .bl b3])) T (.tup [.ref t1, .ref t2, .ref t3]) t3 = some (.tup [.str "late", .bl b3]) := by
      have q3 : upd (upd (upd H t1 (.tup [.str "short", .bl b1])) t2 (.tup [.str "back", .bl b2])) t3 (.tup [.str "late", .bl b3]) t3 = some (.tup [.str "late", .bl b3]) := upd_same
      exact (same_upd hT) _ _ q3
    have zT : upd (upd (upd (upd H t1 (.tup [.str "short", .bl b1])) t2 (.tup [.str "back", .bl b2])) t3 (.tup [.str "late", .bl b3])) T (.tup [.ref t1, .ref t2, .ref t3]) T = some (.tup [.ref t1, .ref t2, .ref t3]) := upd_same
    have s1 : Same H (upd (upd (upd (upd H t1 (.tup [.str "short", .bl b1])) t2 (.tup [.str "back", .bl b2])) t3 (.tup [.str "late", .bl b3])) T (.tup [.ref t1, .ref t2, .ref t3])) :=
      same_trans (same_upd h1) (same_trans (same_upd h2) (same_trans (same_upd h3) (same_upd hT)))
    refine ⟨T, rfl, ⟨_, SqT.of zT⟩, ?_⟩
    generalize upd (upd (upd (upd H t1 (.tup [.str "short", .bl b1])) t2 (.tup [.str "back", .bl b2])) t3 (.tup [.str "late", .bl b3])) T (.tup [.ref t1, .ref t2, .ref t3]) = Z at z1 z2 z3 zT s1 ⊢
    have item : ∀ (i : Nat) (x : V), [V.ref t1, V.ref t2, V.ref t3][i]? = some x → ∃ a s b, x = .ref a ∧ Z a = some (.tup [.str s, .bl b]) := fun i x h => by
      match i, h with
      | 0, h => cases h; exact ⟨t1, _, _, rfl, z1⟩
      | 1, h => cases h; exact ⟨t2, _, _, rfl, z2⟩
      | 2, h => cases h; exact ⟨t3, _, _, rfl, z3⟩
      | n + 3, h => simp at h
    refine for_tup (xs := [.ref t1, .ref t2, .ref t3]) (fun i σ H' => H' = Z ∧ ∃ x5 x6, σ = [some (.str ru), some .non, some (.bl b1), some (.bl b2), some (.bl b3), x5, x6]) ⟨rfl, _, _, rfl⟩ (fun i σ H' _ p => by rw [p.1]; exact SqT.of zT) (fun i x σ H' hx p => ?_) fun σ H' p => ?_
    · obtain ⟨rfl, x5, x6, rfl⟩ := p
      obtain ⟨a, s, b, rfl, ha⟩ := item i x hx
      refine ⟨a, _, rfl, SqT.of ha, rfl, _, _, rfl, _, _, rfl, rfl, ?_⟩
      exact ⟨_, rfl, _, _, _, _, true, rfl, .ty _, .base (.bl _), kit_ty (by decide +kernel), true, rfl, ifF rfl ⟨rfl, _, _, rfl⟩⟩
    · obtain ⟨rfl, x5, x6, rfl⟩ := p
      exact k _ s1
/-! ### Disk.__init__ -/
def sp_Disk_init (K : PySem.W.Frag) : Sp := fun vs H Q _ => ∃ (x dx bk0 : Addr) (b : BookP) (ru : Str) (sh late : Bool), vs = [.ref x, .ref bk0, .str ru, .non, .bl sh, .bl false, .bl late] ∧ RuleOk ru ∧ BookN b ∧ BookAt K H bk0 b ∧ H x = some (.ins (He.ga K "Disk") dx []) ∧
  ∀ H' bk dic, (∀ c o, c ≠ x → H c = some o → H' c = some o) → H bk = none → H dic = none → DiskI K H' x bk dic ru sh late 0 → BookAt K H' bk b → H' dic = some (.dK []) → Q .non H'
theorem sc_Disk_init : FnScope ["self", "book", "rule", "size", "short", "back", "late"] ["self", "book", "rule", "size", "short", "back", "late"] (defScope S_Disk_init) := ⟨rfl, rfl, rfl, by decide +kernel, rfl, by decide +kernel, by decide +kernel⟩
theorem book_ins {H : Hp} {x dx bk : Addr} {fs : List (Str × V)} {b : BookP} {o : HO} (h : BookAt K H bk b) (hx : H x = some (.ins (He.ga K "Disk") dx fs)) (n : bk ≠ x) : BookAt K (upd H x o) bk b := by
  obtain ⟨sh, ⟨dy, e⟩, hs⟩ := h
  refine ⟨sh, ⟨dy, by rw [upd_ne n]; exact e⟩, ?_⟩
  rw [upd_ne (ne_of hs hx (by intro z; cases z))]
  exact hs
theorem ok_Disk_init (F : Fx K mg) : OkK P w K mg base 7 (He.ma K (He.ga K "Disk") "__init__") ["self", "book", "rule", "size", "short", "back", "late"] 2 ["rule", "size", "short", "back", "late"] (sp_Disk_init K) := by
  refine okk F.f_Disk_init sc_Disk_init (fun _ _ _ _ _ _ us ws h1 h2 => match us, ws, h1, h2 with | [_, _], [_, _, _, _, _], _, _ => rfl) (fun vs H Q E h => ?_) (fun cdv A outer s H vs Q E hr h => ?_)
  · obtain ⟨x, dx, bk0, b, ru, sh, late, rfl, _⟩ := h
    rfl
  · obtain ⟨x, dx, bk0, b, ru, sh, late, rfl, hru, hb, hB, hx, k⟩ := h
    refine ⟨_, pss_cons (ps_expr (pe_cl (ok_check_disk F) (hr.mono (by decide)) (by rfl) F.g_check_disk F.p_check_disk (pa_cons (pv 2) (pa_cons (pv 3) (pa_cons (pv 4) (pa_cons (pv 5) (pa_cons (pv 6) pa_nil)))))))
      (pss_cons (ps_fld (pv 0) (pe_me0 (pv 1) F.c_Book F.m_Book_twin (ok_Book_twin F) hr) rfl) (pss_cons (ps_fld (pv 0) (pv 2) rfl) (pss_cons (ps_fld (pv 0) (pv 3) rfl) (pss_cons (ps_fld (pv 0) (pv 4) rfl) (pss_cons (ps_fld (pv 0) (pv 5) rfl) (pss_cons (ps_fld (pv 0) (pv 6) rfl)
      (pss_cons (ps_fld (pv 0) pe_int rfl) (pss_one (ps_fld (pv 0) pe_dnewK rfl))))))))), ?_⟩
    refine ⟨_, rfl, _, rfl, _, rfl, _, rfl, _, rfl, ru, sh, false, late, rfl, hru, fun H1 s1 => ?_⟩
    have hB1 := hB.keep (extN_same s1)
    have hB1' := hB1
    obtain ⟨sb, ⟨db, hbk⟩, _⟩ := hB1'
    refine ⟨_, rfl, bk0, db, _, rfl, hbk, rfl, bk0, b, rfl, hb, hB1, fun H2 bk s2 nbk hB2 => ?_⟩
    have hx2 := s2 _ _ (s1 _ _ hx)
    have nb0 := none_back s1 nbk
    have nbx : bk ≠ x := (ne_of_none hx nb0).symm
    refine ⟨_, rfl, x, _, dx, _, rfl, hx2, F.c_Disk, F.n_Disk_own_book, by decide, ?_⟩
    refine ⟨_, rfl, _, rfl, x, _, dx, _, rfl, upd_same, F.c_Disk, F.n_Disk_rule, by show 1 < 1000; decide, ?_⟩
    refine ⟨_, rfl, _, rfl, x, _, dx, _, rfl, upd_same, F.c_Disk, F.n_Disk_size, by show 2 < 1000; decide, ?_⟩
    refine ⟨_, rfl, _, rfl, x, _, dx, _, rfl, upd_same, F.c_Disk, F.n_Disk_short, by show 3 < 1000; decide, ?_⟩
    refine ⟨_, rfl, _, rfl, x, _, dx, _, rfl, upd_same, F.c_Disk, F.n_Disk_back, by show 4 < 1000; decide, ?_⟩
    refine ⟨_, rfl, _, rfl, x, _, dx, _, rfl, upd_same, F.c_Disk, F.n_Disk_late, by show 5 < 1000; decide, ?_⟩
    refine ⟨_, rfl, x, _, dx, _, rfl, upd_same, F.c_Disk, F.n_Disk_after, by show 6 < 1000; decide, ?_⟩
    refine fun dic hdic => ⟨_, rfl, x, _, dx, _, rfl, (upd_ne (ne_of_none upd_same hdic)).trans upd_same, F.c_Disk, F.n_Disk_files, by show 7 < 1000; decide, ?_⟩
    have nxd : x ≠ dic := ne_of_none upd_same hdic
    have hdic2 : H2 dic = none := by
      rw [upd_ne nxd.symm, upd_ne nxd.symm, upd_ne nxd.symm, upd_ne nxd.symm, upd_ne nxd.symm, upd_ne nxd.symm, upd_ne nxd.symm] at hdic
      exact hdic
    refine k _ bk dic (fun c o n e => ?_) nb0 (none_back s1 (none_back s2 hdic2)) ⟨dx, upd_same⟩ ?_ ?_
    · have e2 := s2 _ _ (s1 _ _ e)
      rw [upd_ne n, upd_ne (ne_of_none e2 hdic2), upd_ne n, upd_ne n, upd_ne n, upd_ne n, upd_ne n, upd_ne n, upd_ne n]
      exact e2
    · obtain ⟨sh', ⟨dy, e⟩, hs⟩ := hB2
      have n2 : sh' ≠ x := ne_of hs hx2 (by intro z; cases z)
      refine ⟨sh', ⟨dy, ?_⟩, ?_⟩
      · rw [upd_ne nbx, upd_ne (ne_of_none e hdic2), upd_ne nbx, upd_ne nbx, upd_ne nbx, upd_ne nbx, upd_ne nbx, upd_ne nbx, upd_ne nbx]
        exact e
      · rw [upd_ne n2, upd_ne (ne_of_none hs hdic2), upd_ne n2, upd_ne n2, upd_ne n2, upd_ne n2, upd_ne n2, upd_ne n2, upd_ne n2]
        exact hs
    · rw [upd_ne nxd.symm, upd_same]
/-! ### names, in, [] -/
def sp_names (K : PySem.W.Frag) : Sp := fun vs H Q _ => ∃ (d bk dic : Addr) (ru : Str) (sh late : Bool) (af : Int) (kvs : List (Key × V)), vs = [.ref d] ∧ DiskI K H d bk dic ru sh late af ∧ H dic = some (.dK kvs) ∧ ∀ q, H q = none → Q (.ref q) (upd H q (.lst (kvs.map fun kv => kV kv.1)))
theorem sc_names : FnScope ["self"] ["self"] (defScope S_Disk_names) := ⟨rfl, rfl, rfl, by decide +kernel, rfl, by decide +kernel, by decide +kernel⟩
theorem ok_names (F : Fx K mg) : OkD P w K mg base 1 (He.ma K (He.ga K "Disk") "names") ["self"] (sp_names K) := by
  refine okd F.f_Disk_names sc_names (fun _ _ _ _ _ _ us hl => match us, hl with | [_], _ => rfl) (fun vs H Q E h => ?_) (fun cdv A outer s H vs Q E hr h => ?_)
  · obtain ⟨d, bk, dic, ru, sh, late, af, kvs, rfl, _⟩ := h
    rfl
  · obtain ⟨d, bk, dic, ru, sh, late, af, kvs, rfl, ⟨dx, hd⟩, hk, k⟩ := h
    refine ⟨_, pss_one (ps_ret (pe_callTy (call_list_dK rfl) (by rfl) F.b_list (by decide +kernel) (pa_cons (pe_fld (pv 0) rfl) pa_nil))), ?_⟩
    exact ⟨_, rfl, d, _, dx, _, _, rfl, hd, F.c_Disk, F.n_Disk_files, rfl, dic, kvs, rfl, hk, k⟩
def sp_contains (K : PySem.W.Frag) : Sp := fun vs H Q _ => ∃ (d bk dic : Addr) (ru x : Str) (sh late : Bool) (af : Int) (kvs : List (Key × V)), vs = [.ref d, .str x] ∧ DiskI K H d bk dic ru sh late af ∧ H dic = some (.dK kvs) ∧ Q (.bl (valV kvs (.inr x)).isSome) H
theorem sc_contains : FnScope ["self", "name"] ["self", "name"] (defScope S_Disk_contains) := ⟨rfl, rfl, rfl, by decide +kernel, rfl, by decide +kernel, by decide +kernel⟩
theorem ok_contains (F : Fx K mg) : OkD P w K mg base 1 (He.ma K (He.ga K "Disk") "__contains__") ["self", "name"] (sp_contains K) := by
  refine okd F.f_Disk_contains sc_contains (fun _ _ _ _ _ _ us hl => match us, hl with | [_, _], _ => rfl) (fun vs H Q E h => ?_) (fun cdv A outer s H vs Q E hr h => ?_)
  · obtain ⟨d, bk, dic, ru, x, sh, late, af, kvs, rfl, _⟩ := h
    rfl
  · obtain ⟨d, bk, dic, ru, x, sh, late, af, kvs, rfl, ⟨dx, hd⟩, hk, k⟩ := h
    refine ⟨_, pss_one (ps_ret (pe_and (pe_isi (pv 1) (by rfl) F.b_isinstance (by rfl) F.b_str boot_str) (pe_one (pe_cmp (pc_din (hu_of hr) (pv 1) (pe_fld (pv 0) rfl)) rfl)))), ?_⟩
    refine ⟨_, rfl, _, _, _, _, true, rfl, .ty _, .base (.str _), kit_ty (by decide +kernel), true, rfl, ifT rfl ?_⟩
    exact ⟨_, rfl, _, rfl, d, _, dx, _, _, rfl, hd, F.c_Disk, F.n_Disk_files, rfl, dic, _, rfl, DGet.k (k := Sum.inr x) hk, k⟩
def sp_getitem (K : PySem.W.Frag) : Sp := fun vs H Q _ => ∃ (d bk dic : Addr) (ru x : Str) (sh late : Bool) (af : Int) (kvs : List (Key × V)) (v : V), vs = [.ref d, .str x] ∧ DiskI K H d bk dic ru sh late af ∧ H dic = some (.dK kvs) ∧ valV kvs (.inr x) = some v ∧ Q v H
theorem sc_getitem : FnScope ["self", "name"] ["self", "name"] (defScope S_Disk_getitem) := ⟨rfl, rfl, rfl, by decide +kernel, rfl, by decide +kernel, by decide +kernel⟩
theorem ok_getitem (F : Fx K mg) : OkD P w K mg base 1 (He.ma K (He.ga K "Disk") "__getitem__") ["self", "name"] (sp_getitem K) := by
  refine okd F.f_Disk_getitem sc_getitem (fun _ _ _ _ _ _ us hl => match us, hl with | [_, _], _ => rfl) (fun vs H Q E h => ?_) (fun cdv A outer s H vs Q E hr h => ?_)
  · obtain ⟨d, bk, dic, ru, x, sh, late, af, kvs, v, rfl, _⟩ := h
    rfl
  · obtain ⟨d, bk, dic, ru, x, sh, late, af, kvs, v, rfl, ⟨dx, hd⟩, hk, hv, k⟩ := h
    refine ⟨_, pss_cons (ps_if (pw_or (pt_not (pt_val (pe_isi (pv 1) (by rfl) F.b_isinstance (by rfl) F.b_str boot_str))) (pw_or1 (pt_cmp (pc_dnotin (hu_of hr) (pv 1) (pe_fld (pv 0) rfl)) rfl))).pt (pss_one ps_never) pss_nil)
      (pss_one (ps_ret (pe_dget (hu_of hr) (pe_fld (pv 0) rfl) (pv 1) (fun _ _ => rfl)))), ?_⟩
    refine ⟨_, rfl, _, _, _, _, true, rfl, .ty _, .base (.str _), kit_ty (by decide +kernel), true, rfl, ifF rfl ?_⟩
    refine ⟨_, rfl, _, rfl, d, _, dx, _, _, rfl, hd, F.c_Disk, F.n_Disk_files, rfl, dic, _, rfl, DGet.k (k := Sum.inr x) hk, _, rfl, ifF (by rw [hv]; rfl) ?_⟩
    refine ⟨_, rfl, d, _, dx, _, _, rfl, hd, F.c_Disk, F.n_Disk_files, rfl, _, rfl, dic, v, rfl, ?_, k⟩
    have g := DGet.k (k := Sum.inr x) hk
    rw [hv] at g
    exact g
/-! ### make -/
def sp_make (K : PySem.W.Frag) : Sp := fun vs H Q _ => ∃ (d bk dic : Addr) (ru : Str) (i sh late : Bool) (af : Int) (kvs : List (Key × V)), vs = [.ref d, .str (nm i)] ∧ DiskI K H d bk dic ru sh late af ∧ H dic = some (.dK kvs) ∧ valV kvs (.inr (nm i)) = none ∧ kvs.length ≤ 10 ∧
  ∀ H' f l, (∀ c o, c ≠ dic → H c = some o → H' c = some o) → H f = none → H l = none → f ≠ l → FileI K H' d f l i fs0 → H' l = some (.lst []) → H' dic = some (.dK (putK kvs (.inr (nm i)) (.ref f))) → Q .non H'
theorem sc_make : FnScope ["self", "name"] ["self", "name"] (defScope S_Disk_make) := ⟨rfl, rfl, rfl, by decide +kernel, rfl, by decide +kernel, by decide +kernel⟩
theorem ok_make (F : Fx K mg) : OkD P w K mg base 3 (He.ma K (He.ga K "Disk") "make") ["self", "name"] (sp_make K) := by
  refine okd F.f_Disk_make sc_make (fun _ _ _ _ _ _ us hl => match us, hl with | [_, _], _ => rfl) (fun vs H Q E h => ?_) (fun cdv A outer s H vs Q E hr h => ?_)
  · obtain ⟨d, bk, dic, ru, i, sh, late, af, kvs, rfl, _⟩ := h
    rfl
  · obtain ⟨d, bk, dic, ru, i, sh, late, af, kvs, rfl, ⟨dx, hd⟩, hk, hv, hn, k⟩ := h
    refine ⟨_, pss_cons (ps_if (pt_not (pt_val (pe_cl (ok_is_name F) (hr.mono (by decide)) (by rfl) F.g_is_name F.p_is_name (pa_cons (pv 1) pa_nil)))) (pss_one ps_never) pss_nil)
      (pss_cons (ps_if (pt_cmp (pc_din (hu_of hr) (pv 1) (pe_fld (pv 0) rfl)) rfl) (pss_one ps_never) pss_nil)
      (pss_one (ps_dput (hu_of hr) (pe_fld (pv 0) rfl) (pv 1) (pe_mk F.k_File (ok_File_init F) hr (by rfl) F.g_File (pa_cons (pv 0) (pa_cons (pv 1) pa_nil))) rfl))), ?_⟩
    refine ⟨_, rfl, i, rfl, fun H1 s1 => ⟨true, rfl, ifF rfl ?_⟩⟩
    have hd1 := s1 _ _ hd
    have hk1 := s1 _ _ hk
    refine ⟨_, rfl, _, rfl, d, _, dx, _, _, rfl, hd1, F.c_Disk, F.n_Disk_files, rfl, dic, _, rfl, DGet.k (k := Sum.inr (nm i)) hk1, _, rfl, ifF (by rw [hv]; rfl) ?_⟩
    refine ⟨_, rfl, _, rfl, fun f df nf ndf ne => ⟨f, df, d, i, rfl, mkH_at, fun H2 l e2 nl hf hl => ⟨rfl, ?_⟩⟩⟩
    have s2 := mkH_same (C := He.ga K "File") nf ndf ne
    have nfl : f ≠ l := ne_of_none mkH_at nl
    have st : ∀ c o, H1 c = some o → H2 c = some o := fun c o e => e2 c o (ne_of_none e nf) (s2 _ _ e)
    have hd2 := st _ _ hd1
    have hk2 := st _ _ hk1
    obtain ⟨dy, hf⟩ := hf
    refine ⟨_, rfl, d, _, dx, _, _, rfl, hd2, F.c_Disk, F.n_Disk_files, rfl, _, rfl, dic, _, rfl, DPut.k (k := Sum.inr (nm i)) hk2 (Nat.lt_of_le_of_lt hn (by decide)), ?_⟩
    have nl1 : H1 l = none := none_back s2 nl
    refine k _ f l (fun c o n e => ?_) (none_back s1 nf) (none_back s1 nl1) nfl ⟨dy, ?_⟩ ?_ upd_same
    · rw [upd_ne n]
      exact st _ _ (s1 _ _ e)
    · rw [upd_ne (ne_of hf hk2 (by intro z; cases z))]
      exact hf
    · rw [upd_ne (ne_of hl hk2 (by intro z; cases z))]
      exact hl
/-! ### open_file -/
def sp_open_file (K : PySem.W.Frag) : Sp := fun vs H Q _ => ∃ (A : DA) (ru : Str) (sh late i : Bool) (b : BookP) (af : Int) (fs : Bool → FS), vs = [.ref A.d, .str (nm i)] ∧ DiskAt K H A ru sh b late af fs ∧ (fs i).op = true ∧ Q (.ref (A.f i)) H
theorem sc_open_file : FnScope ["self", "name", "file"] ["self", "name"] (defScope S_Disk_open_file) := ⟨rfl, rfl, rfl, by decide +kernel, rfl, by decide +kernel, by decide +kernel⟩
theorem ok_open_file (F : Fx K mg) : OkD P w K mg base 3 (He.ma K (He.ga K "Disk") "open_file") ["self", "name"] (sp_open_file K) := by
  refine okd F.f_Disk_open_file sc_open_file (fun _ _ _ _ _ _ us hl => match us, hl with | [_, _], _ => rfl) (fun vs H Q E h => ?_) (fun cdv A outer s H vs Q E hr h => ?_)
  · obtain ⟨A, ru, sh, late, i, b, af, fs, rfl, _⟩ := h
    rfl
  · obtain ⟨A, ru, sh, late, i, b, af, fs, rfl, hD, ho, k⟩ := h
    have hd := hD.disk
    obtain ⟨dx, hdd⟩ := hD.disk
    obtain ⟨⟨df, hf⟩, _⟩ := hD.file i
    refine ⟨_, pss_cons (ps_set (i := 2) sc_open_file.nd rfl (Or.inl rfl) (pe_oIx (pv 0) (pv 1) F.m_Disk_getitem F.x_item (ok_getitem F) hr))
      (pss_cons (ps_if (pt_not (pt_val (pe_fld (pv 2) rfl))) (pss_one ps_never) pss_nil)
      (pss_one (ps_ret (pv 2)))), ?_⟩
    refine ⟨_, rfl, _, rfl, A.d, dx, _, rfl, hdd, A.d, A.bk, A.dic, ru, nm i, sh, late, af, kvA A, _, rfl, hd, hD.dic, valA A i, ?_⟩
    refine ⟨_, rfl, A.f i, _, df, _, _, rfl, hf, F.c_File, F.n_File_is_open, rfl, _, rfl, ifF (by rw [ho]; rfl) ?_⟩
    exact ⟨_, rfl, k⟩
end
end K36
/-! ## KD12 -/
namespace K36
open PySem PySem.Spec PyProof.Rows L2
/-! ### frames of a disk -/
def setF (fs : Bool → FS) (i : Bool) (s : FS) : Bool → FS := fun j => if j = i then s else fs j
theorem setF_at (fs : Bool → FS) (i : Bool) (s : FS) : setF fs i s i = s := if_pos rfl
theorem setF_ne (fs : Bool → FS) {i j : Bool} (s : FS) (h : j ≠ i) : setF fs i s j = fs j := if_neg h
def DA.Wi (A : DA) (i : Bool) : List Addr := [A.d, A.f i, A.l i]
theorem ins_ne {H : Hp} {a b C dx C' dx' : Addr} {fs gs : List (Str × V)} (ha : H a = some (.ins C dx fs)) (hb : H b = some (.ins C' dx' gs)) (n : fs.length ≠ gs.length) : a ≠ b := fun z => by
  rw [z, hb] at ha
  cases ha
  exact n rfl
theorem mem3 {a x y z : Addr} (h : a ∈ [x, y, z]) : a = x ∨ a = y ∨ a = z := by
  rcases List.mem_cons.mp h with e | h
  · exact .inl e
  · rcases List.mem_cons.mp h with e | h
    · exact .inr (.inl e)
    · exact .inr (.inr (List.mem_singleton.mp h))
theorem PL.frm {T : List (Addr × Str)} {W : List Addr} {H H' : Hp} {l : Addr} {ps : List PR} (h : PL H l ps) (fr : Frm T W H H') (hl : l ∉ W) (hW : ∀ a ∈ W, ∃ u, H a = some u ∧ ∀ xs, u ≠ .tup xs) : PL H' l ps := by
  obtain ⟨as, a⟩ := h
  refine ⟨as, fr.keep _ _ a.lst hl (by intro _ z; cases z), pr_map a.tup fun b p e => fr.keep _ _ e (fun z => ?_) (by intro _ z; cases z)⟩
  obtain ⟨u, hu, nu⟩ := hW b z
  have e' : H b = some (.tup [.int p.1, oV p.2]) := e
  rw [e'] at hu
  cases hu
  exact nu _ rfl
section
variable {K : PySem.W.Frag} {T : List (Addr × Str)} {H H' : Hp} {A B : DA} {ru ru' : Str} {sh sh' late late' i : Bool} {b b' : BookP} {af af' : Int} {fs gs : Bool → FS} {s : FS}
theorem DiskAt.wi (h : DiskAt K H A ru sh b late af fs) (i : Bool) : ∀ a ∈ A.Wi i, ∃ u, H a = some u ∧ (∀ xs, u ≠ .tup xs) ∧ (∀ kvs, u ≠ .dK kvs) ∧ (∀ C dx fl, u = .ins C dx fl → fl.length = 7 ∨ fl.length = 8) := fun a ha => by
  obtain ⟨dx, hd⟩ := h.disk
  obtain ⟨⟨df, hf⟩, as, hl⟩ := h.file i
  rcases mem3 ha with rfl | rfl | rfl
  · exact ⟨_, hd, (by intro _ z; cases z), (by intro _ z; cases z), fun C dx fl z => by cases z; exact .inr rfl⟩
  · exact ⟨_, hf, (by intro _ z; cases z), (by intro _ z; cases z), fun C dx fl z => by cases z; exact .inl rfl⟩
  · exact ⟨_, hl.lst, (by intro _ z; cases z), (by intro _ z; cases z), fun C dx fl z => by cases z⟩
/-- a book stands where no book is written -/
theorem BookAt.frm {bk : Addr} {W : List Addr} (h : BookAt K H bk b) (fr : Frm T W H H') (hW : ∀ a ∈ W, ∃ u, H a = some u ∧ (∀ xs, u ≠ .tup xs) ∧ (∀ C dx fl, u = .ins C dx fl → fl.length ≠ 3)) : BookAt K H' bk b := by
  obtain ⟨s, ⟨dx, e⟩, hs⟩ := h
  refine ⟨s, ⟨dx, fr.keep _ _ e (fun z => ?_) (by intro _ z; cases z)⟩, fr.keep _ _ hs (fun z => ?_) (by intro _ z; cases z)⟩
  · obtain ⟨u, hu, _, n⟩ := hW _ z
    rw [e] at hu
    cases hu
    exact n _ _ _ rfl rfl
  · obtain ⟨u, hu, n, _⟩ := hW _ z
    rw [hs] at hu
    cases hu
    exact n _ rfl
/-- one file was worked at -/
theorem DiskAt.next (h : DiskAt K H A ru sh b late af fs) (fr : Frm T (A.Wi i) H H') (hd : DiskI K H' A.d A.bk A.dic ru sh late af') (hf : FileL K H' A.d (A.f i) (A.l i) i s) : DiskAt K H' A ru sh b late af' (setF fs i s) := by
  have wi := h.wi i
  obtain ⟨dx, hd0⟩ := h.disk
  refine ⟨hd, fr.keep _ _ h.dic (fun z => ?_) (by intro _ z; cases z), fun j => ?_, h.book.frm fr fun a ha => ?_, h.lne, h.fne⟩
  · obtain ⟨u, hu, _, n, _⟩ := wi _ z
    rw [h.dic] at hu
    cases hu
    exact n _ rfl
  · by_cases e : j = i
    · rw [e, setF_at]
      exact hf
    · rw [setF_ne _ _ e]
      obtain ⟨⟨df, hfj⟩, hlj⟩ := h.file j
      obtain ⟨⟨dg, hfi⟩, _, hli⟩ := h.file i
      have nf : A.f j ≠ A.f i := by
        cases i <;> cases j
        · exact absurd rfl e
        · exact h.fne.symm
        · exact h.fne
        · exact absurd rfl e
      have nl : A.l j ≠ A.l i := by
        cases i <;> cases j
        · exact absurd rfl e
        · exact h.lne.symm
        · exact h.lne
        · exact absurd rfl e
      refine ⟨⟨df, fr.keep _ _ hfj (fun z => ?_) (by intro _ z; cases z)⟩, hlj.frm fr (fun z => ?_) fun a ha => ?_⟩
      · rcases mem3 z with z | z | z
        · exact ins_ne hfj hd0 (by show 7 ≠ 8; decide) z
        · exact nf z
        · exact ne_of hfj hli.lst (by intro z; cases z) z
      · obtain ⟨as, hla⟩ := hlj
        rcases mem3 z with z | z | z
        · exact ne_of hla.lst hd0 (by intro z; cases z) z
        · exact ne_of hla.lst hfi (by intro z; cases z) z
        · exact nl z
      · obtain ⟨u, hu, n, _⟩ := wi a ha
        exact ⟨u, hu, n⟩
  · obtain ⟨u, hu, n, _, n3⟩ := wi a ha
    refine ⟨u, hu, n, fun C dx fl e => ?_⟩
    rcases n3 C dx fl e with q | q
    · rw [q]; decide
    · rw [q]; decide
/-- two disks that share nothing -/
structure Sep (A B : DA) : Prop where
  d : A.d ≠ B.d
  f : ∀ i j, A.f i ≠ B.f j
  l : ∀ i j, A.l i ≠ B.l j
theorem Sep.symm (h : Sep A B) : Sep B A := ⟨h.d.symm, fun i j => (h.f j i).symm, fun i j => (h.l j i).symm⟩
/-- the other disk was worked at -/
theorem DiskAt.other (h : DiskAt K H A ru sh b late af fs) (g : DiskAt K H B ru' sh' b' late' af' gs) (p : Sep A B) (fr : Frm T (B.Wi i) H H') : DiskAt K H' A ru sh b late af fs := by
  have wi := g.wi i
  obtain ⟨dx, hd0⟩ := h.disk
  obtain ⟨dy, hd1⟩ := g.disk
  obtain ⟨⟨dg, hfi⟩, _, hli⟩ := g.file i
  refine ⟨⟨dx, fr.keep _ _ hd0 (fun z => ?_) (by intro _ z; cases z)⟩, fr.keep _ _ h.dic (fun z => ?_) (by intro _ z; cases z), fun j => ?_, h.book.frm fr fun a ha => ?_, h.lne, h.fne⟩
  · rcases mem3 z with z | z | z
    · exact p.d z
    · exact ins_ne hd0 hfi (by show 8 ≠ 7; decide) z
    · exact ne_of hd0 hli.lst (by intro z; cases z) z
  · obtain ⟨u, hu, _, n, _⟩ := wi _ z
    rw [h.dic] at hu
    cases hu
    exact n _ rfl
  · obtain ⟨⟨df, hfj⟩, hlj⟩ := h.file j
    refine ⟨⟨df, fr.keep _ _ hfj (fun z => ?_) (by intro _ z; cases z)⟩, hlj.frm fr (fun z => ?_) fun a ha => ?_⟩
    · rcases mem3 z with z | z | z
      · exact ins_ne hfj hd1 (by show 7 ≠ 8; decide) z
      · exact p.f _ _ z
      · exact ne_of hfj hli.lst (by intro z; cases z) z
    · obtain ⟨as, hla⟩ := hlj
      rcases mem3 z with z | z | z
      · exact ne_of hla.lst hd1 (by intro z; cases z) z
      · exact ne_of hla.lst hfi (by intro z; cases z) z
      · exact p.l _ _ z
    · obtain ⟨u, hu, n, _⟩ := wi a ha
      exact ⟨u, hu, n⟩
  · obtain ⟨u, hu, n, _, n3⟩ := wi a ha
    refine ⟨u, hu, n, fun C dx fl e => ?_⟩
    rcases n3 C dx fl e with q | q
    · rw [q]; decide
    · rw [q]; decide
theorem DiskAt.ext (h : DiskAt K H A ru sh b late af fs) (e : LamX.ExtN H H') : DiskAt K H' A ru sh b late af fs := by
  obtain ⟨dx, hd0⟩ := h.disk
  refine ⟨⟨dx, e _ _ hd0 (by intro _ z; cases z)⟩, e _ _ h.dic (by intro _ z; cases z), fun j => ?_, h.book.keep e, h.lne, h.fne⟩
  obtain ⟨⟨df, hfj⟩, hlj⟩ := h.file j
  exact ⟨⟨df, e _ _ hfj (by intro _ z; cases z)⟩, hlj.keep e⟩
end
section
variable {P : Program} {w : World} {K : PySem.W.Frag} {mg : Str → Option Value} {base : Heap}
/-! ### free -/
def upto (fs : Bool → FS) : Nat → List (Int × Int)
  | 0 => []
  | 1 => (fs false).runs
  | _ => allR fs
def sp_free (K : PySem.W.Frag) : Sp := fun vs H Q _ => ∃ (A : DA) (ru : Str) (sh late : Bool) (b : BookP) (af : Int) (fs : Bool → FS), vs = [.ref A.d] ∧ DiskAt K H A ru sh b late af fs ∧ (∀ i, (fs i).runs.length ≤ 2000) ∧ LamX.Tabs (TT K) H ∧
  ∀ H' r, Frm (TT K) [] H H' → RoomAt K H' r (freeF (allR fs)) → Q (.ref r) H'
theorem sc_free : FnScope ["self", "runs", "file"] ["self"] (defScope S_Disk_free) := ⟨rfl, rfl, rfl, by decide +kernel, rfl, by decide +kernel, by decide +kernel⟩
theorem ok_free (F : Fx K mg) (TB : LamX.TabB base mg (cJ K) (tJ K)) : OkD P w K mg base 7 (He.ma K (He.ga K "Disk") "free") ["self"] (sp_free K) := by
  refine okd F.f_Disk_free sc_free (fun _ _ _ _ _ _ us hl => match us, hl with | [_], _ => rfl) (fun vs H Q E h => ?_) (fun cdv A₀ outer s H vs Q E hr h => ?_)
  · obtain ⟨A, ru, sh, late, b, af, fs, rfl, _⟩ := h
    rfl
  · obtain ⟨A, ru, sh, late, b, af, fs, rfl, hD, hn, hT, k⟩ := h
    refine ⟨_, pss_cons (ps_set (i := 1) sc_free.nd rfl (Or.inl rfl) (pe_lst pa_nil))
      (pss_cons (ps_for PassesOwn.never rfl (pi_list (pe_listVals rfl (pe_fld (pv 0) rfl) (by rfl) F.b_list (by decide +kernel))) (pg_name (i := 2) sc_free.nd rfl (.inl rfl))
        (pss_one (ps_expr (pe_bm PySem.F.plainAttrs_list PySem.F.slot_list_extend PySem.F.type_list_extend mt_extend (pv 1) (pa_cons (pe_me0 (pv 2) F.c_File F.m_File_pieces (ok_pieces F) (hr.mono (by decide))) pa_nil)))))
      (pss_one (ps_ret (pe_op (op_oSub F.m_Room_sub F.x_first (ok_Room_sub F TB) hr)
        (pe_mk F.k_Room (ok_Room_init F TB) (hr.mono (by decide)) (by rfl) F.g_Room (pa_cons (pe_lst (pa_cons (pe_tup (pa_cons pe_int (pa_cons (pe_fld (pv 0) rfl) pa_nil))) pa_nil)) pa_nil))
        (pe_cl (ok_room_of F TB) (hr.mono (by decide)) (by rfl) F.g_room_of F.p_room_of (pa_cons (pe_cl (ok_joined F TB) (hr.mono (by decide)) (by rfl) F.g_joined F.p_joined (pa_cons (pv 1) pa_nil)) pa_nil)))))), ?_⟩
    obtain ⟨dx, hd⟩ := hD.disk
    refine ⟨by decide, fun l hl => ?_⟩
    have hd1 := (same_upd (o := .lst []) hl) _ _ hd
    have hk1 := (same_upd (o := .lst []) hl) _ _ hD.dic
    refine ⟨_, rfl, A.d, _, dx, _, _, rfl, hd1, F.c_Disk, F.n_Disk_files, rfl, A.dic, _, rfl, hk1, fun q hq => ?_⟩
    have nql : q ≠ l := (ne_of_none upd_same hq).symm
    have hq0 : H q = none := none_back (same_upd hl) hq
    have s3 : Same H (upd (upd H l (.lst [])) q (.lst ((kvA A).map (·.2)))) := same_trans (same_upd hl) (same_upd hq)
    have hq3 : upd (upd H l (.lst [])) q (.lst ((kvA A).map (·.2))) q = some (.lst [.ref (A.f false), .ref (A.f true)]) := upd_same
    have hl3 : upd (upd H l (.lst [])) q (.lst ((kvA A).map (·.2))) l = some (.lst []) := by rw [upd_ne nql.symm]; exact upd_same
    have sqq : SqL K (upd (upd H l (.lst [])) q (.lst ((kvA A).map (·.2)))) q [.ref (A.f false), .ref (A.f true)] := SqL.of hq3
    refine ⟨q, rfl, ⟨_, sqq⟩, ?_⟩
    generalize upd (upd H l (.lst [])) q (.lst ((kvA A).map (·.2))) = H3 at s3 hq3 hl3 sqq ⊢
    refine for_list (xs := [.ref (A.f false), .ref (A.f true)]) (fun i σ H' => (∀ b o, H3 b = some o → b ≠ l → H' b = some o) ∧ Same H H' ∧ PL H' l (finR (upto fs i)) ∧ ∃ x2, σ = [some (.ref A.d), some (.ref l), x2])
      ⟨fun _ _ e _ => e, s3, ⟨[], hl3, .nil⟩, _, rfl⟩ (fun i σ H' _ p => SqL.of (p.1 _ _ hq3 nql)) (fun i x σ H' hx p => ?_) fun σ H' p => ?_
    · obtain ⟨k1, s1, ⟨ca, hc⟩, x2, rfl⟩ := p
      obtain ⟨j, rfl, ej⟩ : ∃ j : Bool, x = .ref (A.f j) ∧ upto fs (i + 1) = upto fs i ++ (fs j).runs := by
        match i, hx with
        | 0, hx => cases hx; exact ⟨false, rfl, by show (fs false).runs = [] ++ (fs false).runs; rw [List.nil_append]⟩
        | 1, hx => cases hx; exact ⟨true, rfl, rfl⟩
        | n + 2, hx => simp at hx
      have up : (upto fs i).length ≤ 4000 := by
        have h0 := hn false
        have h1 := hn true
        match i with
        | 0 => exact Nat.zero_le _
        | 1 => exact Nat.le_trans h0 (by decide)
        | n + 2 =>
          show (allR fs).length ≤ _
          unfold allR
          rw [List.length_append]
          omega
      obtain ⟨⟨df, hf⟩, hlj⟩ := hD.file j
      have hf1 := s1 _ _ hf
      refine ⟨_, rfl, .inl ⟨rfl, _, hc.sq⟩, _, rfl, A.f j, df, _, rfl, hf1, rfl, A.d, A.f j, A.l j, j, fs j, rfl, ⟨⟨df, hf1⟩, hlj.same s1⟩, fun H2 q2 b2 => ?_⟩
      obtain ⟨ba, hb⟩ := b2.at_
      have hc2 : PLa H2 l ca (finR (upto fs i)) := hc.keep (extN_same b2.same)
      refine ⟨l, q2, _, _, rfl, rfl, hc2.lst, hb.lst, ?_, ?_⟩
      · have e1 := hc2.len
        have e2 := hb.len
        have e3 := hn j
        have e4 : sizeLine = 16777216 := rfl
        rw [fin_len] at e1 e2
        rw [List.length_map, List.length_map]
        omega
      · refine ⟨fun b o e n => ?_, fun b o e => ?_, ?_, _, rfl⟩
        · rw [upd_ne n]
          exact b2.same _ _ (k1 b o e n)
        · rw [upd_ne (ne_of_none e hl)]
          exact b2.same _ _ (s1 b o e)
        · rw [ej, fin_app]
          exact PL.append hc2 hb
    · obtain ⟨k1, s1, hc, x2, rfl⟩ := p
      have hc : PL H' l (finR (allR fs)) := hc
      have hd2 := s1 _ _ hd
      have hT2 := hT.ext s1
      have len : (allR fs).length ≤ 4000 := by
        have h0 := hn false
        have h1 := hn true
        unfold allR
        rw [List.length_append]
        omega
      refine ⟨_, rfl, A.d, _, dx, _, _, rfl, hd2, F.c_Disk, F.n_Disk_size, rfl, by show 2 ≤ sizeLine; decide, fun t ht => ⟨by show 1 ≤ sizeLine; decide, fun m hm => ?_⟩⟩
      have s4 : Same H' (upd (upd H' t (.tup [.int 0, .non])) m (.lst [.ref t])) := same_trans (same_upd ht) (same_upd hm)
      have pm : PL (upd (upd H' t (.tup [.int 0, .non])) m (.lst [.ref t])) m [(0, none)] := ⟨[t], upd_same, .cons (by
        have z : upd H' t (.tup [.int 0, .non]) t = some (.tup [.int 0, .non]) := upd_same
        show upd _ m _ t = _
        rw [upd_ne (ne_of_none z hm)]
        exact z) .nil⟩
      intro x dr nx ndr ne
      have s5 := mkH_same (C := He.ga K "Room") nx ndr ne
      refine ⟨x, dr, _, rfl, mkH_at, .inr ⟨m, rfl, pm.same s5, (hT2.ext s4).ext s5, fun H5 p fr hx5 hp5 => ⟨rfl, ?_⟩⟩⟩
      have fH5 : Frm (TT K) [] H' H5 := ((Frm.same hT2 s4).trans (Frm.same (hT2.ext s4) s5)).fresh fr fun a ha => by rw [List.mem_singleton.mp ha]; exact none_back s4 nx
      refine ⟨_, rfl, l, _, rfl, hc.keep fH5.ext, by rw [fin_len]; omega, fH5.tabs, fun H6 lj b6 => ?_⟩
      refine ⟨lj, _, rfl, b6.at_, fun H7 r7 s7 n7 a7 => ?_⟩
      have f7 : Frm (TT K) [] H5 H7 := b6.frm.trans (Frm.same b6.frm.tabs s7)
      have hx7 := f7.keep _ _ hx5 (by simp) (by intro _ z; cases z)
      obtain ⟨l7, ⟨d7, h7⟩, p7⟩ := a7
      have jl := joined_len (finR (allR fs))
      rw [fin_len] at jl
      refine ⟨x, r7, dr, d7, _, _, rfl, rfl, hx7, h7, x, r7, [(0, none)], joinedF (finR (allR fs)), rfl, ⟨p, ⟨dr, hx7⟩, hp5.keep f7.ext⟩, ⟨l7, ⟨d7, h7⟩, p7⟩, by decide, by omega, fun H8 r s8 n8 a8 => ⟨⟨r, rfl⟩, ?_⟩⟩
      exact k H8 r (((Frm.same hT s1).trans fH5).trans (f7.trans (Frm.same f7.tabs s8))) a8
end
end K36
/-! ## KD13 -/
namespace K36
open PySem PySem.Spec PyProof.Rows L2
/-- what several branches reach -/
theorem branch {R : L2.St → Hp → Prop} {G : Prop} (M : L2.St → Hp → Prop) (h : (∀ σ H, M σ H → R σ H) → G) (hr : ∀ σ H, M σ H → R σ H) : G := h hr
theorem behind_some {rs : List (Int × Int)} {fr : List PR} {c : Int × Int} (h : rs.getLast? = some c) : behindF rs fr = c.1 + c.2 := by
  unfold behindF
  rw [h]
theorem behind_none {rs : List (Int × Int)} {fr : List PR} (h : rs.getLast? = none) : behindF rs fr = match runsOf fr with
    | [] => 0
    | r :: _ => r.1 := by
  unfold behindF
  rw [h] <;> first | rfl | (cases runsOf fr <;> rfl)
section
variable {X : Cx} {k : Nat} {f C : Addr} {ps : List Str} {sp : Sp} {o e : Expr} {es : List Expr} {m : Str} {ta : TE} {t : TA} {apos pos : Pos}
/-- o.m(e, ..), m a field that holds an instance of C, which may be called -/
def tOwnF (X : Cx) (C : Addr) (m : Str) (sp : Sp) (ta : TE) (t : TA) : TE := fun σ H Q => ta σ H fun x H1 => ∃ p C2 dx fs a, x = V.ref p ∧ H1 p = some (.ins C2 dx fs) ∧ Cls X.K C2 ∧ NoAttr X.K C2 m ∧ fs.lookup m = some (V.ref a) ∧
  t σ H1 fun vs H2 => StX.InsC X H2 a C ∧ sp (V.ref a :: vs) H2 Q E0
theorem pe_ownF {pl : Sem Bool} (ho : PE X o ta) (mm : Meth X.K C "__call__" f) (fi : PySem.W.fnIn X.K f = true) (F : OkD X.prog X.w X.K X.mg X.base k f ps sp) (hr : Room k X.A) (ha : PA X (e :: es) t)
    (ht : eval (.Call (.Attribute o m apos) (e :: es) [] pos) X.env = (do
      let ov ← eval o X.env
      standAt apos.atName
      let (g, first) ← holding [ov] (getMethod ov m pl)
      callWith pos g first (backTo pos (starEach (e :: es) X.env)) (backToKw pos (keywordEach [] X.env))) := by rfl)
    (he : starEach (e :: es) X.env = (false, eval e X.env) :: starEach es X.env := by rfl) (hpl : (backTo pos (starEach es X.env)).any (·.1) = false := by rfl) :
    PE X (.Call (.Attribute o m apos) (e :: es) [] pos) (tOwnF X C m sp ta t) := by
  obtain ⟨_, G, b⟩ := F
  refine ⟨fun pins s σ H Q I h => ?_⟩
  refine PySem.W.methodCall_KW (pl := pl) (thn (ho.run pins s σ H _ I h) fun u sa ⟨x, Ha, Ia, rx, p, C2, dx, fs, a, ex, ep, c, n, l, q⟩ => ?_) ht
  subst ex
  obtain rfl : u = Value.ref p := rx
  refine getmeth_fld Ia ep c n l fun u2 sb Ib r2 => ?_
  obtain rfl : u2 = Value.ref a := r2
  refine StX.callO_with (thn (ha.run pos pins sb σ Ha _ Ib q) fun us sc ⟨vs, Hc, Ic, r, hi, q2⟩ => ?_) he hpl
  obtain ⟨ox, od, J, hd⟩ := StX.insC_at Ic hi
  exact ⟨⟨C, ox, od, J, hd⟩, StX.run_callO ⟨mm.at_, mm.fn, fi⟩ ((G.raw b .nil).imp (sp' := sp) fun vs H Q E h => by rw [List.append_nil]; exact h) hr pass0 Ic hi r q2⟩
end
section
variable {P : Program} {w : World} {K : PySem.W.Frag} {mg : Str → Option Value} {base : Heap}
/-! ### written_behind -/
/-- numbers within bounds -/
structure Bnd (fs : Bool → FS) (af B : Int) (n : Nat) : Prop where
  f : ∀ j, FOk B B n (fs j)
  n : n ≤ 1000
  a0 : 0 ≤ af
  aB : af ≤ B
  B : B ≤ 10 ^ 20
theorem Bnd.all {fs : Bool → FS} {af B : Int} {n : Nat} (h : Bnd fs af B n) : ∀ r ∈ allR fs, RunIn B r := fun r hr => by
  rcases List.mem_append.mp hr with z | z
  · exact (h.f false).ri r z
  · exact (h.f true).ri r z
def sp_written (K : PySem.W.Frag) : Sp := fun vs H Q _ => ∃ (A : DA) (ru : Str) (sh late i : Bool) (b : BookP) (af many B : Int) (n : Nat) (fs : Bool → FS), vs = [.ref A.d, .ref (A.f i), .int many] ∧ DiskAt K H A ru sh b late af fs ∧ RuleOk ru ∧ BookOk b ∧ Bnd fs af B n ∧ 0 ≤ many ∧ many ≤ 10 ^ 20 ∧ LamX.Tabs (TT K) H ∧
  ∀ H', Frm (TT K) (A.Wi i) H H' → DiskAt K H' A ru sh b late (wA (parOf ru b) (allR fs) (fs i) many af) (setF fs i (wF (parOf ru b) (allR fs) (fs i) many af)) → Q (.int (wG (parOf ru b) (fs i) many)) H'
theorem sc_written : FnScope ["self", "file", "many", "need", "free", "asked", "behind", "runs", "start", "length"] ["self", "file", "many"] (defScope S_Disk_written_behind) := ⟨rfl, rfl, rfl, by decide +kernel, rfl, by decide +kernel, by decide +kernel⟩
theorem ok_written (F : Fx K mg) (TB : LamX.TabB base mg (cJ K) (tJ K)) : OkD P w K mg base 9 (He.ma K (He.ga K "Disk") "written_behind") ["self", "file", "many"] (sp_written K) := by
  refine okd F.f_Disk_written_behind sc_written (fun _ _ _ _ _ _ us hl => match us, hl with | [_, _, _], _ => rfl) (fun vs H Q E h => ?_) (fun cdv A₀ outer s H vs Q E hr h => ?_)
  · obtain ⟨A, ru, sh, late, i, b, af, many, B, n, fs, rfl, _⟩ := h
    rfl
  · obtain ⟨A, ru, sh, late, i, b, af, many, B, n, fs, rfl, hD, hru, hb, hB, m0, m1, hT, k⟩ := h
    refine ⟨_, pss_cons (ps_set (i := 3) sc_written.nd rfl (Or.inl rfl) (pe_op op_sub (pe_op op_add (pe_fld (pv 1) rfl) (pv 2)) (pe_fld (pv 1) rfl)))
      (pss_cons (ps_if (pt_cmpR op_le (pv 3) pe_int (nomark _)) (pss_cons (ps_fldaug (pv 1) (pv 2) in_add) (pss_one (ps_ret pe_int))) pss_nil)
      (pss_cons (ps_set (i := 4) sc_written.nd rfl (Or.inl rfl) (pe_me0 (pv 0) F.c_Disk F.m_Disk_free (ok_free F TB) (hr.mono (by decide))))
      (pss_cons (ps_set (i := 5) sc_written.nd rfl (Or.inl rfl) (pe_ownF (pv 0) F.m_Book_call F.x_call (ok_Book_call F) (hr.mono (by decide)) (pa_cons (pe_fld (pv 1) rfl) (pa_cons (pv 3) pa_nil))))
      (pss_cons (ps_set (i := 6) sc_written.nd rfl (Or.inl rfl) pe_int)
      (pss_cons (ps_if (pt_cmpR op_gt (pe_callB call_len (by rfl) F.b_len PySem.boot_len (pa_cons (pe_fld (pv 1) rfl) pa_nil)) pe_int (nomark _))
          (pss_one (ps_set (i := 6) sc_written.nd rfl (Or.inl rfl) (pe_callB (cr_sumT rfl) (by rfl) F.b_sum (by decide +kernel) (pa_cons (pe_ix ix_list (pe_fld (pv 1) rfl) (pe_un un_neg pe_int) (fun _ _ => rfl)) pa_nil))))
          (pss_one (ps_if (pt_oBool (pv 4) F.m_Room_bool (ok_Room_bool F) (hr.mono (by decide))) (pss_one (ps_set (i := 6) sc_written.nd rfl (Or.inl rfl) (pe_ix ix_tup (pe_ix ix_list (pe_me0 (pv 4) F.c_Room F.m_Room_runs (ok_Room_runs F) (hr.mono (by decide))) pe_int (fun _ _ => rfl)) pe_int (fun _ _ => rfl)))) pss_nil)))
      (pss_cons (ps_set (i := 7) sc_written.nd rfl (Or.inl rfl) (pe_ck (n := 3) (ok_placed F) hr (by rfl) F.g_placed F.p_placed (pa_cons (pe_fld (pv 0) rfl) (pa_cons (pv 4) (pa_cons (pv 5) pa_nil))) (pk_cons (pv 6) (pk_cons (pe_fld (pv 0) rfl) (pk_cons (pe_fld (pv 0) rfl) (pk_cons (pv 3) pk_nil))))))
      (pss_cons (ps_if (pt_cmp (pc_isN (pv 7)) rfl) (pss_one ps_never) pss_nil)
      (pss_cons (ps_expr (pe_me (pv 1) F.c_File F.m_File_put_behind (ok_put_behind F) (hr.mono (by decide)) (pa_cons (pv 7) pa_nil)))
      (pss_cons (ps_fldaug (pv 1) (pv 2) in_add)
      (pss_cons (ps_fld (pv 0) (pe_callB (cr_sumT rfl) (by rfl) F.b_sum (by decide +kernel) (pa_cons (pe_ix ix_list (pv 7) (pe_un un_neg pe_int) (fun _ _ => rfl)) pa_nil)) rfl)
      (pss_one (ps_ret (pe_callB (cr_sum rfl) (by rfl) F.b_sum (by decide +kernel) (pa_cons (pe_lc (own := [("start", 8), ("length", 9)]) (g := gTup K 2 (gCons (gName 8) (gCons (gName 9) gNil))) (tt := tYes) rfl sc_written.nd (pi_list (pv 7))
        (blkOk_by (own := [("start", 8), ("length", 9)]) (N := ["self", "file", "many", "need", "free", "asked", "behind", "runs", "start", "length"]) (sc := defScope S_Disk_written_behind) (by decide +kernel))
        (fun _ _ _ _ _ => pg_tup rfl (pgs_cons (pg_name (i := 8) sc_written.nd rfl (Or.inl rfl)) (pgs_cons (pg_name (i := 9) sc_written.nd rfl (Or.inl rfl)) pgs_nil))) (fun _ _ _ _ _ => pts_nil) (fun _ _ _ _ _ => pv 9)) pa_nil)))))))))))))), ?_⟩
    obtain ⟨dx, hd⟩ := hD.disk
    obtain ⟨⟨df, hf⟩, hL⟩ := hD.file i
    have memf : A.f i ∈ A.Wi i := List.mem_cons_of_mem _ List.mem_cons_self
    have memd : A.d ∈ A.Wi i := List.mem_cons_self
    have meml : A.l i ∈ A.Wi i := List.mem_cons_of_mem _ (List.mem_cons_of_mem _ List.mem_cons_self)
    refine ⟨_, rfl, A.f i, _, df, _, _, rfl, hf, F.c_File, F.n_File_size, rfl, _, rfl, _, _, rfl, rfl, _, rfl, A.f i, _, df, _, _, rfl, hf, F.c_File, F.n_File_hold, rfl, _, _, rfl, rfl, ?_⟩
    refine ⟨_, rfl, _, _, rfl, rfl, _, rfl, ifC (fun c => ?_) fun c => ?_⟩
    · have hc : needF (fs i) many ≤ 0 := of_decide_eq_true c
      have ew : wF (parOf ru b) (allR fs) (fs i) many af = { fs i with size := (fs i).size + many } := if_pos hc
      have ea : wA (parOf ru b) (allR fs) (fs i) many af = af := if_pos hc
      have eg : wG (parOf ru b) (fs i) many = 0 := if_pos hc
      refine ⟨_, rfl, A.f i, _, df, _, _, rfl, hf, F.c_File, F.n_File_size, rfl, _, rfl, _, _, rfl, rfl, df, _, hf, by show 7 < 1000; decide, ?_⟩
      rw [ew, ea, eg] at k
      have fr : Frm (TT K) (A.Wi i) H (upd H (A.f i) (.ins (He.ga K "File") df (fileF A.d i { fs i with size := (fs i).size + many } (A.l i)))) := (Frm.refl hT).upd (.inr ⟨.inl memf, _, hf, flat_ins _ _ _⟩)
      refine k _ fr (hD.next fr ⟨dx, ?_⟩ ⟨⟨df, upd_same⟩, hL.ins hf (by intro _ z; cases z) (by intro _ z; cases z)⟩)
      rw [upd_ne (ins_ne hd hf (by show 8 ≠ 7; decide))]
      exact hd
    · have hc : ¬ needF (fs i) many ≤ 0 := of_decide_eq_false c
      have g := give_ok (P := parOf ru b) (many := many) hb (Int.le_trans hB.a0 hB.aB) (hB.f i) hB.all ⟨hB.a0, hB.aB⟩ hc
      have BB := hB.B
      have nn := hB.n
      have hn2 : ∀ j, (fs j).runs.length ≤ 2000 := fun j => Nat.le_trans (hB.f j).rn (by omega)
      have fl : (freeF (allR fs)).length ≤ 5000 := by
        have h1 := free_len (allR fs)
        have h2 := hn2 false
        have h3 := hn2 true
        have h4 : (allR fs).length = (fs false).runs.length + (fs true).runs.length := List.length_append
        omega
      refine ⟨_, rfl, A.d, dx, _, rfl, hd, rfl, A, ru, sh, late, b, af, fs, rfl, hD, hn2, hT, fun H1 r f1 a1 => ?_⟩
      have hD1 := hD.ext f1.ext
      have hd1 := f1.ext _ _ hd (by intro _ z; cases z)
      have hf1 := f1.ext _ _ hf (by intro _ z; cases z)
      have hB1 := hD1.book
      have hB1' := hB1
      obtain ⟨sb, ⟨db, hbk⟩, _⟩ := hB1'
      have h0 := (hB.f i).s0
      have h1 := (hB.f i).sh
      have h2 := (hB.f i).hS
      have g1 := g.need1
      have g2 := g.needm
      obtain ⟨g3, g4⟩ := g.ask
      refine ⟨_, rfl, A.d, _, dx, _, A.bk, rfl, hd1, F.c_Disk, F.n_Disk_own_book, rfl, _, rfl, A.f i, _, df, _, _, rfl, hf1, F.c_File, F.n_File_hold, rfl, _, rfl, .inr ⟨db, _, hbk⟩, A.bk, b, (fs i).hold, needF (fs i) many, rfl, hb.n, hB1, by omega, by omega, g1, by omega, ?_⟩
      show _
      apply branch (M := fun σ' H' => ∃ x7 x8 x9, σ' = [some (.ref A.d), some (.ref (A.f i)), some (.int many), some (.int (needF (fs i) many)), some (.ref r), some (.int (askF (parOf ru b) (fs i) many)), some (.int (behindF (fs i).runs (freeF (allR fs)))), x7, x8, x9] ∧ Frm (TT K) [] H H' ∧ RoomAt K H' r (freeF (allR fs)))
      · intro nx
        obtain ⟨⟨df1, hf1'⟩, ca, hc1⟩ := hD1.file i
        refine ⟨_, rfl, A.f i, _, df, _, _, rfl, hf1, F.c_File, F.n_File_runs_held, rfl, _, (ca.map V.ref).length, rfl, .inl ⟨_, hc1.sq, rfl⟩, _, _, rfl, rfl, _, rfl, ?_⟩
        cases hg : (fs i).runs.getLast? with
        | some c =>
          obtain ⟨c1, c2⟩ := c
          obtain ⟨ta, hta, htc⟩ := hc1.last (fin_last hg)
          have pos : 0 < (ca.map V.ref).length := by
            rw [List.length_map, hc1.len, fin_len]
            cases er : (fs i).runs with
            | nil => rw [er] at hg; cases hg
            | cons _ _ => exact Nat.succ_pos _
          have sq1 : SqT K H1 ta [.int c1, .int c2] := SqT.of htc
          refine ifT (decide_eq_true (by omega)) ⟨_, rfl, A.f i, _, df, _, _, rfl, hf1, F.c_File, F.n_File_runs_held, rfl, _, rfl, A.l i, _, _, _, rfl, rfl, hc1.sq, atI_neg1 hta, ta, c1, c2, rfl, sq1, ?_⟩
          exact nx _ _ ⟨_, _, _, by rw [behind_some hg]; rfl, f1, a1⟩
        | none =>
          have er : (fs i).runs = [] := List.getLast?_eq_none_iff.mp hg
          have hz : (ca.map V.ref).length = 0 := by
            rw [List.length_map, hc1.len, er]
            rfl
          obtain ⟨lr, ⟨dr, hrr⟩, plr⟩ := a1
          have a1 : RoomAt K H1 r (freeF (allR fs)) := ⟨lr, ⟨dr, hrr⟩, plr⟩
          refine ifF (by rw [hz]; rfl) ⟨_, rfl, r, dr, _, rfl, hrr, r, _, rfl, a1, _, rfl, ifC (fun c => ?_) fun c => ?_⟩
          · refine ⟨_, rfl, r, dr, _, rfl, hrr, rfl, r, _, rfl, a1, by omega, fun H2 q b2 => ?_⟩
            obtain ⟨ba, hba⟩ := b2.at_
            cases e : runsOf (freeF (allR fs)) with
            | nil =>
              have e2 : (runsOf (freeF (allR fs))).length = 0 := by rw [e]; rfl
              unfold runsOf at e2
              rw [List.length_map] at e2
              have := of_decide_eq_true c
              omega
            | cons p t =>
              obtain ⟨p1, p2⟩ := p
              rw [e] at hba
              obtain ⟨x, hx, hxt⟩ := pr_at (i := 0) hba.tup rfl
              have hx' : (ba.map V.ref)[0]? = some (.ref x) := by rw [List.getElem?_map, hx]; rfl
              refine ⟨q, _, 0, _, rfl, rfl, hba.sq, atI_nat (j := 0) hx', x, _, 0, _, rfl, rfl, SqT.of hxt, atI_nat (j := 0) rfl, ?_⟩
              exact nx _ _ ⟨_, _, _, by rw [behind_none hg, e]; rfl, f1.trans (Frm.same f1.tabs b2.same), a1.keep (extN_same b2.same)⟩
          · have e : runsOf (freeF (allR fs)) = [] := by
              have := of_decide_eq_false c
              have z : (freeF (allR fs)).length = 0 := by omega
              rw [List.length_eq_zero_iff.mp z]
              rfl
            exact nx _ _ ⟨_, _, _, by rw [behind_none hg, e]; rfl, f1, a1⟩
      · rintro σ' H2 ⟨x7, x8, x9, rfl, f2, a2⟩
        have hD2 := hD.ext f2.ext
        have hd2 := f2.ext _ _ hd (by intro _ z; cases z)
        obtain ⟨bh0, bh1⟩ := g.beh
        have a0 := hB.a0
        have a1' := hB.aB
        refine ⟨_, rfl, A.d, _, dx, _, _, rfl, hd2, F.c_Disk, F.n_Disk_rule, rfl, _, rfl, _, rfl, _, rfl, _, rfl, A.d, _, dx, _, _, rfl, hd2, F.c_Disk, F.n_Disk_after, rfl, _, rfl, A.d, _, dx, _, _, rfl, hd2, F.c_Disk, F.n_Disk_short, rfl, _, rfl, rfl, rfl,
          ru, r, _, _, _, _, _, _, _, b, rfl, hru, a2, fl, by omega, by omega, bh0, by omega, a0, by omega, g1, g3, g.at_, fun H3 l4 b3 => ?_⟩
        obtain ⟨⟨df2, hf2⟩, hL2⟩ := hD2.file i
        have f3 : Frm (TT K) [] H H3 := f2.trans (Frm.same f2.tabs b3.same)
        have hf3 := f3.ext _ _ hf (by intro _ z; cases z)
        have hd3 := f3.ext _ _ hd (by intro _ z; cases z)
        have hL3 : PL H3 (A.l i) (finR (fs i).runs) := hL.keep f3.ext
        have nl4 : l4 ≠ A.l i := by
          obtain ⟨as2, h2⟩ := hL2
          exact (ne_of_none h2.lst b3.new).symm
        refine ⟨_, rfl, _, rfl, ifF rfl ?_⟩
        refine ⟨_, rfl, A.f i, df, _, rfl, hf3, rfl, _, rfl, A.d, A.f i, A.l i, l4, i, fs i, _, _, rfl, ⟨⟨df, hf3⟩, hL3⟩, b3.at_, nl4, by have := hn2 i; omega, f3.tabs, fun H4 f4 g4 => ?_⟩
        obtain ⟨⟨dg, hf4⟩, hL4⟩ := g4
        have f4' : Frm (TT K) (A.Wi i) H H4 := (f3.mono (by simp)).trans (f4.mono fun a ha => List.mem_cons_of_mem _ ha)
        have nd : A.d ∉ [A.f i, A.l i] := fun z => by
          obtain ⟨as3, h3⟩ := hL3
          rcases List.mem_cons.mp z with z | z
          · exact ins_ne hd3 hf3 (by show 8 ≠ 7; decide) z
          · exact ne_of hd3 h3.lst (by intro z; cases z) (List.mem_singleton.mp z)
        have hd4 := f4.keep _ _ hd3 nd (by intro _ z; cases z)
        have p4 : PL H4 l4 [(startF (parOf ru b) (allR fs) (fs i) many af, some (askF (parOf ru b) (fs i) many))] := by
          refine b3.at_.frm f4 (fun z => ?_) fun a ha => ?_
          · rcases List.mem_cons.mp z with z | z
            · obtain ⟨as3, h3⟩ := b3.at_
              exact ne_of h3.lst hf3 (by intro z; cases z) z
            · exact nl4 (List.mem_singleton.mp z)
          · rcases List.mem_cons.mp ha with z | z
            · rw [z]; exact ⟨_, hf3, by intro _ z; cases z⟩
            · obtain ⟨as3, h3⟩ := hL3
              rw [List.mem_singleton.mp z]
              exact ⟨_, h3.lst, by intro _ z; cases z⟩
        -- file.size += many
        refine ⟨_, rfl, A.f i, _, dg, _, _, rfl, hf4, F.c_File, F.n_File_size, rfl, _, rfl, _, _, rfl, rfl, dg, _, hf4, by show 7 < 1000; decide, ?_⟩
        have ew : wF (parOf ru b) (allR fs) (fs i) many af = { fs i with size := (fs i).size + many, hold := (fs i).hold + askF (parOf ru b) (fs i) many, runs := putF1 (fs i).runs (startF (parOf ru b) (allR fs) (fs i) many af) (askF (parOf ru b) (fs i) many) } := if_neg hc
        have ea : wA (parOf ru b) (allR fs) (fs i) many af = startF (parOf ru b) (allR fs) (fs i) many af + askF (parOf ru b) (fs i) many := if_neg hc
        have eg : wG (parOf ru b) (fs i) many = askF (parOf ru b) (fs i) many := if_neg hc
        rw [ew, ea, eg] at k
        have hf5 : upd H4 (A.f i) (.ins (He.ga K "File") dg (fileF A.d i { fs i with size := (fs i).size + many, hold := (fs i).hold + askF (parOf ru b) (fs i) many, runs := putF1 (fs i).runs (startF (parOf ru b) (allR fs) (fs i) many af) (askF (parOf ru b) (fs i) many) } (A.l i))) (A.f i) = some (.ins (He.ga K "File") dg (fileF A.d i { fs i with size := (fs i).size + many, hold := (fs i).hold + askF (parOf ru b) (fs i) many, runs := putF1 (fs i).runs (startF (parOf ru b) (allR fs) (fs i) many af) (askF (parOf ru b) (fs i) many) } (A.l i))) := upd_same
        have nfd : A.d ≠ A.f i := ins_ne hd4 hf4 (by show 8 ≠ 7; decide)
        have hd5 : upd H4 (A.f i) (.ins (He.ga K "File") dg (fileF A.d i { fs i with size := (fs i).size + many, hold := (fs i).hold + askF (parOf ru b) (fs i) many, runs := putF1 (fs i).runs (startF (parOf ru b) (allR fs) (fs i) many af) (askF (parOf ru b) (fs i) many) } (A.l i))) A.d = some (.ins (He.ga K "Disk") dx (diskF A.bk ru sh late af A.dic)) := (upd_ne nfd).trans hd4
        have p5 : PL (upd H4 (A.f i) (.ins (He.ga K "File") dg (fileF A.d i { fs i with size := (fs i).size + many, hold := (fs i).hold + askF (parOf ru b) (fs i) many, runs := putF1 (fs i).runs (startF (parOf ru b) (allR fs) (fs i) many af) (askF (parOf ru b) (fs i) many) } (A.l i)))) l4 [(startF (parOf ru b) (allR fs) (fs i) many af, some (askF (parOf ru b) (fs i) many))] := p4.ins hf4 (by intro _ z; cases z) (by intro _ z; cases z)
        have hL5 : PL (upd H4 (A.f i) (.ins (He.ga K "File") dg (fileF A.d i { fs i with size := (fs i).size + many, hold := (fs i).hold + askF (parOf ru b) (fs i) many, runs := putF1 (fs i).runs (startF (parOf ru b) (allR fs) (fs i) many af) (askF (parOf ru b) (fs i) many) } (A.l i)))) (A.l i) (finR (putF1 (fs i).runs (startF (parOf ru b) (allR fs) (fs i) many af) (askF (parOf ru b) (fs i) many))) := hL4.ins hf4 (by intro _ z; cases z) (by intro _ z; cases z)
        have f5 : Frm (TT K) (A.Wi i) H (upd H4 (A.f i) (.ins (He.ga K "File") dg (fileF A.d i { fs i with size := (fs i).size + many, hold := (fs i).hold + askF (parOf ru b) (fs i) many, runs := putF1 (fs i).runs (startF (parOf ru b) (allR fs) (fs i) many af) (askF (parOf ru b) (fs i) many) } (A.l i)))) := f4'.upd (.inr ⟨.inl memf, _, hf4, flat_ins _ _ _⟩)
        obtain ⟨as5, q5⟩ := p5
        obtain ⟨t, ht, htt⟩ := q5.last (p := (startF (parOf ru b) (allR fs) (fs i) many af, some (askF (parOf ru b) (fs i) many))) rfl
        refine ⟨_, rfl, _, rfl, l4, _, _, _, rfl, rfl, q5.sq, atI_neg1 ht, t, _, _, rfl, SqT.of htt, _, rfl, A.d, _, dx, _, rfl, hd5, F.c_Disk, F.n_Disk_after, by show 8 < 1000; decide, ?_⟩
        have f6 := f5.upd (o := .ins (He.ga K "Disk") dx (diskF A.bk ru sh late (startF (parOf ru b) (allR fs) (fs i) many af + askF (parOf ru b) (fs i) many) A.dic)) (.inr ⟨.inl memd, _, hd5, flat_ins _ _ _⟩)
        have hf6 := (upd_ne (H := upd H4 (A.f i) (.ins (He.ga K "File") dg (fileF A.d i { fs i with size := (fs i).size + many, hold := (fs i).hold + askF (parOf ru b) (fs i) many, runs := putF1 (fs i).runs (startF (parOf ru b) (allR fs) (fs i) many af) (askF (parOf ru b) (fs i) many) } (A.l i)))) (o := .ins (He.ga K "Disk") dx (diskF A.bk ru sh late (startF (parOf ru b) (allR fs) (fs i) many af + askF (parOf ru b) (fs i) many) A.dic)) nfd.symm).trans hf5
        have hL6 := hL5.ins (o := .ins (He.ga K "Disk") dx (diskF A.bk ru sh late (startF (parOf ru b) (allR fs) (fs i) many af + askF (parOf ru b) (fs i) many) A.dic)) hd5 (by intro _ z; cases z) (by intro _ z; cases z)
        have p6 := PL.ins (o := .ins (He.ga K "Disk") dx (diskF A.bk ru sh late (startF (parOf ru b) (allR fs) (fs i) many af + askF (parOf ru b) (fs i) many) A.dic)) ⟨as5, q5⟩ hd5 (by intro _ z; cases z) (by intro _ z; cases z)
        obtain ⟨as6, q6⟩ := p6
        have l6 : (as6.map V.ref).length = 1 := by rw [List.length_map, q6.len]; rfl
        refine ⟨_, rfl, l4, rfl, ⟨_, q6.sq⟩, fun D nD => ?_⟩
        have fin : ∀ H', Same (upd (upd H4 (A.f i) (.ins (He.ga K "File") dg (fileF A.d i { fs i with size := (fs i).size + many, hold := (fs i).hold + askF (parOf ru b) (fs i) many, runs := putF1 (fs i).runs (startF (parOf ru b) (allR fs) (fs i) many af) (askF (parOf ru b) (fs i) many) } (A.l i)))) A.d (.ins (He.ga K "Disk") dx (diskF A.bk ru sh late (startF (parOf ru b) (allR fs) (fs i) many af + askF (parOf ru b) (fs i) many) A.dic))) H' → Q (.int (askF (parOf ru b) (fs i) many)) H' := fun H' s7 => by
          have f7 := f6.trans (Frm.same f6.tabs s7)
          exact k H' f7 (hD.next f7 ⟨dx, s7 _ _ upd_same⟩ ⟨⟨dg, s7 _ _ hf6⟩, hL6.same s7⟩)
        refine lc_list (K := K) (a := l4) (xs := as6.map V.ref) (fun j H' => Same (upd (upd H4 (A.f i) (.ins (He.ga K "File") dg (fileF A.d i { fs i with size := (fs i).size + many, hold := (fs i).hold + askF (parOf ru b) (fs i) many, runs := putF1 (fs i).runs (startF (parOf ru b) (allR fs) (fs i) many af) (askF (parOf ru b) (fs i) many) } (A.l i)))) A.d (.ins (He.ga K "Disk") dx (diskF A.bk ru sh late (startF (parOf ru b) (allR fs) (fs i) many af + askF (parOf ru b) (fs i) many) A.dic))) H' ∧ H' D = some (.lst (List.replicate j (.int (askF (parOf ru b) (fs i) many)))))
          ⟨same_upd nD, upd_same⟩ (fun j H' _ p => (q6.keep (extN_same p.1)).sq) (fun j x H' hx p => ?_) fun H' p => ?_
        · obtain ⟨s7, h7⟩ := p
          have j0 : j = 0 := by
            have := (List.getElem?_eq_some_iff.mp hx).1
            omega
          subst j0
          obtain ⟨a, p, rfl, hi, hta⟩ := (q6.keep (extN_same s7)).item hx
          cases hi
          refine ⟨a, _, rfl, SqT.of hta, rfl, _, _, rfl, _, _, rfl, rfl, rfl, ?_⟩
          refine ⟨_, rfl, _, h7, by show 0 < sizeLine; decide, fun c o e => ?_, upd_same⟩
          rw [upd_ne (ne_of_none e nD)]
          exact s7 _ _ e
        · obtain ⟨s7, h7⟩ := p
          rw [l6] at h7
          refine ⟨D, [askF (parOf ru b) (fs i) many], rfl, SqL.of h7, ?_⟩
          rw [show ([askF (parOf ru b) (fs i) many] : List Int).sum = askF (parOf ru b) (fs i) many from by simp]
          exact fin H' s7
end
end K36
/-! ## KD14 -/
namespace K36
open PySem PySem.Spec PyProof.Rows L2
theorem setF_setF (fs : Bool → FS) (i : Bool) (s t : FS) : setF (setF fs i s) i t = setF fs i t := by
  funext j
  unfold setF
  by_cases h : j = i
  · rw [if_pos h, if_pos h]
  · rw [if_neg h, if_neg h, if_neg h]
/-- an expression that is never reached -/
theorem pe_nev {X : Cx} {e : Expr} : PE X e (fun _ _ _ => False) := ⟨fun _ _ _ _ _ _ h => h.elim⟩
/-- a field of a file is written -/
theorem DiskAt.put {K : PySem.W.Frag} {T : List (Addr × Str)} {H : Hp} {A : DA} {ru : Str} {sh late i : Bool} {b : BookP} {af : Int} {fs : Bool → FS} {s : FS} {df : Addr} (h : DiskAt K H A ru sh b late af fs) (hT : LamX.Tabs T H) (hf : H (A.f i) = some (.ins (He.ga K "File") df (fileF A.d i (fs i) (A.l i)))) (hr : s.runs = (fs i).runs) :
    Frm T (A.Wi i) H (upd H (A.f i) (.ins (He.ga K "File") df (fileF A.d i s (A.l i)))) ∧ DiskAt K (upd H (A.f i) (.ins (He.ga K "File") df (fileF A.d i s (A.l i)))) A ru sh b late af (setF fs i s) := by
  have fr : Frm T (A.Wi i) H (upd H (A.f i) (.ins (He.ga K "File") df (fileF A.d i s (A.l i)))) := (Frm.refl hT).upd (.inr ⟨.inl (List.mem_cons_of_mem _ List.mem_cons_self), _, hf, flat_ins _ _ _⟩)
  obtain ⟨dx, hd⟩ := h.disk
  obtain ⟨_, hL⟩ := h.file i
  refine ⟨fr, h.next fr ⟨dx, ?_⟩ ⟨⟨df, upd_same⟩, ?_⟩⟩
  · rw [upd_ne (ins_ne hd hf (by show 8 ≠ 7; decide))]
    exact hd
  · rw [hr]
    exact hL.ins hf (by intro _ z; cases z) (by intro _ z; cases z)
theorem DiskAt.fileAt {K : PySem.W.Frag} {H : Hp} {A : DA} {ru : Str} {sh late : Bool} {b : BookP} {af : Int} {fs : Bool → FS} (h : DiskAt K H A ru sh b late af fs) (i : Bool) : ∃ df, H (A.f i) = some (.ins (He.ga K "File") df (fileF A.d i (fs i) (A.l i))) := (h.file i).1
section
variable {P : Program} {w : World} {K : PySem.W.Frag} {mg : Str → Option Value} {base : Heap}
/-! ### grow, ones -/
def sp_grow (K : PySem.W.Frag) : Sp := fun vs H Q _ => ∃ (A : DA) (ru : Str) (sh late i : Bool) (b : BookP) (af many B : Int) (n : Nat) (fs : Bool → FS), vs = [.ref A.d, .str (nm i), .int many] ∧ DiskAt K H A ru sh b late af fs ∧ RuleOk ru ∧ BookOk b ∧ Bnd fs af B n ∧ 0 ≤ many ∧ many ≤ 10 ^ 20 ∧ (fs i).op = true ∧ LamX.Tabs (TT K) H ∧
  (late = true → ∀ H', Frm (TT K) (A.Wi i) H H' → DiskAt K H' A ru sh b late af (setF fs i { fs i with wait := (fs i).wait + many }) → Q (.int 0) H') ∧
  (late = false → ∀ H', Frm (TT K) (A.Wi i) H H' → DiskAt K H' A ru sh b late (wA (parOf ru b) (allR fs) (fs i) many af) (setF fs i (wF (parOf ru b) (allR fs) (fs i) many af)) → Q (.int (wG (parOf ru b) (fs i) many)) H')
theorem sc_grow : FnScope ["self", "name", "many", "file"] ["self", "name", "many"] (defScope S_Disk_grow) := ⟨rfl, rfl, rfl, by decide +kernel, rfl, by decide +kernel, by decide +kernel⟩
theorem ok_grow (F : Fx K mg) (TB : LamX.TabB base mg (cJ K) (tJ K)) : OkD P w K mg base 10 (He.ma K (He.ga K "Disk") "grow") ["self", "name", "many"] (sp_grow K) := by
  refine okd F.f_Disk_grow sc_grow (fun _ _ _ _ _ _ us hl => match us, hl with | [_, _, _], _ => rfl) (fun vs H Q E h => ?_) (fun cdv A₀ outer s H vs Q E hr h => ?_)
  · obtain ⟨A, ru, sh, late, i, b, af, many, B, n, fs, rfl, _⟩ := h
    rfl
  · obtain ⟨A, ru, sh, late, i, b, af, many, B, n, fs, rfl, hD, hru, hb, hB, m0, m1, ho, hT, k1, k2⟩ := h
    obtain ⟨tG, gG⟩ := F.i_MOST_GROWTH
    obtain ⟨dx, hd⟩ := hD.disk
    obtain ⟨df, hf⟩ := hD.fileAt i
    refine ⟨_, pss_cons (ps_set (i := 3) sc_grow.nd rfl (Or.inl rfl) (pe_oIx (pv 0) (pv 1) F.m_Disk_getitem F.x_item (ok_getitem F) (hr.mono (by decide))))
      (pss_cons (ps_expr (pe_cl (ok_check_integer F) (hr.mono (by decide)) (by rfl) F.g_check_integer F.p_check_integer (pa_cons (pv 2) (pa_cons pe_int (pa_cons (pe_glob (v := .int (10 ^ 30)) (by rfl) gG ⟨_, rfl⟩) pa_nil)))))
      (pss_cons (ps_set (i := 3) sc_grow.nd rfl (Or.inl rfl) (pe_me (pv 0) F.c_Disk F.m_Disk_open_file (ok_open_file F) (hr.mono (by decide)) (pa_cons (pv 1) pa_nil)))
      (pss_cons (ps_if (pt_val (pe_fld (pv 0) rfl)) (pss_cons (ps_fldaug (pv 3) (pv 2) in_add) (pss_one (ps_ret pe_int))) pss_nil)
      (pss_one (ps_ret (pe_me (pv 0) F.c_Disk F.m_Disk_written_behind (ok_written F TB) hr (pa_cons (pv 3) (pa_cons (pv 2) pa_nil)))))))), ?_⟩
    refine ⟨_, rfl, _, rfl, A.d, dx, _, rfl, hd, A.d, A.bk, A.dic, ru, nm i, sh, late, af, kvA A, _, rfl, hD.disk, hD.dic, valA A i, ?_⟩
    refine ⟨_, rfl, _, _, _, rfl, m0, by omega, ?_⟩
    refine ⟨_, rfl, A.d, dx, _, rfl, hd, rfl, _, rfl, A, ru, sh, late, i, b, af, fs, rfl, hD, ho, ?_⟩
    refine ⟨_, rfl, A.d, _, dx, _, _, rfl, hd, F.c_Disk, F.n_Disk_late, rfl, _, rfl, ifC (fun c => ?_) fun c => ?_⟩
    · obtain ⟨fr, hN⟩ := hD.put (s := { fs i with wait := (fs i).wait + many }) hT hf rfl
      exact ⟨_, rfl, A.f i, _, df, _, _, rfl, hf, F.c_File, F.n_File_waiting, rfl, _, rfl, _, _, rfl, rfl, df, _, hf, by show 7 < 1000; decide, k1 c _ fr hN⟩
    · exact ⟨_, rfl, A.d, dx, _, rfl, hd, rfl, _, rfl, _, rfl, A, ru, sh, late, i, b, af, many, B, n, fs, rfl, hD, hru, hb, hB, m0, m1, hT, k2 c⟩
def sp_ones (K : PySem.W.Frag) : Sp := fun vs H Q _ => ∃ (A : DA) (ru : Str) (sh i : Bool) (b : BookP) (af many : Int) (fs : Bool → FS), vs = [.ref A.d, .str (nm i), .int many] ∧ DiskAt K H A ru sh b true af fs ∧ 0 ≤ many ∧ many ≤ 10 ^ 20 ∧ (fs i).op = true ∧ LamX.Tabs (TT K) H ∧
  ∀ H', Frm (TT K) (A.Wi i) H H' → DiskAt K H' A ru sh b true af (setF fs i { fs i with wait := (fs i).wait + many }) → Q (.int 0) H'
theorem sc_ones : FnScope ["self", "name", "many", "file", "left", "given", "times", "step"] ["self", "name", "many"] (defScope S_Disk_ones) := ⟨rfl, rfl, rfl, by decide +kernel, rfl, by decide +kernel, by decide +kernel⟩
theorem ok_ones (F : Fx K mg) : OkD P w K mg base 4 (He.ma K (He.ga K "Disk") "ones") ["self", "name", "many"] (sp_ones K) := by
  refine okd F.f_Disk_ones sc_ones (fun _ _ _ _ _ _ us hl => match us, hl with | [_, _, _], _ => rfl) (fun vs H Q E h => ?_) (fun cdv A₀ outer s H vs Q E hr h => ?_)
  · obtain ⟨A, ru, sh, i, b, af, many, fs, rfl, _⟩ := h
    rfl
  · obtain ⟨A, ru, sh, i, b, af, many, fs, rfl, hD, m0, m1, ho, hT, k1⟩ := h
    obtain ⟨tG, gG⟩ := F.i_MOST_GROWTH
    obtain ⟨dx, hd⟩ := hD.disk
    obtain ⟨df, hf⟩ := hD.fileAt i
    refine ⟨_, pss_cons (ps_set (i := 3) sc_ones.nd rfl (Or.inl rfl) (pe_oIx (pv 0) (pv 1) F.m_Disk_getitem F.x_item (ok_getitem F) (hr.mono (by decide))))
      (pss_cons (ps_expr (pe_cl (ok_check_integer F) (hr.mono (by decide)) (by rfl) F.g_check_integer F.p_check_integer (pa_cons (pv 2) (pa_cons pe_int (pa_cons (pe_glob (v := .int (10 ^ 30)) (by rfl) gG ⟨_, rfl⟩) pa_nil)))))
      (pss_cons (ps_set (i := 3) sc_ones.nd rfl (Or.inl rfl) (pe_me (pv 0) F.c_Disk F.m_Disk_open_file (ok_open_file F) hr (pa_cons (pv 1) pa_nil)))
      (pss_cons (ps_if (pt_val (pe_fld (pv 0) rfl)) (pss_cons (ps_fldaug (pv 3) (pv 2) in_add) (pss_one (ps_ret pe_int))) pss_nil) pss_never))), ?_⟩
    refine ⟨_, rfl, _, rfl, A.d, dx, _, rfl, hd, A.d, A.bk, A.dic, ru, nm i, sh, true, af, kvA A, _, rfl, hD.disk, hD.dic, valA A i, ?_⟩
    refine ⟨_, rfl, _, _, _, rfl, m0, by omega, ?_⟩
    refine ⟨_, rfl, A.d, dx, _, rfl, hd, rfl, _, rfl, A, ru, sh, true, i, b, af, fs, rfl, hD, ho, ?_⟩
    refine ⟨_, rfl, A.d, _, dx, _, _, rfl, hd, F.c_Disk, F.n_Disk_late, rfl, _, rfl, ifT rfl ?_⟩
    obtain ⟨fr, hN⟩ := hD.put (s := { fs i with wait := (fs i).wait + many }) hT hf rfl
    exact ⟨_, rfl, A.f i, _, df, _, _, rfl, hf, F.c_File, F.n_File_waiting, rfl, _, rfl, _, _, rfl, rfl, df, _, hf, by show 7 < 1000; decide, k1 _ fr hN⟩
/-! ### flush, close, reopen -/
def sp_flush (K : PySem.W.Frag) : Sp := fun vs H Q _ => ∃ (A : DA) (ru : Str) (sh late i : Bool) (b : BookP) (af B : Int) (n : Nat) (fs : Bool → FS), vs = [.ref A.d, .str (nm i)] ∧ DiskAt K H A ru sh b late af fs ∧ RuleOk ru ∧ BookOk b ∧ Bnd fs af B n ∧ 0 ≤ (fs i).wait ∧ (fs i).wait ≤ 10 ^ 20 ∧ (fs i).op = true ∧ LamX.Tabs (TT K) H ∧
  ∀ H', Frm (TT K) (A.Wi i) H H' → DiskAt K H' A ru sh b late (wA (parOf ru b) (allR fs) (fs i) (fs i).wait af) (setF fs i { wF (parOf ru b) (allR fs) (fs i) (fs i).wait af with wait := 0 }) → Q (.int (wG (parOf ru b) (fs i) (fs i).wait)) H'
theorem sc_flush : FnScope ["self", "name", "file", "given"] ["self", "name"] (defScope S_Disk_flush) := ⟨rfl, rfl, rfl, by decide +kernel, rfl, by decide +kernel, by decide +kernel⟩
theorem ok_flush (F : Fx K mg) (TB : LamX.TabB base mg (cJ K) (tJ K)) : OkD P w K mg base 10 (He.ma K (He.ga K "Disk") "flush") ["self", "name"] (sp_flush K) := by
  refine okd F.f_Disk_flush sc_flush (fun _ _ _ _ _ _ us hl => match us, hl with | [_, _], _ => rfl) (fun vs H Q E h => ?_) (fun cdv A₀ outer s H vs Q E hr h => ?_)
  · obtain ⟨A, ru, sh, late, i, b, af, B, n, fs, rfl, _⟩ := h
    rfl
  · obtain ⟨A, ru, sh, late, i, b, af, B, n, fs, rfl, hD, hru, hb, hB, m0, m1, ho, hT, k⟩ := h
    obtain ⟨dx, hd⟩ := hD.disk
    obtain ⟨df, hf⟩ := hD.fileAt i
    refine ⟨_, pss_cons (ps_set (i := 2) sc_flush.nd rfl (Or.inl rfl) (pe_me (pv 0) F.c_Disk F.m_Disk_open_file (ok_open_file F) (hr.mono (by decide)) (pa_cons (pv 1) pa_nil)))
      (pss_cons (ps_set (i := 3) sc_flush.nd rfl (Or.inl rfl) (pe_me (pv 0) F.c_Disk F.m_Disk_written_behind (ok_written F TB) hr (pa_cons (pv 2) (pa_cons (pe_fld (pv 2) rfl) pa_nil))))
      (pss_cons (ps_fld (pv 2) pe_int rfl) (pss_one (ps_ret (pv 3))))), ?_⟩
    refine ⟨_, rfl, A.d, dx, _, rfl, hd, rfl, _, rfl, A, ru, sh, late, i, b, af, fs, rfl, hD, ho, ?_⟩
    refine ⟨_, rfl, A.d, dx, _, rfl, hd, rfl, _, rfl, _, rfl, A.f i, _, df, _, _, rfl, hf, F.c_File, F.n_File_waiting, rfl, A, ru, sh, late, i, b, af, (fs i).wait, B, n, fs, rfl, hD, hru, hb, hB, m0, m1, hT, fun H1 f1 d1 => ?_⟩
    obtain ⟨dg, hf1⟩ := d1.fileAt i
    obtain ⟨f2, d2⟩ := d1.put (s := { wF (parOf ru b) (allR fs) (fs i) (fs i).wait af with wait := 0 }) f1.tabs hf1 (by rw [setF_at])
    rw [setF_setF] at d2
    rw [setF_at] at hf1
    exact ⟨_, rfl, A.f i, _, dg, _, rfl, hf1, F.c_File, F.n_File_waiting, by show 7 < 1000; decide, _, rfl, k _ (f1.trans f2) d2⟩
def sp_close (K : PySem.W.Frag) : Sp := fun vs H Q _ => ∃ (A : DA) (ru : Str) (sh late i : Bool) (b : BookP) (af B : Int) (n : Nat) (fs : Bool → FS), vs = [.ref A.d, .str (nm i)] ∧ DiskAt K H A ru sh b late af fs ∧ RuleOk ru ∧ BookOk b ∧ Bnd fs af B n ∧ 0 ≤ (fs i).wait ∧ (fs i).wait ≤ 10 ^ 20 ∧ (fs i).op = true ∧ LamX.Tabs (TT K) H ∧
  ∀ H', Frm (TT K) (A.Wi i) H H' → DiskAt K H' A ru sh b late (wA (parOf ru b) (allR fs) (fs i) (fs i).wait af) (setF fs i { wF (parOf ru b) (allR fs) (fs i) (fs i).wait af with wait := 0, op := false }) → Q (.int 0) H'
theorem sc_close : FnScope ["self", "name", "file"] ["self", "name"] (defScope S_Disk_close) := ⟨rfl, rfl, rfl, by decide +kernel, rfl, by decide +kernel, by decide +kernel⟩
theorem ok_close (F : Fx K mg) (TB : LamX.TabB base mg (cJ K) (tJ K)) : OkD P w K mg base 11 (He.ma K (He.ga K "Disk") "close") ["self", "name"] (sp_close K) := by
  refine okd F.f_Disk_close sc_close (fun _ _ _ _ _ _ us hl => match us, hl with | [_, _], _ => rfl) (fun vs H Q E h => ?_) (fun cdv A₀ outer s H vs Q E hr h => ?_)
  · obtain ⟨A, ru, sh, late, i, b, af, B, n, fs, rfl, _⟩ := h
    rfl
  · obtain ⟨A, ru, sh, late, i, b, af, B, n, fs, rfl, hD, hru, hb, hB, m0, m1, ho, hT, k⟩ := h
    obtain ⟨dx, hd⟩ := hD.disk
    obtain ⟨df, hf⟩ := hD.fileAt i
    refine ⟨_, pss_cons (ps_set (i := 2) sc_close.nd rfl (Or.inl rfl) (pe_me (pv 0) F.c_Disk F.m_Disk_open_file (ok_open_file F) (hr.mono (by decide)) (pa_cons (pv 1) pa_nil)))
      (pss_cons (ps_expr (pe_me (pv 0) F.c_Disk F.m_Disk_flush (ok_flush F TB) hr (pa_cons (pv 1) pa_nil)))
      (pss_cons (ps_fld (pv 2) pe_bl rfl) (pss_one (ps_ret (pe_ifExp (pt_val (pe_fld (pv 0) rfl)) pe_nev pe_int))))), ?_⟩
    refine ⟨_, rfl, A.d, dx, _, rfl, hd, rfl, _, rfl, A, ru, sh, late, i, b, af, fs, rfl, hD, ho, ?_⟩
    refine ⟨_, rfl, A.d, dx, _, rfl, hd, rfl, _, rfl, A, ru, sh, late, i, b, af, B, n, fs, rfl, hD, hru, hb, hB, m0, m1, ho, hT, fun H1 f1 d1 => ?_⟩
    obtain ⟨dg, hf1⟩ := d1.fileAt i
    obtain ⟨f2, d2⟩ := d1.put (s := { wF (parOf ru b) (allR fs) (fs i) (fs i).wait af with wait := 0, op := false }) f1.tabs hf1 (by rw [setF_at])
    rw [setF_setF] at d2
    rw [setF_at] at hf1
    obtain ⟨dy, hd2⟩ := d2.disk
    exact ⟨_, rfl, A.f i, _, dg, _, rfl, hf1, F.c_File, F.n_File_is_open, by show 7 < 1000; decide, _, rfl, A.d, _, dy, _, _, rfl, hd2, F.c_Disk, F.n_Disk_back, rfl, _, rfl, ifF rfl (k _ (f1.trans f2) d2)⟩
def sp_reopen (K : PySem.W.Frag) : Sp := fun vs H Q _ => ∃ (A : DA) (ru : Str) (sh late i : Bool) (b : BookP) (af : Int) (fs : Bool → FS), vs = [.ref A.d, .str (nm i)] ∧ DiskAt K H A ru sh b late af fs ∧ (fs i).op = false ∧ LamX.Tabs (TT K) H ∧
  ∀ H', Frm (TT K) (A.Wi i) H H' → DiskAt K H' A ru sh b late af (setF fs i { fs i with op := true }) → Q .non H'
theorem sc_reopen : FnScope ["self", "name", "file"] ["self", "name"] (defScope S_Disk_reopen) := ⟨rfl, rfl, rfl, by decide +kernel, rfl, by decide +kernel, by decide +kernel⟩
theorem ok_reopen (F : Fx K mg) : OkD P w K mg base 3 (He.ma K (He.ga K "Disk") "reopen") ["self", "name"] (sp_reopen K) := by
  refine okd F.f_Disk_reopen sc_reopen (fun _ _ _ _ _ _ us hl => match us, hl with | [_, _], _ => rfl) (fun vs H Q E h => ?_) (fun cdv A₀ outer s H vs Q E hr h => ?_)
  · obtain ⟨A, ru, sh, late, i, b, af, fs, rfl, _⟩ := h
    rfl
  · obtain ⟨A, ru, sh, late, i, b, af, fs, rfl, hD, ho, hT, k⟩ := h
    obtain ⟨dx, hd⟩ := hD.disk
    obtain ⟨df, hf⟩ := hD.fileAt i
    refine ⟨_, pss_cons (ps_set (i := 2) sc_reopen.nd rfl (Or.inl rfl) (pe_oIx (pv 0) (pv 1) F.m_Disk_getitem F.x_item (ok_getitem F) hr))
      (pss_cons (ps_if (pt_val (pe_fld (pv 2) rfl)) (pss_one ps_never) pss_nil) (pss_one (ps_fld (pv 2) pe_bl rfl))), ?_⟩
    refine ⟨_, rfl, _, rfl, A.d, dx, _, rfl, hd, A.d, A.bk, A.dic, ru, nm i, sh, late, af, kvA A, _, rfl, hD.disk, hD.dic, valA A i, ?_⟩
    obtain ⟨f2, d2⟩ := hD.put (s := { fs i with op := true }) hT hf rfl
    exact ⟨_, rfl, A.f i, _, df, _, _, rfl, hf, F.c_File, F.n_File_is_open, rfl, _, rfl, ifF ho ⟨_, rfl, A.f i, _, df, _, rfl, hf, F.c_File, F.n_File_is_open, by show 7 < 1000; decide, k _ f2 d2⟩⟩
end
end K36
/-! ## KD15 -/
namespace K36
open PySem PySem.Spec PyProof.Rows L2
/-- a dict comprehension over a walk -/
theorem dc_it {J : It} {n : Nat} {G : Hp → Prop} {Y : Nat → Hp → V → Hp → Prop} (wk : Walk J n G Y) {g : TG} {tt : L2.TT} {tk tv : TE} {vs : List Nat} {σ : L2.St} {Ha : Hp} {D : Addr} {Qd : Hp → Prop} (Pv : Nat → Hp → Prop) (h0 : Pv 0 (upd Ha D (.dK []))) (hG : ∀ i H, i ≤ n → Pv i H → G H)
    (hs : ∀ i x H H', i < n → Pv i H → Y i H x H' → g x (wipe σ vs) H' fun σ2 H2 => wipe σ2 vs = wipe σ vs ∧ tt σ2 H2 fun b H3 =>
      if b = true then tk σ2 H3 fun y H4 => tv σ2 H4 fun z H5 => ∃ kvs k, y = kV k ∧ H5 D = some (.dK kvs) ∧ kvs.length < sizeLine ∧ Pv (i + 1) (upd H5 D (.dK (putK kvs k z))) else Pv (i + 1) H3) (hd : ∀ H, Pv n H → Qd H) :
    ∃ W : Nat → Nat → Hp → Prop, (∃ m, W 0 m (upd Ha D (.dK []))) ∧ ∀ i m H, W i m H →
      (J.stop i H ∧ Qd H) ∨ (J.go i H ∧ ∃ Nx : Hp → Prop, (∀ H', Nx H' → ∃ m', m' < m ∧ W (i + 1) m' H') ∧ ∀ x H', J.yld i H x H' → g x (wipe σ vs) H' fun σ2 H2 => wipe σ2 vs = wipe σ vs ∧ tt σ2 H2 fun b H3 =>
        if b = true then tk σ2 H3 fun y H4 => tv σ2 H4 fun z H5 => ∃ kvs k, y = kV k ∧ H5 D = some (.dK kvs) ∧ kvs.length < sizeLine ∧ Nx (upd H5 D (.dK (putK kvs k z))) else Nx H3) := by
  refine ⟨fun i m H => m = n - i ∧ i ≤ n ∧ Pv i H, ⟨n, by simp, Nat.zero_le _, h0⟩, fun i m H h => ?_⟩
  obtain ⟨rfl, hi, p⟩ := h
  have q := hG i H hi p
  rcases Nat.lt_or_ge i n with hlt | hge
  · exact .inr ⟨wk.goes i H hlt q, Pv (i + 1), fun H' p' => ⟨n - (i + 1), by omega, rfl, hlt, p'⟩, fun x H' y => hs i x H H' hlt p (wk.yields i H x H' hlt q y)⟩
  · have e : i = n := by omega
    subst e
    exact .inl ⟨wk.stops H q, hd H p⟩
section
variable {P : Program} {w : World} {K : PySem.W.Frag} {mg : Str → Option Value} {base : Heap}
/-! ### delete -/
def sp_delete (K : PySem.W.Frag) : Sp := fun vs H Q _ => ∃ (A : DA) (ru : Str) (sh late : Bool) (b : BookP) (af : Int) (fs : Bool → FS), vs = [.ref A.d, .str "a"] ∧ DiskAt K H A ru sh b late af fs ∧ LamX.Tabs (TT K) H ∧
  ∀ H' dic, Frm (TT K) [A.d, A.f false] H H' → DiskI K H' A.d A.bk dic ru sh late af → H' dic = some (.dK [(.inr "b", .ref (A.f true))]) → Q (.int (fs false).hold) H'
theorem sc_delete : FnScope ["self", "name", "file", "many", "one", "other"] ["self", "name"] (defScope S_Disk_delete) := ⟨rfl, rfl, rfl, by decide +kernel, rfl, by decide +kernel, by decide +kernel⟩
theorem ok_delete (F : Fx K mg) : OkD P w K mg base 3 (He.ma K (He.ga K "Disk") "delete") ["self", "name"] (sp_delete K) := by
  refine okd F.f_Disk_delete sc_delete (fun _ _ _ _ _ _ us hl => match us, hl with | [_, _], _ => rfl) (fun vs H Q E h => ?_) (fun cdv A₀ outer s H vs Q E hr h => ?_)
  · obtain ⟨A, ru, sh, late, b, af, fs, rfl, _⟩ := h
    rfl
  · obtain ⟨A, ru, sh, late, b, af, fs, rfl, hD, hT, k⟩ := h
    obtain ⟨dx, hd⟩ := hD.disk
    obtain ⟨df, hf⟩ := hD.fileAt false
    refine ⟨_, pss_cons (ps_set (i := 2) sc_delete.nd rfl (Or.inl rfl) (pe_oIx (pv 0) (pv 1) F.m_Disk_getitem F.x_item (ok_getitem F) hr))
      (pss_cons (ps_set (i := 3) sc_delete.nd rfl (Or.inl rfl) (pe_fld (pv 2) rfl))
      (pss_cons (ps_expr (pe_me0 (pv 2) F.c_File F.m_File_lose_all (ok_lose_all F) (hr.mono (by decide))))
      (pss_cons (ps_fld (pv 0) (pe_lock (pe_dc (own := [("one", 4), ("other", 5)]) (g := gTup K 2 (gCons (gName 4) (gCons (gName 5) gNil))) rfl sc_delete.nd (pi_items (pe_fld (pv 0) rfl)) (blkOk_by (own := [("one", 4), ("other", 5)]) (N := ["self", "name", "file", "many", "one", "other"]) (sc := defScope S_Disk_delete) (by decide +kernel))
        (fun _ _ _ _ _ => pg_tup rfl (pgs_cons (pg_name (i := 4) sc_delete.nd rfl (Or.inl rfl)) (pgs_cons (pg_name (i := 5) sc_delete.nd rfl (Or.inl rfl)) pgs_nil))) (fun _ _ _ _ _ => pts_one (pt_cmpR op_ne (pv 4) (pv 1) (nomark _))) (fun _ _ _ _ _ => pv 4) (fun _ _ _ _ _ => pv 5))) rfl)
      (pss_one (ps_ret (pv 3)))))), ?_⟩
    refine ⟨_, rfl, _, rfl, A.d, dx, _, rfl, hd, A.d, A.bk, A.dic, ru, "a", sh, late, af, kvA A, _, rfl, hD.disk, hD.dic, valA A false, ?_⟩
    refine ⟨_, rfl, A.f false, _, df, _, _, rfl, hf, F.c_File, F.n_File_hold, rfl, ?_⟩
    refine ⟨_, rfl, A.f false, df, _, rfl, hf, rfl, A.d, A.f false, A.l false, false, fs false, rfl, ⟨df, hf⟩, fun H1 e1 => ?_⟩
    have ndf : A.d ≠ A.f false := ins_ne hd hf (by show 8 ≠ 7; decide)
    have nkf : A.dic ≠ A.f false := (ne_of hf hD.dic (by intro z; cases z)).symm
    have nkd : A.dic ≠ A.d := (ne_of hd hD.dic (by intro z; cases z)).symm
    have hd1 := e1 _ _ ndf hd
    have hk1 := e1 _ _ nkf hD.dic
    have T1 : LamX.Tabs (TT K) H1 := tabs_ne (W := [A.f false]) hT (fun a ha => by rw [List.mem_singleton.mp ha]; exact ⟨_, hf, flat_ins _ _ _⟩) fun c o e n => e1 c o (fun z => n (List.mem_singleton.mpr z)) e
    refine ⟨A.dic, _, hk1, trivial, fun od => ?_⟩
    have hdL : upd H1 A.dic (.frz od (.dK (kvA A))) A.d = some (.ins (He.ga K "Disk") dx (diskF A.bk ru sh late af A.dic)) := (upd_ne nkd.symm).trans hd1
    have hkL : upd H1 A.dic (.frz od (.dK (kvA A))) A.dic = some (.frz od (.dK (kvA A))) := upd_same
    have TL : LamX.Tabs (TT K) (upd H1 A.dic (.frz od (.dK (kvA A)))) := tabs_ne (W := [A.dic]) T1 (fun a ha => by rw [List.mem_singleton.mp ha]; exact ⟨_, hk1, flat_dK _⟩) fun c o e n => by rw [upd_ne (fun z => n (List.mem_singleton.mpr z))]; exact e
    have kL : ∀ c o, c ≠ A.dic → H1 c = some o → upd H1 A.dic (.frz od (.dK (kvA A))) c = some o := fun c o n e => by rw [upd_ne n]; exact e
    refine ⟨_, rfl, A.d, _, dx, _, _, rfl, hdL, F.c_Disk, F.n_Disk_files, rfl, A.dic, od, kvA A, rfl, hkL, fun D nD => ?_⟩
    generalize upd H1 A.dic (.frz od (.dK (kvA A))) = HL at hdL hkL TL kL nD ⊢
    refine dc_it walk_items (fun i H' => Same HL H' ∧ HL D = none ∧ H' D = some (.dK (if i ≤ 1 then [] else [(.inr "b", .ref (A.f true))]))) ⟨same_upd nD, nD, upd_same⟩ (fun i H' _ p => p.1 _ _ hkL) (fun i x Ha Hb hi p y => ?_) fun H' p => ?_
    · obtain ⟨s1, _, h1⟩ := p
      obtain ⟨t, v1, v2, rfl, nt, rfl, q1, q2⟩ := y
      have nDt : D ≠ t := ne_of_none h1 nt
      have s2 : Same HL (upd Ha t (.tup [v1, v2])) := same_trans s1 (same_upd nt)
      match i, hi, q1, q2, h1 with
      | 0, _, q1, q2, h1 =>
        cases q1
        cases q2
        refine ⟨t, _, rfl, SqT.of upd_same, rfl, _, _, rfl, _, _, rfl, rfl, rfl, ?_⟩
        exact ⟨_, rfl, _, rfl, rfl, _, rfl, ifF (by show (!decide (V.str "a" = V.str "a")) = false; decide +kernel) ⟨s2, nD, by rw [upd_ne nDt]; exact h1⟩⟩
      | 1, _, q1, q2, h1 =>
        cases q1
        cases q2
        refine ⟨t, _, rfl, SqT.of upd_same, rfl, _, _, rfl, _, _, rfl, rfl, rfl, ?_⟩
        refine ⟨_, rfl, _, rfl, rfl, _, rfl, ifT (by show (!decide (V.str "b" = V.str "a")) = true; decide +kernel) ⟨_, rfl, _, rfl, [], .inr "b", rfl, (upd_ne nDt).trans h1, by decide, fun c o e => ?_, nD, upd_same⟩⟩
        rw [upd_ne (ne_of_none e nD)]
        exact s2 _ _ e
      | n + 2, hi, _, _, _ => exact absurd hi (by simp)
    · obtain ⟨s1, _, h1⟩ := p
      refine ⟨s1 _ _ hkL, ?_⟩
      have hd2 : upd H' A.dic (.dK (kvA A)) A.d = some (.ins (He.ga K "Disk") dx (diskF A.bk ru sh late af A.dic)) := (upd_ne nkd.symm).trans (s1 _ _ hdL)
      have nDd : D ≠ A.d := (ne_of_none hdL nD).symm
      have nDk : D ≠ A.dic := (ne_of_none hkL nD).symm
      refine ⟨_, rfl, A.d, _, dx, _, rfl, hd2, F.c_Disk, F.n_Disk_files, by show 8 < 1000; decide, _, rfl, k _ D ⟨fun c o e n z => ?_, ?_⟩ ⟨dx, upd_same⟩ ?_⟩
      · have n1 : c ≠ A.d := fun q => n (by rw [q]; exact List.mem_cons_self)
        have n2 : c ≠ A.f false := fun q => n (by rw [q]; exact List.mem_cons_of_mem _ List.mem_cons_self)
        rw [upd_ne n1]
        by_cases hk : c = A.dic
        · rw [hk, upd_same]
          rw [hk, hD.dic] at e
          exact e
        · rw [upd_ne hk]
          exact s1 _ _ (kL _ _ hk (e1 _ _ n2 e))
      · refine tabs_ne (W := [A.d]) (H := upd H' A.dic (.dK (kvA A))) (tabs_ne (W := [A.dic]) (TL.ext s1) (fun a ha => by rw [List.mem_singleton.mp ha]; exact ⟨_, s1 _ _ hkL, flat_frz _ _⟩) fun c o e n => by rw [upd_ne (fun z => n (List.mem_singleton.mpr z))]; exact e)
          (fun a ha => by rw [List.mem_singleton.mp ha]; exact ⟨_, hd2, flat_ins _ _ _⟩) fun c o e n => by rw [upd_ne (fun z => n (List.mem_singleton.mpr z))]; exact e
      · rw [upd_ne nDd, upd_ne nDk]
        exact h1
end
end K36
/-! ## KD16 -/
namespace K36
open PySem PySem.Spec PyProof.Rows L2
/-! ### the law's draws -/
def PoolAt (H : Hp) (p : Addr) : Prop := ∃ x y : Int, H p = some (.lst [.int x, .int y]) ∧ 0 ≤ y ∧ y < 2147483647
/-- the pool alone is written -/
structure Drawn (p : Addr) (H H' : Hp) : Prop where
  keep : ∀ c, c ≠ p → H' c = H c
  pool : PoolAt H' p
/-- the pool is written, things are made -/
structure Drew (p : Addr) (H H' : Hp) : Prop where
  keep : ∀ c o, c ≠ p → H c = some o → H' c = some o
  pool : PoolAt H' p
theorem Drawn.w {p : Addr} {H H' : Hp} (d : Drawn p H H') : Drew p H H' := ⟨fun c o n e => by rw [d.keep c n]; exact e, d.pool⟩
theorem Drew.trans {p : Addr} {H H1 H2 : Hp} (a : Drew p H H1) (b : Drew p H1 H2) : Drew p H H2 := ⟨fun c o n e => b.keep c o n (a.keep c o n e), b.pool⟩
theorem PoolAt.same {p : Addr} {H H' : Hp} (h : PoolAt H p) (s : Same H H') : PoolAt H' p := let ⟨x, y, e, z⟩ := h; ⟨x, y, s _ _ e, z⟩
theorem Drew.same {p : Addr} {H H1 H2 : Hp} (a : Drew p H H1) (s : Same H1 H2) : Drew p H H2 := ⟨fun c o n e => s _ _ (a.keep c o n e), a.pool.same s⟩
theorem Drew.refl {p : Addr} {H : Hp} (h : PoolAt H p) : Drew p H H := ⟨fun _ _ _ e => e, h⟩
theorem draw_new {p : Addr} {H : Hp} {x y x' y' : Int} (h : H p = some (.lst [.int x, .int y])) (y0 : 0 ≤ y') (y1 : y' < 2147483647) : Drawn p H (upd H p (.lst [.int x', .int y'])) := ⟨fun c n => upd_ne n, _, _, upd_same, y0, y1⟩
/-- all ints -/
def AllI (xs : List V) : Prop := ∀ z ∈ xs, ∃ c, z = .int c
theorem allI_cut {ns : List Int} {a b : Option Int} : AllI (cutV (ns.map V.int) a b) := fun z hz => by
  unfold cutV at hz
  obtain ⟨c, _, e⟩ := List.mem_map.mp (List.mem_of_mem_drop (List.mem_of_mem_take hz))
  exact ⟨c, e.symm⟩
theorem allI_head {xs : List V} (h : AllI xs) : ∃ c, (xs ++ [V.int 0])[0]? = some (.int c) := by
  cases xs with
  | nil => exact ⟨0, rfl⟩
  | cons z t =>
    obtain ⟨c, rfl⟩ := h z List.mem_cons_self
    exact ⟨c, rfl⟩
section
variable {P : Program} {w : World} {K : PySem.W.Frag} {mg : Str → Option Value} {base : Heap}
def sp_hand (K : PySem.W.Frag) : Sp := fun vs H Q _ => ∃ (a : Addr) (k : Int) (ns : List Int), vs = [.ref a, .int k] ∧ SqL K H a (ns.map V.int) ∧ ns.length ≤ 1000 ∧ ∀ H' p, Same H H' → H p = none → PoolAt H' p → Q (.ref p) H'
theorem sc_hand : FnScope ["_law_script", "_law_k", "_law_cell", "_law_seed"] ["_law_script", "_law_k"] (defScope S_law_hand) := ⟨rfl, rfl, rfl, by decide +kernel, rfl, by decide +kernel, by decide +kernel⟩
theorem ok_hand (F : Fx K mg) : OkD P w K mg base 1 (He.ga K "_law_hand") ["_law_script", "_law_k"] (sp_hand K) := by
  refine okd F.f_law_hand sc_hand (fun _ _ _ _ _ _ us hl => match us, hl with | [_, _], _ => rfl) (fun vs H Q E h => ?_) (fun cdv A₀ outer s H vs Q E hr h => ?_)
  · obtain ⟨a, k, ns, rfl, _⟩ := h
    rfl
  · obtain ⟨a, j, ns, rfl, hS, hn, k⟩ := h
    refine ⟨_, pss_cons (ps_set (i := 2) sc_hand.nd rfl (Or.inl rfl) (pe_ix ix_list (pe_op op_cat (pe_slice sl_list (pv 0) (po_some (pv 1)) (po_some (pe_op op_add (pv 1) pe_int))) (pe_lst (pa_cons pe_int pa_nil))) pe_int (fun _ _ => rfl)))
      (pss_cons (ps_set (i := 3) sc_hand.nd rfl (Or.inl rfl) (pe_op op_mod (pe_op op_mul (pe_op op_add (pe_op op_add (pe_op op_mod (pe_callTy call_int1 (by rfl) F.b_int (by decide +kernel) (pa_cons (pv 2) pa_nil)) pe_int) (pe_op op_mul pe_int (pv 1))) pe_int) pe_int) pe_int))
      (pss_one (ps_ret (pe_lst (pa_cons (pe_op op_mul (pe_callTy call_int1 (by rfl) F.b_int (by decide +kernel) (pa_cons (pe_cmpR op_ge (pv 2) (pe_op op_pow pe_int pe_int) (nomark _)) pa_nil)) (pv 2)) (pa_cons (pv 3) pa_nil)))))), ?_⟩
    refine ⟨_, rfl, _, rfl, _, rfl, _, rfl, _, _, rfl, rfl, _, rfl, a, _, rfl, hS, fun p hp => ⟨by show 1 ≤ sizeLine; decide, fun q hq => ?_⟩⟩
    have hp2 : upd (upd H p (.lst (cutV (ns.map V.int) (some j) (some (j + 1))))) q (.lst [.int 0]) p = some (.lst (cutV (ns.map V.int) (some j) (some (j + 1)))) := (same_upd hq) _ _ upd_same
    obtain ⟨c, hc⟩ := allI_head (allI_cut (ns := ns) (a := some j) (b := some (j + 1)))
    refine ⟨p, q, _, _, rfl, rfl, hp2, upd_same, ?_, fun m hm => ⟨m, _, 0, _, rfl, rfl, SqL.of upd_same, atI_nat (j := 0) hc, ?_⟩⟩
    · have h1 := cutV_length (ns.map V.int) (some j) (some (j + 1))
      rw [List.length_map] at h1
      have h2 : sizeLine = 16777216 := rfl
      show _ + 1 ≤ _
      omega
    · refine ⟨_, rfl, .inl ⟨_, rfl, _, _, rfl, rfl, by show (0 : Int) < 2147483647; decide, _, rfl, _, _, rfl, rfl, .inl ⟨by decide, by decide⟩, _, _, rfl, rfl, _, _, rfl, rfl, _, _, rfl, rfl, .inr ⟨by decide, by decide⟩, _, _, rfl, rfl, by show (0 : Int) < 2147483629; decide, ?_⟩⟩
      refine ⟨_, rfl, _, _, rfl, rfl, ⟨by decide, by decide, by decide⟩, _, _, rfl, rfl, .inr ⟨_, rfl, _, rfl, _, _, rfl, rfl, .inl ⟨by split <;> decide, by split <;> decide⟩, _, rfl, by show 2 ≤ sizeLine; decide, fun r nr => ?_⟩⟩
      have s3 : Same H (upd (upd (upd H p (.lst (cutV (ns.map V.int) (some j) (some (j + 1))))) q (.lst [.int 0])) m (.lst (cutV (ns.map V.int) (some j) (some (j + 1)) ++ [.int 0]))) := same_trans (same_upd hp) (same_trans (same_upd hq) (same_upd hm))
      refine k _ r (same_trans s3 (same_upd nr)) (none_back s3 nr) ⟨_, _, upd_same, Int.emod_nonneg _ (by decide), Int.lt_trans (Int.emod_lt_of_pos _ (by decide)) (by decide)⟩
def sp_draw : Sp := fun vs H Q _ => ∃ (p : Addr) (m : Int), vs = [.ref p, .int m] ∧ PoolAt H p ∧ 1 ≤ m ∧ m ≤ 1000 ∧ ∀ H' r, Drawn p H H' → 0 ≤ r → r < m → Q (.int r) H'
theorem sc_draw : FnScope ["_law_pool", "_law_many", "_law_found"] ["_law_pool", "_law_many"] (defScope S_law_draw) := ⟨rfl, rfl, rfl, by decide +kernel, rfl, by decide +kernel, by decide +kernel⟩
theorem ok_draw (F : Fx K mg) : OkD P w K mg base 1 (He.ga K "_law_draw") ["_law_pool", "_law_many"] sp_draw := by
  refine okd F.f_law_draw sc_draw (fun _ _ _ _ _ _ us hl => match us, hl with | [_, _], _ => rfl) (fun vs H Q E h => ?_) (fun cdv A₀ outer s H vs Q E hr h => ?_)
  · obtain ⟨p, m, rfl, _⟩ := h
    rfl
  · obtain ⟨p, m, rfl, ⟨x, y, hp, y0, y1⟩, m1, m2, k⟩ := h
    refine ⟨_, pss_cons (ps_if (pt_cmpR op_gt (pe_ix ix_list (pv 0) pe_int (fun _ _ => rfl)) pe_int (nomark _))
        (pss_cons (ps_set (i := 2) sc_draw.nd rfl (Or.inl rfl) (pe_op op_mod (pe_callTy call_int1 (by rfl) F.b_int (by decide +kernel) (pa_cons (pe_ix ix_list (pv 0) pe_int (fun _ _ => rfl)) pa_nil)) (pv 1)))
        (pss_cons (ps_asg (pe_op op_fdiv (pe_ix ix_list (pv 0) pe_int (fun _ _ => rfl)) (pv 1)) (pg_sub (pv 0) pe_int set_list)) (pss_one (ps_ret (pv 2))))) pss_nil)
      (pss_cons (ps_asg (pe_op op_mod (pe_callTy call_int1 (by rfl) F.b_int (by decide +kernel) (pa_cons (pe_op op_add (pe_op op_mul (pe_ix ix_list (pv 0) pe_int (fun _ _ => rfl)) pe_int) pe_int) pa_nil)) pe_int) (pg_sub (pv 0) pe_int set_list))
      (pss_one (ps_ret (pe_op op_mod (pe_op op_fdiv (pe_op op_mod (pe_callTy call_int1 (by rfl) F.b_int (by decide +kernel) (pa_cons (pe_op op_mul (pe_ix ix_list (pv 0) pe_int (fun _ _ => rfl)) (pe_ix ix_list (pv 0) pe_int (fun _ _ => rfl))) pa_nil)) pe_int) pe_int) (pv 1))))), ?_⟩
    have q0 : SqL K H p [.int x, .int y] := SqL.of hp
    have mp : 0 < m := by omega
    refine ⟨_, rfl, p, _, 0, _, rfl, rfl, q0, atI_nat (j := 0) rfl, _, _, rfl, rfl, _, rfl, ifC (fun c => ?_) fun c => ?_⟩
    · refine ⟨_, rfl, p, _, 0, _, rfl, rfl, q0, atI_nat (j := 0) rfl, .inl ⟨_, rfl, _, rfl, _, _, rfl, rfl, mp, ?_⟩⟩
      refine ⟨_, rfl, p, _, 0, _, rfl, rfl, q0, atI_nat (j := 0) rfl, _, rfl, _, _, rfl, rfl, ⟨mp, by omega⟩, _, rfl, p, _, 0, 0, rfl, rfl, hp, rfl, ?_⟩
      exact ⟨_, rfl, k _ _ (draw_new hp y0 y1) (Int.emod_nonneg _ (by omega)) (Int.emod_lt_of_pos _ mp)⟩
    · refine ⟨_, rfl, p, _, 1, _, rfl, rfl, q0, atI_nat (j := 1) rfl, _, _, rfl, rfl, .inr ⟨by decide, by decide⟩, _, _, rfl, rfl, .inl ⟨_, rfl, _, _, rfl, rfl, by show (0 : Int) < 2147483647; decide, _, rfl, p, _, 1, 1, rfl, rfl, hp, rfl, ?_⟩⟩
      have z0 : 0 ≤ (y * 48271 + 11) % 2147483647 := Int.emod_nonneg _ (by decide)
      have z1 : (y * 48271 + 11) % 2147483647 < 2147483647 := Int.emod_lt_of_pos _ (by decide)
      have q1 : SqL K (upd H p (.lst [.int x, .int ((y * 48271 + 11) % 2147483647)])) p [.int x, .int ((y * 48271 + 11) % 2147483647)] := SqL.of upd_same
      refine ⟨_, rfl, p, _, 1, _, rfl, rfl, q1, atI_nat (j := 1) rfl, _, rfl, p, _, 1, _, rfl, rfl, q1, atI_nat (j := 1) rfl, _, _, rfl, rfl, .inl ⟨by omega, by omega⟩, .inl ⟨_, rfl, _, _, rfl, rfl, by show (0 : Int) < 2147483629; decide, _, _, rfl, rfl, ⟨by decide, by decide⟩, _, rfl, _, _, rfl, rfl, mp, ?_⟩⟩
      exact k _ _ (draw_new hp z0 z1) (Int.emod_nonneg _ (by omega)) (Int.emod_lt_of_pos _ mp)
end
end K36
/-! ## KD17 -/
namespace K36
open PySem PySem.Spec PyProof.Rows L2
theorem atI_int {xs : List V} {r : Int} (h0 : 0 ≤ r) (h1 : r < xs.length) : ∃ v, atI xs r = some v ∧ v ∈ xs := by
  obtain ⟨n, rfl⟩ := Int.eq_ofNat_of_zero_le h0
  have hn : n < xs.length := by omega
  exact ⟨xs[n], atI_nat (j := n) (by simp [hn]), List.getElem_mem _⟩
theorem Drew.ne {p a : Addr} {H H' : Hp} {o : HO} (d : Drew p H H') (e : H a = some o) (n : a ≠ p) : H' a = some o := d.keep a o n e
theorem Drawn.back {p a : Addr} {H H' : Hp} (d : Drawn p H H') (h : H' a = none) : H a = none := by
  have n : a ≠ p := fun z => by
    obtain ⟨x, y, e, _⟩ := d.pool
    rw [z, e] at h
    cases h
  rw [← d.keep a n]
  exact h
theorem Drew.back {p a : Addr} {H H' : Hp} (d : Drew p H H') (h : H' a = none) : H a = none := by
  cases q : H a with
  | none => rfl
  | some u =>
    have n : a ≠ p := fun z => by
      obtain ⟨x, y, e, _⟩ := d.pool
      rw [z, e] at h
      cases h
    have e2 := d.keep a u n q
    rw [e2] at h
    cases h
theorem PoolAt.ne {p a : Addr} {H : Hp} (h : PoolAt H p) (n : H a = none) : a ≠ p := fun z => by
  obtain ⟨x, y, e, _⟩ := h
  rw [z, e] at n
  cases n
section
variable {P : Program} {w : World} {K : PySem.W.Frag} {mg : Str → Option Value} {base : Heap}
/-! ### _law_small_book, _law_made -/
def sp_small_book : Sp := fun vs H Q _ => ∃ (p : Addr), vs = [.ref p] ∧ PoolAt H p ∧ ∀ H' t sh (b : BookP), Drew p H H' → BookOk b → H t = none → H' t = some (.tup [.int b.first, .int b.roof, .ref sh]) → H' sh = some (.tup [.int b.top, .int b.bottom]) → Q (.ref t) H'
theorem sc_small_book : FnScope ["_law_pool", "_law_low", "_law_high"] ["_law_pool"] (defScope S_law_small_book) := ⟨rfl, rfl, rfl, by decide +kernel, rfl, by decide +kernel, by decide +kernel⟩
theorem ok_small_book (F : Fx K mg) : OkD P w K mg base 2 (He.ga K "_law_small_book") ["_law_pool"] sp_small_book := by
  refine okd F.f_law_small_book sc_small_book (fun _ _ _ _ _ _ us hl => match us, hl with | [_], _ => rfl) (fun vs H Q E h => ?_) (fun cdv A₀ outer s H vs Q E hr h => ?_)
  · obtain ⟨p, rfl, _⟩ := h
    rfl
  · obtain ⟨p, rfl, hp, k⟩ := h
    refine ⟨_, pss_cons (ps_set (i := 1) sc_small_book.nd rfl (Or.inl rfl) (pe_op op_add pe_int (pe_cl (ok_draw F) hr (by rfl) F.g_law_draw F.p_law_draw (pa_cons (pv 0) (pa_cons pe_int pa_nil)))))
      (pss_cons (ps_set (i := 2) sc_small_book.nd rfl (Or.inl rfl) (pe_op op_add (pv 1) (pe_ix ix_list (pe_lst (pa_cons pe_int (pa_cons pe_int (pa_cons pe_int (pa_cons (pe_cl (ok_draw F) hr (by rfl) F.g_law_draw F.p_law_draw (pa_cons (pv 0) (pa_cons pe_int pa_nil))) pa_nil))))) (pe_cl (ok_draw F) hr (by rfl) F.g_law_draw F.p_law_draw (pa_cons (pv 0) (pa_cons pe_int pa_nil))) (fun _ _ => rfl))))
      (pss_one (ps_ret (pe_tup (pa_cons (pv 1) (pa_cons (pv 2) (pa_cons (pe_ix ix_list (pe_lst (pa_cons (pe_tup (pa_cons pe_int (pa_cons pe_int pa_nil))) (pa_cons (pe_tup (pa_cons pe_int (pa_cons pe_int pa_nil))) (pa_cons (pe_tup (pa_cons pe_int (pa_cons pe_int pa_nil))) (pa_cons (pe_tup (pa_cons pe_int (pa_cons pe_int pa_nil))) pa_nil)))))
        (pe_cl (ok_draw F) hr (by rfl) F.g_law_draw F.p_law_draw (pa_cons (pv 0) (pa_cons pe_int pa_nil))) (fun _ _ => rfl)) pa_nil))))))), ?_⟩
    refine ⟨_, rfl, p, 4, rfl, hp, by decide, by decide, fun H1 r1 d1 r10 r11 => ⟨_, _, rfl, rfl, ?_⟩⟩
    refine ⟨_, rfl, _, rfl, p, 9, rfl, d1.pool, by decide, by decide, fun H2 r2 d2 r20 r21 => ⟨by show 4 ≤ sizeLine; decide, fun l hl => ?_⟩⟩
    have nlp := d2.pool.ne hl
    refine ⟨_, rfl, p, 4, rfl, d2.pool.same (same_upd hl), by decide, by decide, fun H3 r3 d3 r30 r31 => ?_⟩
    have hl3 : H3 l = some (.lst [.int 0, .int 0, .int 3, .int r2]) := (d3.keep l nlp).trans upd_same
    obtain ⟨v, hv, mv⟩ := atI_int (xs := [V.int 0, .int 0, .int 3, .int r2]) r30 (by show r3 < 4; exact r31)
    obtain ⟨z, rfl, z0, z8⟩ : ∃ z : Int, v = .int z ∧ 0 ≤ z ∧ z ≤ 8 := by
      rcases List.mem_cons.mp mv with e | mv
      · exact ⟨0, e, by decide, by decide⟩
      · rcases List.mem_cons.mp mv with e | mv
        · exact ⟨0, e, by decide, by decide⟩
        · rcases List.mem_cons.mp mv with e | mv
          · exact ⟨3, e, by decide, by decide⟩
          · exact ⟨r2, List.mem_singleton.mp mv, r20, by omega⟩
    refine ⟨l, _, r3, _, rfl, rfl, SqL.of hl3, hv, _, _, rfl, rfl, ?_⟩
    have dr3 : Drew p H H3 := ((d1.w.trans d2.w).same (same_upd hl)).trans d3.w
    refine ⟨_, rfl, _, rfl, by show 2 ≤ sizeLine; decide, fun t1 h1 => ⟨by show 2 ≤ sizeLine; decide, fun t2 h2 => ⟨by show 2 ≤ sizeLine; decide, fun t3 h3 => ⟨by show 2 ≤ sizeLine; decide, fun t4 h4 => ⟨by show 4 ≤ sizeLine; decide, fun m hm => ?_⟩⟩⟩⟩⟩
    have s1 := same_upd (o := .tup [.int 1, .int 1]) h1
    have s2 := same_upd (o := .tup [.int 1, .int 2]) h2
    have s3 := same_upd (o := .tup [.int 2, .int 1]) h3
    have s4 := same_upd (o := .tup [.int 1, .int 3]) h4
    have s5 := same_upd (o := .lst [.ref t1, .ref t2, .ref t3, .ref t4]) hm
    have e1 := s5 _ _ (s4 _ _ (s3 _ _ (s2 _ _ (upd_same (H := H3) (a := t1) (o := .tup [.int 1, .int 1])))))
    have e2 := s5 _ _ (s4 _ _ (s3 _ _ (upd_same (H := upd H3 t1 (.tup [.int 1, .int 1])) (a := t2) (o := .tup [.int 1, .int 2]))))
    have e3 := s5 _ _ (s4 _ _ (upd_same (H := upd (upd H3 t1 (.tup [.int 1, .int 1])) t2 (.tup [.int 1, .int 2])) (a := t3) (o := .tup [.int 2, .int 1])))
    have e4 := s5 _ _ (upd_same (H := upd (upd (upd H3 t1 (.tup [.int 1, .int 1])) t2 (.tup [.int 1, .int 2])) t3 (.tup [.int 2, .int 1])) (a := t4) (o := .tup [.int 1, .int 3]))
    have sA := same_trans s1 (same_trans s2 (same_trans s3 (same_trans s4 s5)))
    have em : upd (upd (upd (upd (upd H3 t1 (.tup [.int 1, .int 1])) t2 (.tup [.int 1, .int 2])) t3 (.tup [.int 2, .int 1])) t4 (.tup [.int 1, .int 3])) m (.lst [.ref t1, .ref t2, .ref t3, .ref t4]) m = some (.lst [.ref t1, .ref t2, .ref t3, .ref t4]) := upd_same
    generalize upd (upd (upd (upd (upd H3 t1 (.tup [.int 1, .int 1])) t2 (.tup [.int 1, .int 2])) t3 (.tup [.int 2, .int 1])) t4 (.tup [.int 1, .int 3])) m (.lst [.ref t1, .ref t2, .ref t3, .ref t4]) = Z at sA em e1 e2 e3 e4 ⊢
    have dZ : Drew p H Z := dr3.same sA
    refine ⟨_, rfl, p, 4, rfl, dZ.pool, by decide, by decide, fun H4 r4 d4 r40 r41 => ?_⟩
    obtain ⟨xz, yz, ez, _⟩ := dZ.pool
    have nmp : m ≠ p := fun z => by
      rw [z, ez] at em
      cases em
    have ntp : ∀ {t : Addr} {i j : Int}, Z t = some (.tup [.int i, .int j]) → t ≠ p := fun {t i j} e => ne_of e ez (by intro z; cases z)
    obtain ⟨v, hv, mv⟩ := atI_int (xs := [V.ref t1, .ref t2, .ref t3, .ref t4]) r40 (by show r4 < 4; exact r41)
    obtain ⟨sh, i, j, rfl, hsh, i0, i1, j0, j1⟩ : ∃ sh i j, v = .ref sh ∧ Z sh = some (.tup [.int i, .int j]) ∧ 1 ≤ i ∧ i ≤ 100 ∧ 1 ≤ j ∧ j ≤ 100 := by
      rcases List.mem_cons.mp mv with e | mv
      · exact ⟨t1, 1, 1, e, e1, by decide, by decide, by decide, by decide⟩
      · rcases List.mem_cons.mp mv with e | mv
        · exact ⟨t2, 1, 2, e, e2, by decide, by decide, by decide, by decide⟩
        · rcases List.mem_cons.mp mv with e | mv
          · exact ⟨t3, 2, 1, e, e3, by decide, by decide, by decide, by decide⟩
          · exact ⟨t4, 1, 3, List.mem_singleton.mp mv, e4, by decide, by decide, by decide, by decide⟩
    refine ⟨m, _, r4, _, rfl, rfl, SqL.of ((d4.keep m nmp).trans em), hv, by show 3 ≤ sizeLine; decide, fun t ht => ?_⟩
    have hsh4 : H4 sh = some (.tup [.int i, .int j]) := (d4.keep sh (ntp hsh)).trans hsh
    refine k _ t sh ⟨1 + r1, 1 + r1 + z, i, j⟩ ((dZ.trans d4.w).same (same_upd ht)) ⟨?_, ?_, ?_, i0, i1, j0, j1⟩ (dZ.back (d4.back ht)) upd_same ((same_upd ht) _ _ hsh4)
    · show 1 ≤ 1 + r1; omega
    · show 1 + r1 ≤ 1 + r1 + z; omega
    · show 1 + r1 + z ≤ 100; omega
def sp_made (K : PySem.W.Frag) : Sp := fun vs H Q _ => ∃ (t sh : Addr) (b : BookP), vs = [.ref t] ∧ BookN b ∧ H t = some (.tup [.int b.first, .int b.roof, .ref sh]) ∧ H sh = some (.tup [.int b.top, .int b.bottom]) ∧ ∀ H' q, Same H H' → H q = none → BookAt K H' q b → Q (.ref q) H'
theorem sc_made : FnScope ["_law_parts_here"] ["_law_parts_here"] (defScope S_law_made) := ⟨rfl, rfl, rfl, by decide +kernel, rfl, by decide +kernel, by decide +kernel⟩
theorem ok_made (F : Fx K mg) : OkD P w K mg base 6 (He.ga K "_law_made") ["_law_parts_here"] (sp_made K) := by
  refine okd F.f_law_made sc_made (fun _ _ _ _ _ _ us hl => match us, hl with | [_], _ => rfl) (fun vs H Q E h => ?_) (fun cdv A₀ outer s H vs Q E hr h => ?_)
  · obtain ⟨t, sh, b, rfl, _⟩ := h
    rfl
  · obtain ⟨t, sh, b, rfl, hb, ht, hs, k⟩ := h
    have st : SqT K H t [.int b.first, .int b.roof, .ref sh] := SqT.of ht
    refine ⟨_, pss_one (ps_ret (pe_mkK (n := 2) F.k_Book (ok_Book_init F) hr (by rfl) F.g_Book (pa_cons (pe_ix ix_tup (pv 0) pe_int (fun _ _ => rfl)) (pa_cons (pe_ix ix_tup (pv 0) pe_int (fun _ _ => rfl)) pa_nil)) (pk_cons (pe_ix ix_tup (pv 0) pe_int (fun _ _ => rfl)) pk_nil))), ?_⟩
    refine ⟨_, rfl, t, _, 0, _, rfl, rfl, st, atI_nat (j := 0) rfl, _, rfl, t, _, 1, _, rfl, rfl, st, atI_nat (j := 1) rfl, _, rfl, t, _, 2, _, rfl, rfl, st, atI_nat (j := 2) rfl, rfl, rfl, fun q dq hq hdq ne => ?_⟩
    have s1 := mkH_same (C := He.ga K "Book") hq hdq ne
    refine ⟨q, dq, sh, b, rfl, hb, mkH_at, s1 _ _ hs, fun H' e1 e2 => ⟨rfl, k H' q (fun c o e => ?_) hq ⟨sh, ⟨dq, e2⟩, ?_⟩⟩⟩
    · rw [e1 c (ne_of_none e hq)]
      exact s1 _ _ e
    · rw [e1 sh (ne_of_none hs hq)]
      exact s1 _ _ hs
/-! ### _law_rules -/
structure WorldV (kvs : List (Key × V)) (t : Addr) (ru : Str) (sz : V) (sh bk lt : Bool) : Prop where
  book : valV kvs (.inr "book") = some (.ref t)
  rule : valV kvs (.inr "rule") = some (.str ru)
  size : valV kvs (.inr "size") = some sz
  short : valV kvs (.inr "short") = some (.bl sh)
  back : valV kvs (.inr "back") = some (.bl bk)
  late : valV kvs (.inr "late") = some (.bl lt)
  len : kvs.length ≤ 20
theorem val_eq (kvs : List (Key × V)) (k : Key) (v : V) : valV (putK kvs k v) k = some v := by rw [valV_put, if_pos rfl]
theorem val_ne {kvs : List (Key × V)} {k j : Key} {v : V} (h : j ≠ k) : valV (putK kvs k v) j = valV kvs j := by rw [valV_put, if_neg h]
/-- the world at wd, its book's parts; what was there stands -/
structure WSt (p wd t sb : Addr) (b : BookP) (H Hk : Hp) (kvs : List (Key × V)) : Prop where
  drew : Drew p H Hk
  w0 : H wd = none
  wp : wd ≠ p
  w : Hk wd = some (.dK kvs)
  t : Hk t = some (.tup [.int b.first, .int b.roof, .ref sb])
  s : Hk sb = some (.tup [.int b.top, .int b.bottom])
theorem WSt.new {p wd t sb a : Addr} {b : BookP} {H Hk : Hp} {kvs : List (Key × V)} {o : HO} (h : WSt p wd t sb b H Hk kvs) (n : Hk a = none) : WSt p wd t sb b H (upd Hk a o) kvs :=
  ⟨h.drew.same (same_upd n), h.w0, h.wp, (same_upd n) _ _ h.w, (same_upd n) _ _ h.t, (same_upd n) _ _ h.s⟩
theorem WSt.draw {p wd t sb : Addr} {b : BookP} {H Hk Hm : Hp} {kvs : List (Key × V)} (h : WSt p wd t sb b H Hk kvs) (d : Drawn p Hk Hm) : WSt p wd t sb b H Hm kvs := by
  obtain ⟨x, y, e, _⟩ := h.drew.pool
  exact ⟨h.drew.trans d.w, h.w0, h.wp, (d.keep _ h.wp).trans h.w, (d.keep _ (ne_of h.t e (by intro z; cases z))).trans h.t, (d.keep _ (ne_of h.s e (by intro z; cases z))).trans h.s⟩
theorem WSt.put {p wd t sb : Addr} {b : BookP} {H Hk : Hp} {kvs kvs' : List (Key × V)} (h : WSt p wd t sb b H Hk kvs) : WSt p wd t sb b H (upd Hk wd (.dK kvs')) kvs' := by
  obtain ⟨x, y, e, z⟩ := h.drew.pool
  refine ⟨⟨fun c o n q => ?_, x, y, ?_, z⟩, h.w0, h.wp, upd_same, ?_, ?_⟩
  · rw [upd_ne (ne_of_none q h.w0)]
    exact h.drew.keep c o n q
  · rw [upd_ne h.wp.symm]
    exact e
  · rw [upd_ne (ne_of h.t h.w (by intro z; cases z))]
    exact h.t
  · rw [upd_ne (ne_of h.s h.w (by intro z; cases z))]
    exact h.s
theorem len_put {kvs : List (Key × V)} {n : Nat} (h : kvs.length ≤ n) (k : Key) (v : V) : (putK kvs k v).length ≤ n + 1 := Nat.le_trans (length_putK kvs k v) (by omega)
def sp_rules : Sp := fun vs H Q _ => ∃ (p : Addr), vs = [.ref p] ∧ PoolAt H p ∧ ∀ H' wd t sb (b : BookP) kvs ru sz sh bk lt, Drew p H H' → H wd = none → H' wd = some (.dK kvs) → WorldV kvs t ru sz sh bk lt → RuleOk ru → BookOk b → H' t = some (.tup [.int b.first, .int b.roof, .ref sb]) → H' sb = some (.tup [.int b.top, .int b.bottom]) → Q (.ref wd) H'
theorem sc_rules : FnScope ["_law_pool", "_law_world"] ["_law_pool"] (defScope S_law_rules) := ⟨rfl, rfl, rfl, by decide +kernel, rfl, by decide +kernel, by decide +kernel⟩
theorem ok_rules (F : Fx K mg) : OkD P w K mg base 3 (He.ga K "_law_rules") ["_law_pool"] sp_rules := by
  refine okd F.f_law_rules sc_rules (fun _ _ _ _ _ _ us hl => match us, hl with | [_], _ => rfl) (fun vs H Q E h => ?_) (fun cdv A₀ outer s H vs Q E hr h => ?_)
  · obtain ⟨p, rfl, _⟩ := h
    rfl
  · obtain ⟨p, rfl, hp, k⟩ := h
    refine ⟨_, pss_cons (ps_set (i := 1) sc_rules.nd rfl (Or.inl rfl) (pe_disp (pps_cons pe_str (pe_cl (ok_small_book F) hr (by rfl) F.g_law_small_book F.p_law_small_book (pa_cons (pv 0) pa_nil)) (pps_cons pe_str pe_int (pps_cons pe_str pe_dnewK pps_nil))) (by rfl) (by rfl) (fun z => by cases z) (by decide)))
      (pss_cons (ps_dput (hu_of hr) (pv 1) pe_str (pe_ix ix_list (pe_lst (pa_cons pe_str (pa_cons pe_str (pa_cons pe_str (pa_cons pe_str pa_nil))))) (pe_cl (ok_draw F) (hr.mono (by decide)) (by rfl) F.g_law_draw F.p_law_draw (pa_cons (pv 0) (pa_cons pe_int pa_nil))) (fun _ _ => rfl)) rfl)
      (pss_cons (ps_dput (hu_of hr) (pv 1) pe_str (pe_ix ix_list (pe_lst (pa_cons pe_non (pa_cons pe_non (pa_cons (pe_op op_add pe_int (pe_cl (ok_draw F) (hr.mono (by decide)) (by rfl) F.g_law_draw F.p_law_draw (pa_cons (pv 0) (pa_cons pe_int pa_nil)))) pa_nil)))) (pe_cl (ok_draw F) (hr.mono (by decide)) (by rfl) F.g_law_draw F.p_law_draw (pa_cons (pv 0) (pa_cons pe_int pa_nil))) (fun _ _ => rfl)) rfl)
      (pss_cons (ps_dput (hu_of hr) (pv 1) pe_str (pe_cmpR op_gt (pe_cl (ok_draw F) (hr.mono (by decide)) (by rfl) F.g_law_draw F.p_law_draw (pa_cons (pv 0) (pa_cons pe_int pa_nil))) pe_int (nomark _)) rfl)
      (pss_cons (ps_dput (hu_of hr) (pv 1) pe_str (pe_cmpR op_eq (pe_cl (ok_draw F) (hr.mono (by decide)) (by rfl) F.g_law_draw F.p_law_draw (pa_cons (pv 0) (pa_cons pe_int pa_nil))) pe_int (nomark _)) rfl)
      (pss_cons (ps_dput (hu_of hr) (pv 1) pe_str (pe_cmpR op_eq (pe_cl (ok_draw F) (hr.mono (by decide)) (by rfl) F.g_law_draw F.p_law_draw (pa_cons (pv 0) (pa_cons pe_int pa_nil))) pe_int (nomark _)) rfl)
      (pss_one (ps_ret (pv 1)))))))), ?_⟩
    refine fun wd hwd => ⟨_, rfl, p, rfl, hp.same (same_upd hwd), fun H1 t sb b d1 hb nt ht hs => fun e he => ?_⟩
    have nwp := hp.ne hwd
    have hw1 : H1 wd = some (.dK []) := d1.keep _ _ nwp upd_same
    have dA : Drew p H (upd H1 e (.dK [])) := ⟨fun c o n z => (same_upd he) _ _ (d1.keep _ _ n ((same_upd hwd) _ _ z)), d1.pool.same (same_upd he)⟩
    have hw2 : upd H1 e (.dK []) wd = some (.dK []) := (same_upd he) _ _ hw1
    refine ⟨hw2, [(.inr "book", .ref t), (.inr "after", .int 0), (.inr "files", .ref e)], rfl, by show 3 ≤ 15; decide, ?_⟩
    have w3 : WSt p wd t sb b H (upd (upd H1 e (.dK [])) wd (.dK (mergeK [] [(.inr "book", .ref t), (.inr "after", .int 0), (.inr "files", .ref e)]))) (mergeK [] [(.inr "book", .ref t), (.inr "after", .int 0), (.inr "files", .ref e)]) :=
      (WSt.mk dA hwd nwp hw2 ((same_upd he) _ _ ht) ((same_upd he) _ _ hs)).put
    have b3 : valV (mergeK [] [((.inr "book" : Key), V.ref t), (.inr "after", .int 0), (.inr "files", .ref e)]) (.inr "book") = some (.ref t) := by
      show valV (putK (putK (putK ([] : List (Key × V)) (Sum.inr "book") (V.ref t)) (Sum.inr "after") (V.int 0)) (Sum.inr "files") (V.ref e)) (Sum.inr "book") = _
      rw [val_ne (by decide +kernel), val_ne (by decide +kernel), val_eq]
    have n3 : (mergeK [] [((.inr "book" : Key), V.ref t), (.inr "after", .int 0), (.inr "files", .ref e)]).length ≤ 3 := by
      show (putK (putK (putK ([] : List (Key × V)) (Sum.inr "book") (V.ref t)) (Sum.inr "after") (V.int 0)) (Sum.inr "files") (V.ref e)).length ≤ 3
      exact len_put (len_put (len_put (Nat.le_refl 0) _ _) _ _) _ _
    generalize mergeK [] [((.inr "book" : Key), V.ref t), (.inr "after", .int 0), (.inr "files", .ref e)] = kv3 at w3 b3 n3 ⊢
    generalize upd (upd H1 e (.dK [])) wd (.dK kv3) = H3 at w3 ⊢
    -- rule
    refine ⟨by show 4 ≤ sizeLine; decide, fun l hl => ?_⟩
    have w4 := w3.new (o := .lst [.str "behind", .str "first", .str "best", .str "next"]) hl
    have nlp : l ≠ p := by
      obtain ⟨x, y, q, _⟩ := w3.drew.pool
      exact (ne_of_none q hl).symm
    refine ⟨_, rfl, p, 4, rfl, w4.drew.pool, by decide, by decide, fun H5 r5 d5 r50 r51 => ?_⟩
    have w5 := w4.draw d5
    obtain ⟨v, hv, mv⟩ := atI_int (xs := [V.str "behind", .str "first", .str "best", .str "next"]) r50 (by show r5 < 4; exact r51)
    obtain ⟨ru, rfl, hru⟩ : ∃ ru : Str, v = .str ru ∧ RuleOk ru := by
      rcases List.mem_cons.mp mv with q | mv
      · exact ⟨_, q, .inl rfl⟩
      · rcases List.mem_cons.mp mv with q | mv
        · exact ⟨_, q, .inr (.inl rfl)⟩
        · rcases List.mem_cons.mp mv with q | mv
          · exact ⟨_, q, .inr (.inr (.inl rfl))⟩
          · exact ⟨_, List.mem_singleton.mp mv, .inr (.inr (.inr rfl))⟩
    refine ⟨l, _, r5, _, rfl, rfl, SqL.of ((d5.keep l nlp).trans upd_same), hv, _, rfl, wd, _, rfl, DPut.k (k := Sum.inr "rule") w5.w (Nat.lt_of_le_of_lt n3 (by decide)), ?_⟩
    have w6 := w5.put (kvs' := putK kv3 (.inr "rule") (.str ru))
    have n6 := len_put n3 (.inr "rule") (V.str ru)
    generalize upd H5 wd (.dK (putK kv3 (.inr "rule") (.str ru))) = H6 at w6 ⊢
    -- size
    refine ⟨_, rfl, p, 40, rfl, w6.drew.pool, by decide, by decide, fun H7 r7 d7 r70 r71 => ⟨_, _, rfl, rfl, by show 3 ≤ sizeLine; decide, fun l2 hl2 => ?_⟩⟩
    have w7 := w6.draw d7
    have w8 := w7.new (o := .lst [.non, .non, .int (9 + r7)]) hl2
    have nlp2 : l2 ≠ p := by
      obtain ⟨x, y, q, _⟩ := w7.drew.pool
      exact (ne_of_none q hl2).symm
    refine ⟨_, rfl, p, 3, rfl, w8.drew.pool, by decide, by decide, fun H9 r9 d9 r90 r91 => ?_⟩
    have w9 := w8.draw d9
    obtain ⟨sz, hv2, _⟩ := atI_int (xs := [V.non, .non, .int (9 + r7)]) r90 (by show r9 < 3; exact r91)
    refine ⟨l2, _, r9, _, rfl, rfl, SqL.of ((d9.keep l2 nlp2).trans upd_same), hv2, _, rfl, wd, _, rfl, DPut.k (k := Sum.inr "size") w9.w (Nat.lt_of_le_of_lt n6 (by decide)), ?_⟩
    have w10 := w9.put (kvs' := putK (putK kv3 (.inr "rule") (.str ru)) (.inr "size") sz)
    have n10 := len_put n6 (.inr "size") sz
    generalize upd H9 wd (.dK (putK (putK kv3 (.inr "rule") (.str ru)) (.inr "size") sz)) = H10 at w10 ⊢
    -- short
    refine ⟨_, rfl, p, 4, rfl, w10.drew.pool, by decide, by decide, fun H11 r11 d11 _ _ => ⟨_, _, rfl, rfl, _, rfl, wd, _, rfl, DPut.k (k := Sum.inr "short") (w10.draw d11).w (Nat.lt_of_le_of_lt n10 (by decide)), ?_⟩⟩
    have w11 := (w10.draw d11).put (kvs' := putK (putK (putK kv3 (.inr "rule") (.str ru)) (.inr "size") sz) (.inr "short") (.bl (decide (0 < r11))))
    have n11 := len_put n10 (.inr "short") (V.bl (decide (0 < r11)))
    generalize upd H11 wd (.dK (putK (putK (putK kv3 (.inr "rule") (.str ru)) (.inr "size") sz) (.inr "short") (.bl (decide (0 < r11))))) = H12 at w11 ⊢
    -- back
    refine ⟨_, rfl, p, 2, rfl, w11.drew.pool, by decide, by decide, fun H13 r13 d13 _ _ => ⟨rfl, _, rfl, wd, _, rfl, DPut.k (k := Sum.inr "back") (w11.draw d13).w (Nat.lt_of_le_of_lt n11 (by decide)), ?_⟩⟩
    have w13 := (w11.draw d13).put (kvs' := putK (putK (putK (putK kv3 (.inr "rule") (.str ru)) (.inr "size") sz) (.inr "short") (.bl (decide (0 < r11)))) (.inr "back") (.bl (decide (V.int r13 = V.int 0))))
    have n13 := len_put n11 (.inr "back") (V.bl (decide (V.int r13 = V.int 0)))
    generalize upd H13 wd (.dK (putK (putK (putK (putK kv3 (.inr "rule") (.str ru)) (.inr "size") sz) (.inr "short") (.bl (decide (0 < r11)))) (.inr "back") (.bl (decide (V.int r13 = V.int 0))))) = H14 at w13 ⊢
    -- late
    refine ⟨_, rfl, p, 4, rfl, w13.drew.pool, by decide, by decide, fun H15 r15 d15 _ _ => ⟨rfl, _, rfl, wd, _, rfl, DPut.k (k := Sum.inr "late") (w13.draw d15).w (Nat.lt_of_le_of_lt n13 (by decide)), ?_⟩⟩
    have w15 := (w13.draw d15).put (kvs' := putK (putK (putK (putK (putK kv3 (.inr "rule") (.str ru)) (.inr "size") sz) (.inr "short") (.bl (decide (0 < r11)))) (.inr "back") (.bl (decide (V.int r13 = V.int 0)))) (.inr "late") (.bl (decide (V.int r15 = V.int 0))))
    have n15 := len_put n13 (.inr "late") (V.bl (decide (V.int r15 = V.int 0)))
    refine ⟨_, rfl, k _ wd t sb b _ ru sz (decide (0 < r11)) (decide (V.int r13 = V.int 0)) (decide (V.int r15 = V.int 0)) w15.drew hwd w15.w ⟨?_, ?_, ?_, ?_, ?_, ?_, by omega⟩ hru hb w15.t w15.s⟩
    · rw [val_ne (by decide +kernel), val_ne (by decide +kernel), val_ne (by decide +kernel), val_ne (by decide +kernel), val_ne (by decide +kernel)]
      exact b3
    · rw [val_ne (by decide +kernel), val_ne (by decide +kernel), val_ne (by decide +kernel), val_ne (by decide +kernel), val_eq]
    · rw [val_ne (by decide +kernel), val_ne (by decide +kernel), val_ne (by decide +kernel), val_eq]
    · rw [val_ne (by decide +kernel), val_ne (by decide +kernel), val_eq]
    · rw [val_ne (by decide +kernel), val_eq]
    · rw [val_eq]
/-! ### _law_disk -/
def sp_disk (K : PySem.W.Frag) : Sp := fun vs H Q _ => ∃ (wd t sb : Addr) (b : BookP) (kvs : List (Key × V)) (ru : Str) (sh lt : Bool), vs = [.ref wd] ∧ H wd = some (.dK kvs) ∧ WorldV kvs t ru .non sh false lt ∧ RuleOk ru ∧ BookOk b ∧ H t = some (.tup [.int b.first, .int b.roof, .ref sb]) ∧ H sb = some (.tup [.int b.top, .int b.bottom]) ∧
  ∀ H' d bk dic, Same H H' → H d = none → H dic = none → DiskI K H' d bk dic ru sh lt 0 → BookAt K H' bk b → H' dic = some (.dK []) → Q (.ref d) H'
theorem sc_disk : FnScope ["_law_world", "_law_book_here", "_law_some", "_law_word"] ["_law_world"] (defScope S_law_disk) := ⟨rfl, rfl, rfl, by decide +kernel, rfl, by decide +kernel, by decide +kernel⟩
theorem ok_disk (F : Fx K mg) : OkD P w K mg base 9 (He.ga K "_law_disk") ["_law_world"] (sp_disk K) := by
  refine okd F.f_law_disk sc_disk (fun _ _ _ _ _ _ us hl => match us, hl with | [_], _ => rfl) (fun vs H Q E h => ?_) (fun cdv A₀ outer s H vs Q E hr h => ?_)
  · obtain ⟨wd, t, sb, b, kvs, ru, sh, lt, rfl, _⟩ := h
    rfl
  · obtain ⟨wd, t, sb, b, kvs, ru, sh, lt, rfl, hw, hV, hru, hb, ht, hs, k⟩ := h
    refine ⟨_, pss_cons (ps_par (i := 1) (j := 2) rfl sc_disk.nd rfl rfl (by decide) rfl rfl (pa_cons (pe_cl (ok_made F) (hr.mono (by decide)) (by rfl) F.g_law_made F.p_law_made (pa_cons (pe_dget (hu_of hr) (pv 0) pe_str (fun _ _ => rfl)) pa_nil))
        (pa_cons (pe_lc (own := [("_law_word", 3)]) (g := gName 3) (tt := tYes) rfl sc_disk.nd (pi_list (pe_lst (pa_cons pe_str (pa_cons pe_str (pa_cons pe_str (pa_cons pe_str (pa_cons pe_str pa_nil))))))) (blkOk_by (own := [("_law_word", 3)]) (N := ["_law_world", "_law_book_here", "_law_some", "_law_word"]) (sc := defScope S_law_disk) (by decide +kernel))
          (fun _ _ _ _ _ => pg_name (i := 3) sc_disk.nd rfl (Or.inl rfl)) (fun _ _ _ _ _ => pts_nil) (fun _ _ _ _ _ => pe_dget (hu_of hr) (pv 0) (pv 3) (fun _ _ => rfl))) pa_nil)) (by rfl))
      (pss_one (ps_ret (pe_mkK (n := 1) F.k_Disk (ok_Disk_init F) hr (by rfl) F.g_Disk (pa_cons (pv 1) pa_nil) (pk_cons (pe_ix ix_list (pv 2) pe_int (fun _ _ => rfl)) (pk_cons (pe_ix ix_list (pv 2) pe_int (fun _ _ => rfl)) (pk_cons (pe_ix ix_list (pv 2) pe_int (fun _ _ => rfl)) (pk_cons (pe_ix ix_list (pv 2) pe_int (fun _ _ => rfl)) (pk_cons (pe_ix ix_list (pv 2) pe_int (fun _ _ => rfl)) pk_nil)))))))), ?_⟩
    have g0 := DGet.k (k := Sum.inr "book") hw
    rw [hV.book] at g0
    refine ⟨_, rfl, wd, _, rfl, g0, t, sb, b, rfl, hb.n, ht, hs, fun H1 q s1 nq hB => ⟨by show 5 ≤ sizeLine; decide, fun l hl => ?_⟩⟩
    have hl2 : upd H1 l (.lst [.str "rule", .str "size", .str "short", .str "back", .str "late"]) l = some (.lst [.str "rule", .str "size", .str "short", .str "back", .str "late"]) := upd_same
    have s2 : Same H (upd H1 l (.lst [.str "rule", .str "size", .str "short", .str "back", .str "late"])) := same_trans s1 (same_upd hl)
    have hB2 := hB.keep (extN_same (same_upd (o := .lst [.str "rule", .str "size", .str "short", .str "back", .str "late"]) hl))
    refine ⟨l, rfl, ⟨_, SqL.of hl2⟩, fun D nD => ?_⟩
    generalize upd H1 l (.lst [.str "rule", .str "size", .str "short", .str "back", .str "late"]) = Z at hl2 s2 hB2 nD ⊢
    have item : ∀ (i : Nat) (x : V), [V.str "rule", .str "size", .str "short", .str "back", .str "late"][i]? = some x → ∃ nme v, x = .str nme ∧ valV kvs (.inr nme) = some v ∧ [V.str ru, .non, .bl sh, .bl false, .bl lt][i]? = some v := fun i x h => by
      match i, h with
      | 0, h => cases h; exact ⟨_, _, rfl, hV.rule, rfl⟩
      | 1, h => cases h; exact ⟨_, _, rfl, hV.size, rfl⟩
      | 2, h => cases h; exact ⟨_, _, rfl, hV.short, rfl⟩
      | 3, h => cases h; exact ⟨_, _, rfl, hV.back, rfl⟩
      | 4, h => cases h; exact ⟨_, _, rfl, hV.late, rfl⟩
      | n + 5, h => simp at h
    refine lc_list (K := K) (a := l) (xs := [.str "rule", .str "size", .str "short", .str "back", .str "late"]) (fun i H' => Same Z H' ∧ H' D = some (.lst ([V.str ru, .non, .bl sh, .bl false, .bl lt].take i))) ⟨same_upd nD, upd_same⟩ (fun i H' _ p => SqL.of (p.1 _ _ hl2)) (fun i x H' hx p => ?_) fun H' p => ?_
    · obtain ⟨s3, h3⟩ := p
      obtain ⟨nme, v, rfl, hv, ev⟩ := item i x hx
      have g1 := DGet.k (k := Sum.inr nme) (s3 _ _ (s2 _ _ hw))
      rw [hv] at g1
      refine ⟨rfl, _, rfl, _, rfl, wd, v, rfl, g1, _, h3, ?_, fun c o e => ?_, ?_⟩
      · have h5 := take_le [V.str ru, .non, .bl sh, .bl false, .bl lt] i
        have h6 : ([V.str ru, .non, .bl sh, .bl false, .bl lt] : List V).length = 5 := rfl
        have h7 : sizeLine = 16777216 := rfl
        omega
      · rw [upd_ne (ne_of_none e nD)]
        exact s3 _ _ e
      · rw [take_at ev]
        exact upd_same
    · obtain ⟨s3, h3⟩ := p
      have h3 : H' D = some (.lst [.str ru, .non, .bl sh, .bl false, .bl lt]) := h3
      have qD : SqL K H' D [.str ru, .non, .bl sh, .bl false, .bl lt] := SqL.of h3
      have s4 : Same H H' := same_trans s2 s3
      refine ⟨_, _, rfl, ?_⟩
      refine ⟨_, rfl, _, rfl, D, _, 0, _, rfl, rfl, qD, atI_nat (j := 0) rfl, _, rfl, D, _, 1, _, rfl, rfl, qD, atI_nat (j := 1) rfl, _, rfl, D, _, 2, _, rfl, rfl, qD, atI_nat (j := 2) rfl, _, rfl, D, _, 3, _, rfl, rfl, qD, atI_nat (j := 3) rfl, _, rfl, D, _, 4, _, rfl, rfl, qD, atI_nat (j := 4) rfl, rfl, rfl, fun x dx nx ndx ne => ?_⟩
      have s5 := mkH_same (C := He.ga K "Disk") nx ndx ne
      refine ⟨x, dx, q, b, ru, sh, lt, rfl, hru, hb.n, (hB2.keep (extN_same s3)).keep (extN_same s5), mkH_at, fun H6 bk dic e6 nbk ndic hI hBk hdic => ⟨rfl, ?_⟩⟩
      refine k H6 x bk dic (fun c o e => e6 c o (ne_of_none (s4 _ _ e) nx) (s5 _ _ (s4 _ _ e))) (none_back s4 nx) (none_back s4 (none_back s5 ndic)) hI hBk hdic
end
end K36
/-! ## KD18 -/
namespace K36
open PySem PySem.Spec PyProof.Rows L2
/-! ### numbers of the law -/
def late (gs : Bool → FS) (wt : Bool → Int) : Bool → FS := fun i => { gs i with wait := wt i }
def setI (w : Bool → Int) (i : Bool) (v : Int) : Bool → Int := fun j => if j = i then v else w j
theorem setI_at (w : Bool → Int) (i : Bool) (v : Int) : setI w i v i = v := if_pos rfl
theorem setI_ne (w : Bool → Int) {i j : Bool} (v : Int) (h : j ≠ i) : setI w i v j = w j := if_neg h
theorem late_all (gs : Bool → FS) (wt : Bool → Int) : allR (late gs wt) = allR gs := rfl
/-- behind t turns -/
structure Num (t : Nat) (gs : Bool → FS) (wt tm : Bool → Int) (af : Int) : Prop where
  g0 : ∀ i, (gs i).wait = 0
  op : ∀ i, (gs i).op = true
  w0 : ∀ i, 0 ≤ wt i
  w5 : ∀ i, wt i ≤ 5 * t
  t0 : ∀ i, 0 ≤ tm i
  tt : ∀ i, tm i ≤ t
  f : ∀ i, FOk (250 * t) (250 * t) (tm i).toNat (gs i)
  a0 : 0 ≤ af
  aB : af ≤ 250 * t
theorem Num.bnd {t : Nat} {gs : Bool → FS} {wt tm : Bool → Int} {af : Int} (h : Num t gs wt tm af) (ht : t ≤ 31) : Bnd gs af (250 * t) 31 :=
  ⟨fun j => (h.f j).mono (Int.le_refl _) (Int.le_refl _) (by have := h.tt j; omega), by decide, h.a0, h.aB, by omega⟩
theorem FOk.late {B S : Int} {n : Nat} {f : FS} (h : FOk B S n f) (w : Int) : FOk B S n { f with wait := w } := ⟨h.s0, h.sh, h.hS, h.rn, h.ri⟩
theorem Bnd.late {gs : Bool → FS} {af B : Int} {n : Nat} (h : Bnd gs af B n) (wt : Bool → Int) : Bnd (late gs wt) af B n := ⟨fun j => (h.f j).late _, h.n, h.a0, h.aB, h.B⟩
/-- a wait grows -/
theorem Num.wait {t : Nat} {gs : Bool → FS} {wt tm : Bool → Int} {af m : Int} (h : Num t gs wt tm af) (i : Bool) (m0 : 0 ≤ m) (m5 : m ≤ 5) : Num (t + 1) gs (setI wt i (wt i + m)) tm af := by
  refine ⟨h.g0, h.op, fun j => ?_, fun j => ?_, h.t0, fun j => by have := h.tt j; omega, fun j => (h.f j).mono (by omega) (by omega) (Nat.le_refl _), h.a0, by have := h.aB; omega⟩
  · have h1 := h.w0 i
    have h2 := h.w0 j
    unfold setI
    split <;> omega
  · have h1 := h.w5 i
    have h2 := h.w5 j
    unfold setI
    split <;> omega
/-- what waited is written -/
theorem Num.give {t : Nat} {gs : Bool → FS} {wt tm : Bool → Int} {af : Int} {P : Par} (hb : BookOk P.book) (h : Num t gs wt tm af) (ht : t ≤ 30) (i : Bool) :
    Num (t + 1) (setF gs i (wF P (allR gs) (gs i) (wt i) af)) (setI wt i 0) (setI tm i (tm i + if 0 < wt i then 1 else 0)) (wA P (allR gs) (gs i) (wt i) af) := by
  have all : ∀ r ∈ allR gs, RunIn (250 * t) r := (h.bnd (by omega)).all
  have hw0 := h.w0 i
  have hw5 := h.w5 i
  have ht0 := h.t0 i
  have htt := h.tt i
  have B0 : (0 : Int) ≤ 250 * t := by omega
  obtain ⟨q1, q2, q3⟩ := w_ok (P := P) (M := 150) hb B0 (h.f i) all ⟨h.a0, h.aB⟩ hw0 (by omega)
  have e250 : (250 : Int) * (t : Nat) + (150 + 100) = 250 * ((t + 1 : Nat) : Int) := by omega
  rw [e250] at q1 q3
  have qf : FOk (250 * ((t + 1 : Nat) : Int)) (250 * ((t + 1 : Nat) : Int)) (tm i + if 0 < wt i then 1 else 0).toNat (wF P (allR gs) (gs i) (wt i) af) := by
    by_cases c : 0 < wt i
    · rw [if_pos c]
      exact q1.mono (Int.le_refl _) (Int.le_refl _) (by omega)
    · have e0 : wt i = 0 := by omega
      rw [if_neg c, e0, (w_zero (P := P) (all := allR gs) (after := af) (h.f i)).1]
      exact (h.f i).mono (by omega) (by omega) (by omega)
  refine ⟨fun j => ?_, fun j => ?_, fun j => ?_, fun j => ?_, fun j => ?_, fun j => ?_, fun j => ?_, q2, q3⟩
  · by_cases e : j = i
    · rw [e, setF_at, wF_wait]; exact h.g0 i
    · rw [setF_ne _ _ e]; exact h.g0 j
  · by_cases e : j = i
    · rw [e, setF_at, wF_op]; exact h.op i
    · rw [setF_ne _ _ e]; exact h.op j
  · have h2 := h.w0 j
    unfold setI
    split <;> omega
  · have h2 := h.w5 j
    unfold setI
    split <;> omega
  · have h2 := h.t0 j
    unfold setI
    split
    · split <;> omega
    · omega
  · have h2 := h.tt j
    unfold setI
    split
    · split <;> omega
    · omega
  · by_cases e : j = i
    · rw [e, setF_at, setI_at]
      exact qf
    · rw [setF_ne _ _ e, setI_ne _ _ e]
      exact (h.f j).mono (by omega) (by omega) (Nat.le_refl _)
/-- the late disk's file behind its flush -/
theorem late_give {P : Par} (gs : Bool → FS) (wt : Bool → Int) (i : Bool) (af : Int) (g0 : ∀ i, (gs i).wait = 0) (op : ∀ i, (gs i).op = true) :
    setF (late gs wt) i { wF P (allR (late gs wt)) (late gs wt i) (wt i) af with wait := 0 } = late (setF gs i (wF P (allR gs) (gs i) (wt i) af)) (setI wt i 0) ∧ wA P (allR (late gs wt)) (late gs wt i) (wt i) af = wA P (allR gs) (gs i) (wt i) af ∧ wG P (late gs wt i) (wt i) = wG P (gs i) (wt i) := by
  have e0 : late gs wt i = { gs i with wait := wt i, op := true } := by
    unfold late
    rw [← op i]
  obtain ⟨e1, e2, e3⟩ := wF_with P (allR gs) (gs i) (wt i) af (wt i) true
  rw [late_all, e0, e1, e2, e3]
  refine ⟨?_, rfl, rfl⟩
  funext j
  unfold late setI
  by_cases e : j = i
  · rw [e, setF_at, setF_at, if_pos rfl]
    have o1 := wF_op P (allR gs) (gs i) (wt i) af
    rw [op i] at o1
    rw [← o1]
  · rw [setF_ne _ _ e, setF_ne _ _ e, if_neg e]
/-! ### the law's heap -/
theorem DiskAt.stay {K : PySem.W.Frag} {T : List (Addr × Str)} {W : List Addr} {H H' : Hp} {A : DA} {ru : Str} {sh lt : Bool} {b : BookP} {af : Int} {fs : Bool → FS} (h : DiskAt K H A ru sh b lt af fs) (fr : Frm T W H H')
    (hd : A.d ∉ W) (hk : A.dic ∉ W) (hf : ∀ j, A.f j ∉ W) (hl : ∀ j, A.l j ∉ W) (hw : ∀ a ∈ W, ∃ u, H a = some u ∧ (∀ xs, u ≠ .tup xs) ∧ (∀ C dx fl, u ≠ .ins C dx fl)) : DiskAt K H' A ru sh b lt af fs := by
  obtain ⟨dx, hd0⟩ := h.disk
  refine ⟨⟨dx, fr.keep _ _ hd0 hd (by intro _ z; cases z)⟩, fr.keep _ _ h.dic hk (by intro _ z; cases z), fun j => ?_, h.book.frm fr fun a ha => ?_, h.lne, h.fne⟩
  · obtain ⟨⟨df, hfj⟩, hlj⟩ := h.file j
    exact ⟨⟨df, fr.keep _ _ hfj (hf j) (by intro _ z; cases z)⟩, hlj.frm fr (hl j) fun a ha => let ⟨u, hu, n, _⟩ := hw a ha; ⟨u, hu, n⟩⟩
  · obtain ⟨u, hu, n, n2⟩ := hw a ha
    exact ⟨u, hu, n, fun C dx fl e => absurd e (n2 C dx fl)⟩
abbrev kvI (w : Bool → Int) : List (Key × V) := [(.inr "a", .int (w false)), (.inr "b", .int (w true))]
/-- the script, read -/
def ScrAt (K : PySem.W.Frag) (H : Hp) (sc : Addr) (xs : List V) (no : Addr → Prop) : Prop := (∀ H, SqL K H sc xs) ∨ ∃ u, H sc = some u ∧ (∀ H, H sc = some u → SqL K H sc xs) ∧ (∀ C dx fl, u ≠ .ins C dx fl) ∧ (∀ kvs, u ≠ .dK kvs) ∧ (∀ ps, u ≠ .tbl ps) ∧ no sc
theorem ScrAt.sq {K : PySem.W.Frag} {H : Hp} {sc : Addr} {xs : List V} {no : Addr → Prop} (h : ScrAt K H sc xs no) : SqL K H sc xs := by
  rcases h with h | ⟨u, e, h, _⟩
  · exact h H
  · exact h H e
theorem ScrAt.frm {K : PySem.W.Frag} {T : List (Addr × Str)} {W : List Addr} {H H' : Hp} {sc : Addr} {xs : List V} {no : Addr → Prop} (h : ScrAt K H sc xs no) (fr : Frm T W H H') (hw : ∀ a ∈ W, (∃ u, H a = some u ∧ ((∃ C dx fl, u = .ins C dx fl) ∨ ∃ kvs, u = .dK kvs)) ∨ ∀ c, no c → c ≠ a) : ScrAt K H' sc xs no := by
  rcases h with h | ⟨u, e, h, n1, n2, n3, n4⟩
  · exact .inl h
  · refine .inr ⟨u, fr.keep _ _ e (fun z => ?_) n3, h, n1, n2, n3, n4⟩
    rcases hw sc z with ⟨v, hv, q⟩ | q
    · rw [e] at hv
      cases hv
      rcases q with ⟨C, dx, fl, q⟩ | ⟨kvs, q⟩
      · exact n1 _ _ _ q
      · exact n2 _ q
    · exact q sc n4 rfl
structure LA where
  p : Addr
  A : DA
  B : DA
  wa : Addr
  ti : Addr
  sc : Addr
def LA.no (L : LA) (c : Addr) : Prop := c ≠ L.p ∧ (∀ i, c ≠ L.A.l i) ∧ ∀ i, c ≠ L.B.l i
structure LawAt (K : PySem.W.Frag) (H : Hp) (L : LA) (xs : List V) (ru : Str) (sh : Bool) (b : BookP) (af ag : Int) (fs gs : Bool → FS) (wt tm : Bool → Int) : Prop where
  pool : PoolAt H L.p
  here : DiskAt K H L.A ru sh b true af fs
  twin : DiskAt K H L.B ru sh b false ag gs
  sep : Sep L.A L.B
  pA : ∀ i, L.A.l i ≠ L.p
  pB : ∀ i, L.B.l i ≠ L.p
  wa : H L.wa = some (.dK (kvI wt))
  ti : H L.ti = some (.dK (kvI tm))
  wti : L.wa ≠ L.ti
  wA : L.A.dic ≠ L.wa
  wB : L.B.dic ≠ L.wa
  tA : L.A.dic ≠ L.ti
  tB : L.B.dic ≠ L.ti
  scr : ScrAt K H L.sc xs L.no
  tabs : LamX.Tabs (TT K) H
section
variable {K : PySem.W.Frag} {H H' : Hp} {L : LA} {xs : List V} {ru : Str} {sh i : Bool} {b : BookP} {af ag af' : Int} {fs gs fs' : Bool → FS} {wt tm : Bool → Int}
theorem PoolAt.frm {p : Addr} {T : List (Addr × Str)} {W : List Addr} (h : PoolAt H p) (fr : Frm T W H H') (n : p ∉ W) : PoolAt H' p := let ⟨x, y, e, z⟩ := h; ⟨x, y, fr.keep _ _ e n (by intro _ z; cases z), z⟩
theorem LawAt.same (h : LawAt K H L xs ru sh b af ag fs gs wt tm) (s : Same H H') : LawAt K H' L xs ru sh b af ag fs gs wt tm :=
  ⟨h.pool.same s, h.here.ext (extN_same s), h.twin.ext (extN_same s), h.sep, h.pA, h.pB, s _ _ h.wa, s _ _ h.ti, h.wti, h.wA, h.wB, h.tA, h.tB, h.scr.frm (Frm.same (W := []) h.tabs s) (by simp), h.tabs.ext s⟩
theorem in1 {a x : Addr} (h : a ∈ [x]) : a = x := List.mem_singleton.mp h
theorem LawAt.draw (h : LawAt K H L xs ru sh b af ag fs gs wt tm) (d : Drawn L.p H H') : LawAt K H' L xs ru sh b af ag fs gs wt tm := by
  obtain ⟨x, y, e, _⟩ := h.pool
  have ex : ∀ a ∈ [L.p], ∃ u, H a = some u ∧ (∀ xs, u ≠ .tup xs) ∧ (∀ C dx fl, u ≠ .ins C dx fl) := fun a ha => by rw [in1 ha]; exact ⟨_, e, (by intro _ z; cases z), (by intro _ _ _ z; cases z)⟩
  have fr : Frm (TT K) [L.p] H H' := ⟨fun c o q n _ => by rw [d.keep c (fun z => n (List.mem_singleton.mpr z))]; exact q, tabs_ne (W := [L.p]) h.tabs (fun a ha => by rw [in1 ha]; exact ⟨_, e, flat_lst _⟩) fun c o q n => by rw [d.keep c (fun z => n (List.mem_singleton.mpr z))]; exact q⟩
  have st : ∀ {D : DA} {lt : Bool} {af : Int} {fs : Bool → FS}, (∀ i, D.l i ≠ L.p) → DiskAt K H D ru sh b lt af fs → DiskAt K H' D ru sh b lt af fs := fun {D lt af fs} n g => by
    obtain ⟨dx, hd⟩ := g.disk
    exact g.stay fr (fun z => ne_of hd e (by intro z; cases z) (in1 z)) (fun z => ne_of g.dic e (by intro z; cases z) (in1 z)) (fun j z => by obtain ⟨df, hf⟩ := g.fileAt j; exact ne_of hf e (by intro z; cases z) (in1 z)) (fun j z => n j (in1 z)) ex
  exact ⟨d.pool, st h.pA h.here, st h.pB h.twin, h.sep, h.pA, h.pB, (d.keep _ (ne_of h.wa e (by intro z; cases z))).trans h.wa, (d.keep _ (ne_of h.ti e (by intro z; cases z))).trans h.ti, h.wti, h.wA, h.wB, h.tA, h.tB,
    h.scr.frm fr fun a ha => .inr fun c hc => by rw [in1 ha]; exact hc.1, fr.tabs⟩
/-- the late disk was worked at -/
theorem LawAt.goHere (h : LawAt K H L xs ru sh b af ag fs gs wt tm) (fr : Frm (TT K) (L.A.Wi i) H H') (d : DiskAt K H' L.A ru sh b true af' fs') : LawAt K H' L xs ru sh b af' ag fs' gs wt tm := by
  have wi := h.here.wi i
  have nk : ∀ {a kvs}, H a = some (.dK kvs) → a ∉ L.A.Wi i := fun {a kvs} e z => by
    obtain ⟨u, hu, _, n, _⟩ := wi a z
    rw [e] at hu
    cases hu
    exact n _ rfl
  obtain ⟨dx, hd⟩ := h.here.disk
  obtain ⟨df, hf⟩ := h.here.fileAt i
  obtain ⟨x, y, e, _⟩ := h.pool
  refine ⟨h.pool.frm fr fun z => ?_, d, h.twin.other h.here h.sep.symm fr, h.sep, h.pA, h.pB, fr.keep _ _ h.wa (nk h.wa) (by intro _ z; cases z), fr.keep _ _ h.ti (nk h.ti) (by intro _ z; cases z), h.wti, h.wA, h.wB, h.tA, h.tB, h.scr.frm fr fun a ha => ?_, fr.tabs⟩
  · rcases mem3 z with z | z | z
    · exact ne_of e hd (by intro z; cases z) z
    · exact ne_of e hf (by intro z; cases z) z
    · exact h.pA i z.symm
  · rcases mem3 ha with rfl | rfl | rfl
    · exact .inl ⟨_, hd, .inl ⟨_, _, _, rfl⟩⟩
    · exact .inl ⟨_, hf, .inl ⟨_, _, _, rfl⟩⟩
    · exact .inr fun c hc => hc.2.1 i
/-- the twin was worked at -/
theorem LawAt.goTwin (h : LawAt K H L xs ru sh b af ag fs gs wt tm) (fr : Frm (TT K) (L.B.Wi i) H H') (d : DiskAt K H' L.B ru sh b false af' fs') : LawAt K H' L xs ru sh b af af' fs fs' wt tm := by
  have wi := h.twin.wi i
  have nk : ∀ {a kvs}, H a = some (.dK kvs) → a ∉ L.B.Wi i := fun {a kvs} e z => by
    obtain ⟨u, hu, _, n, _⟩ := wi a z
    rw [e] at hu
    cases hu
    exact n _ rfl
  obtain ⟨dx, hd⟩ := h.twin.disk
  obtain ⟨df, hf⟩ := h.twin.fileAt i
  obtain ⟨x, y, e, _⟩ := h.pool
  refine ⟨h.pool.frm fr fun z => ?_, h.here.other h.twin h.sep fr, d, h.sep, h.pA, h.pB, fr.keep _ _ h.wa (nk h.wa) (by intro _ z; cases z), fr.keep _ _ h.ti (nk h.ti) (by intro _ z; cases z), h.wti, h.wA, h.wB, h.tA, h.tB, h.scr.frm fr fun a ha => ?_, fr.tabs⟩
  · rcases mem3 z with z | z | z
    · exact ne_of e hd (by intro z; cases z) z
    · exact ne_of e hf (by intro z; cases z) z
    · exact h.pB i z.symm
  · rcases mem3 ha with rfl | rfl | rfl
    · exact .inl ⟨_, hd, .inl ⟨_, _, _, rfl⟩⟩
    · exact .inl ⟨_, hf, .inl ⟨_, _, _, rfl⟩⟩
    · exact .inr fun c hc => hc.2.2 i
theorem putI (w : Bool → Int) (i : Bool) (v : Int) : putK (kvI w) (.inr (nm i)) (.int v) = kvI (setI w i v) := by
  have e1 : decide ((Sum.inr (Str.ofString "a") : Key) = Sum.inr (Str.ofString "b")) = false := by decide +kernel
  have e2 : decide ((Sum.inr (Str.ofString "b") : Key) = Sum.inr (Str.ofString "a")) = false := by decide +kernel
  have e3 : decide ((Sum.inr (Str.ofString "a") : Key) = Sum.inr (Str.ofString "a")) = true := by decide +kernel
  have e4 : decide ((Sum.inr (Str.ofString "b") : Key) = Sum.inr (Str.ofString "b")) = true := by decide +kernel
  cases i with
  | false =>
    unfold putK
    rw [if_pos (by show (decide ((Sum.inr (Str.ofString "a") : Key) = Sum.inr (Str.ofString "a")) || _) = true; rw [e3]; rfl)]
    show [if (Sum.inr (Str.ofString "a") : Key) = Sum.inr (Str.ofString "a") then _ else _, if (Sum.inr (Str.ofString "b") : Key) = Sum.inr (Str.ofString "a") then _ else _] = _
    rw [if_pos (of_decide_eq_true e3), if_neg (of_decide_eq_false e2)]
    rfl
  | true =>
    unfold putK
    rw [if_pos (by show (decide ((Sum.inr (Str.ofString "a") : Key) = Sum.inr (Str.ofString "b")) || (decide ((Sum.inr (Str.ofString "b") : Key) = Sum.inr (Str.ofString "b")) || false)) = true; rw [e1, e4]; rfl)]
    show [if (Sum.inr (Str.ofString "a") : Key) = Sum.inr (Str.ofString "b") then _ else _, if (Sum.inr (Str.ofString "b") : Key) = Sum.inr (Str.ofString "b") then _ else _] = _
    rw [if_neg (of_decide_eq_false e1), if_pos (of_decide_eq_true e4)]
    rfl
theorem valI (w : Bool → Int) (i : Bool) : valV (kvI w) (.inr (nm i)) = some (.int (w i)) := by
  cases i with
  | false => rfl
  | true =>
    have e : valV (kvI w) (.inr (nm true)) = valV [((.inr "b", .int (w true)) : Key × V)] (.inr (nm true)) := valV_neg (show ¬ ((.inr "a" : Key) = .inr (nm true)) from by decide +kernel)
    rw [e]
    rfl
theorem LawAt.dicts (h : LawAt K H L xs ru sh b af ag fs gs wt tm) {w : Addr} {kvs kvs' : List (Key × V)} (hw : H w = some (.dK kvs)) (nA : L.A.dic ≠ w) (nB : L.B.dic ≠ w) :
    Frm (TT K) [w] H (upd H w (.dK kvs')) ∧ DiskAt K (upd H w (.dK kvs')) L.A ru sh b true af fs ∧ DiskAt K (upd H w (.dK kvs')) L.B ru sh b false ag gs ∧ PoolAt (upd H w (.dK kvs')) L.p ∧ ScrAt K (upd H w (.dK kvs')) L.sc xs L.no := by
  have fr : Frm (TT K) [w] H (upd H w (.dK kvs')) := (Frm.refl h.tabs).upd (.inr ⟨.inl List.mem_cons_self, _, hw, flat_dK _⟩)
  have ex : ∀ a ∈ [w], ∃ u, H a = some u ∧ (∀ xs, u ≠ .tup xs) ∧ (∀ C dx fl, u ≠ .ins C dx fl) := fun a ha => by rw [in1 ha]; exact ⟨_, hw, (by intro _ z; cases z), (by intro _ _ _ z; cases z)⟩
  have st : ∀ {D : DA} {lt : Bool} {af : Int} {fs : Bool → FS}, D.dic ≠ w → DiskAt K H D ru sh b lt af fs → DiskAt K (upd H w (.dK kvs')) D ru sh b lt af fs := fun {D lt af fs} n g => by
    obtain ⟨dx, hd⟩ := g.disk
    exact g.stay fr (fun z => ne_of hd hw (by intro z; cases z) (in1 z)) (fun z => n (in1 z)) (fun j z => by obtain ⟨df, hf⟩ := g.fileAt j; exact ne_of hf hw (by intro z; cases z) (in1 z)) (fun j z => by obtain ⟨_, as, hl⟩ := g.file j; exact ne_of hl.lst hw (by intro z; cases z) (in1 z)) ex
  obtain ⟨x, y, e, _⟩ := h.pool
  exact ⟨fr, st nA h.here, st nB h.twin, h.pool.frm fr fun z => ne_of e hw (by intro z; cases z) (in1 z), h.scr.frm fr fun a ha => .inl (by rw [in1 ha]; exact ⟨_, hw, .inr ⟨_, rfl⟩⟩)⟩
theorem LawAt.putW (h : LawAt K H L xs ru sh b af ag fs gs wt tm) (i : Bool) (v : Int) : LawAt K (upd H L.wa (.dK (putK (kvI wt) (.inr (nm i)) (.int v)))) L xs ru sh b af ag fs gs (setI wt i v) tm := by
  rw [putI]
  obtain ⟨fr, a, b', p, s⟩ := h.dicts (kvs' := kvI (setI wt i v)) h.wa h.wA h.wB
  exact ⟨p, a, b', h.sep, h.pA, h.pB, upd_same, (upd_ne h.wti.symm).trans h.ti, h.wti, h.wA, h.wB, h.tA, h.tB, s, fr.tabs⟩
theorem LawAt.putT (h : LawAt K H L xs ru sh b af ag fs gs wt tm) (i : Bool) (v : Int) : LawAt K (upd H L.ti (.dK (putK (kvI tm) (.inr (nm i)) (.int v)))) L xs ru sh b af ag fs gs wt (setI tm i v) := by
  rw [putI]
  obtain ⟨fr, a, b', p, s⟩ := h.dicts (kvs' := kvI (setI tm i v)) h.ti h.tA h.tB
  exact ⟨p, a, b', h.sep, h.pA, h.pB, (upd_ne h.wti).trans h.wa, upd_same, h.wti, h.wA, h.wB, h.tA, h.tB, s, fr.tabs⟩
end
end K36
/-! ## KD19 -/
namespace K36
open PySem PySem.Spec PyProof.Rows L2
/-! ### data of comparisons -/
def dPairs (rs : List (Int × Int)) : PyData := .list (rs.map fun r => .tuple [.int r.1, .int r.2])
theorem dPairs_lay : ∀ rs : List (Int × Int), PyData.canLayAll0 (rs.map fun r => PyData.tuple [.int r.1, .int r.2]) = true
  | [] => by simp [PyData.canLayAll0]
  | r :: t => by
    rw [List.map_cons]
    simp only [PyData.canLayAll0, PyData.canLay0, dPairs_lay t, Bool.and_self]
theorem dPairs_depth : ∀ rs : List (Int × Int), PyData.depthAll (rs.map fun r => PyData.tuple [.int r.1, .int r.2]) ≤ 1
  | [] => by simp [PyData.depthAll]
  | r :: t => by
    rw [List.map_cons]
    have h := dPairs_depth t
    simp only [PyData.depthAll, PyData.depth]
    omega
theorem dPairs_ok (rs : List (Int × Int)) : SeqAt.shaped (dPairs rs) = true ∧ PyData.eqv (dPairs rs) (dPairs rs) = true := by
  have h1 : (dPairs rs).canLay0 = true := by
    unfold dPairs
    simp only [PyData.canLay0]
    exact dPairs_lay rs
  refine ⟨?_, SeqAt.eqv_refl _ h1⟩
  unfold SeqAt.shaped
  rw [h1]
  have h2 := dPairs_depth rs
  have h3 : (dPairs rs).depth ≤ 64 := by
    unfold dPairs
    simp only [PyData.depth]
    omega
  rw [decide_eq_true h3]
  rfl
theorem dInts_ok (a b : Int) : SeqAt.shaped (.list [.int a, .int b]) = true ∧ PyData.eqv (.list [.int a, .int b]) (.list [.int a, .int b]) = true := by
  have h1 : (PyData.list [.int a, .int b]).canLay0 = true := by simp [PyData.canLay0, PyData.canLayAll0]
  refine ⟨?_, SeqAt.eqv_refl _ h1⟩
  unfold SeqAt.shaped
  rw [h1]
  have h3 : (PyData.list [.int a, .int b]).depth ≤ 64 := by simp [PyData.depth, PyData.depthAll]
  rw [decide_eq_true h3]
  rfl
theorem dp_pairs {K : PySem.W.Frag} {H : Hp} {l : Addr} {rs : List (Int × Int)} (h : PL H l (finR rs)) : Dp K H (.ref l) (dPairs rs) := by
  obtain ⟨as, hl, ht⟩ := h
  refine .lst (SqL.of hl) ?_
  clear hl
  induction rs generalizing as with
  | nil =>
    cases ht
    exact .nil
  | cons r t ih =>
    cases ht with
    | cons a b => exact .cons (.tup (SqT.of a) (.cons (.int _) (.cons (.int _) .nil))) (ih _ b)
theorem late_wait (gs : Bool → FS) (wt : Bool → Int) (i : Bool) (v : Int) : setF (late gs wt) i { late gs wt i with wait := v } = late gs (setI wt i v) := by
  funext j
  unfold setF late setI
  by_cases e : j = i
  · rw [if_pos e, if_pos e, e]
  · rw [if_neg e, if_neg e]
theorem twin_same {P : Par} {gs : Bool → FS} {i : Bool} {af B S : Int} {n : Nat} (hf : FOk B S n (gs i)) (g0 : (gs i).wait = 0) :
    setF gs i { wF P (allR gs) (gs i) (gs i).wait af with wait := 0 } = gs ∧ wA P (allR gs) (gs i) (gs i).wait af = af ∧ wG P (gs i) (gs i).wait = 0 := by
  obtain ⟨e1, e2, e3⟩ := w_zero (P := P) (all := allR gs) (after := af) hf
  rw [g0, e1, e2, e3]
  refine ⟨?_, rfl, rfl⟩
  funext j
  unfold setF
  by_cases e : j = i
  · rw [if_pos e, e, ← g0]
  · rw [if_neg e]
section
variable {P : Program} {w : World} {K : PySem.W.Frag} {mg : Str → Option Value} {base : Heap}
/-! ### _law_alike -/
def sp_alike (K : PySem.W.Frag) : Sp := fun vs H Q _ => ∃ (L : LA) (xs : List V) (ru : Str) (sh : Bool) (b : BookP) (af B : Int) (n : Nat) (gs : Bool → FS) (wt tm : Bool → Int), vs = [.ref L.A.d, .ref L.B.d] ∧ LawAt K H L xs ru sh b af af (late gs wt) gs wt tm ∧ RuleOk ru ∧ BookOk b ∧ Bnd gs af B n ∧ (∀ i, (gs i).wait = 0) ∧ (∀ i, (gs i).op = true) ∧
  ∀ H', LawAt K H' L xs ru sh b af af (late gs wt) gs wt tm → Q (.bl true) H'
theorem sc_alike : FnScope ["_law_disk_here", "_law_twin", "_law_name"] ["_law_disk_here", "_law_twin"] (defScope S_law_alike) := ⟨rfl, rfl, rfl, by decide +kernel, rfl, by decide +kernel, by decide +kernel⟩
theorem ok_alike (F : Fx K mg) (TB : LamX.TabB base mg (cJ K) (tJ K)) : OkD P w K mg base 11 (He.ga K "_law_alike") ["_law_disk_here", "_law_twin"] (sp_alike K) := by
  refine okd F.f_law_alike sc_alike (fun _ _ _ _ _ _ us hl => match us, hl with | [_, _], _ => rfl) (fun vs H Q E h => ?_) (fun cdv A₀ outer s H vs Q E hr h => ?_)
  · obtain ⟨L, xs, ru, sh, b, af, B, n, gs, wt, tm, rfl, _⟩ := h
    rfl
  · obtain ⟨L, xs, ru, sh, b, af, B, n, gs, wt, tm, rfl, hL, hru, hb, hB, g0, op, k⟩ := h
    have hr1 := hr.mono (j := 2) (by decide)
    refine ⟨_, pss_cons (ps_for PassesOwn.never rfl (pi_list (pe_me0 (pv 0) F.c_Disk F.m_Disk_names (ok_names F) (hr.mono (by decide)))) (pg_name (i := 2) sc_alike.nd rfl (.inl rfl))
        (pss_cons (ps_if (pt_cmpR (op_neD hr.units) (pe_lst (pa_cons (pe_fld (pe_oIx (pv 0) (pv 2) F.m_Disk_getitem F.x_item (ok_getitem F) hr1) rfl) (pa_cons (pe_fld (pe_oIx (pv 0) (pv 2) F.m_Disk_getitem F.x_item (ok_getitem F) hr1) rfl) pa_nil)))
            (pe_lst (pa_cons (pe_fld (pe_oIx (pv 1) (pv 2) F.m_Disk_getitem F.x_item (ok_getitem F) hr1) rfl) (pa_cons (pe_fld (pe_oIx (pv 1) (pv 2) F.m_Disk_getitem F.x_item (ok_getitem F) hr1) rfl) pa_nil))) (nomark _)) (pss_one (ps_ret pe_bl)) pss_nil)
        (pss_one (ps_if (pw_or (pt_cmpR (op_neD hr.units) (pe_me0 (pe_oIx (pv 0) (pv 2) F.m_Disk_getitem F.x_item (ok_getitem F) hr1) F.c_File F.m_File_pieces (ok_pieces F) (hr.mono (by decide))) (pe_me0 (pe_oIx (pv 1) (pv 2) F.m_Disk_getitem F.x_item (ok_getitem F) hr1) F.c_File F.m_File_pieces (ok_pieces F) (hr.mono (by decide))) (nomark _))
          (pw_or (pt_cmpR op_ne (pe_fld (pe_oIx (pv 1) (pv 2) F.m_Disk_getitem F.x_item (ok_getitem F) hr1) rfl) pe_int (nomark _)) (pw_or1 (pt_cmpR op_ne (pe_me (pv 1) F.c_Disk F.m_Disk_flush (ok_flush F TB) hr (pa_cons (pv 2) pa_nil)) pe_int (nomark _))))).pt (pss_one (ps_ret pe_bl)) pss_nil))))
      (pss_one (ps_ret (pe_and (pe_cmpR (op_eqD hr.units) (pe_me0 (pv 0) F.c_Disk F.m_Disk_names (ok_names F) (hr.mono (by decide))) (pe_me0 (pv 1) F.c_Disk F.m_Disk_names (ok_names F) (hr.mono (by decide))) (nomark _)) (pe_one (pe_cmpR op_eq (pe_fld (pv 0) rfl) (pe_fld (pv 1) rfl) (nomark _)))))), ?_⟩
    obtain ⟨da, hda⟩ := hL.here.disk
    refine ⟨_, rfl, L.A.d, da, _, rfl, hda, rfl, L.A.d, L.A.bk, L.A.dic, ru, sh, true, af, kvA L.A, rfl, hL.here.disk, hL.here.dic, fun q hq => ?_⟩
    have hLq : LawAt K (upd H q (.lst [.str "a", .str "b"])) L xs ru sh b af af (late gs wt) gs wt tm := hL.same (same_upd hq)
    have hqq : upd H q (.lst [.str "a", .str "b"]) q = some (.lst [.str "a", .str "b"]) := upd_same
    have nq : ∀ i, q ≠ L.B.l i := fun i z => by
      obtain ⟨_, as, hl⟩ := hL.twin.file i
      have e := hl.lst
      rw [← z, hq] at e
      cases e
    refine ⟨q, rfl, ⟨_, SqL.of hqq⟩, for_list (xs := [.str "a", .str "b"]) (fun j σ H' => LawAt K H' L xs ru sh b af af (late gs wt) gs wt tm ∧ H' q = some (.lst [.str "a", .str "b"]) ∧ ∃ x2, σ = [some (.ref L.A.d), some (.ref L.B.d), x2])
      ⟨hLq, hqq, _, rfl⟩ (fun j σ H' _ p => SqL.of p.2.1) (fun j x σ H1 hx p => ?_) fun σ H1 p => ?_⟩
    · obtain ⟨h1, q1, x2, rfl⟩ := p
      obtain ⟨i, rfl⟩ : ∃ i : Bool, x = .str (nm i) := by
        match j, hx with
        | 0, hx => cases hx; exact ⟨false, rfl⟩
        | 1, hx => cases hx; exact ⟨true, rfl⟩
        | n + 2, hx => simp at hx
      obtain ⟨da, hda⟩ := h1.here.disk
      obtain ⟨db, hdb⟩ := h1.twin.disk
      obtain ⟨fa, hfa⟩ := h1.here.fileAt i
      obtain ⟨fb, hfb⟩ := h1.twin.fileAt i
      refine ⟨_, rfl, _, rfl, L.A.d, da, _, rfl, hda, L.A.d, L.A.bk, L.A.dic, ru, nm i, sh, true, af, kvA L.A, _, rfl, h1.here.disk, h1.here.dic, valA L.A i, L.A.f i, _, fa, _, _, rfl, hfa, F.c_File, F.n_File_size, rfl, ?_⟩
      refine ⟨_, rfl, _, rfl, L.A.d, da, _, rfl, hda, L.A.d, L.A.bk, L.A.dic, ru, nm i, sh, true, af, kvA L.A, _, rfl, h1.here.disk, h1.here.dic, valA L.A i, L.A.f i, _, fa, _, _, rfl, hfa, F.c_File, F.n_File_hold, rfl, by show 2 ≤ sizeLine; decide, fun l1 n1 => ?_⟩
      have h2 := h1.same (same_upd (o := .lst [.int (gs i).size, .int (gs i).hold]) n1)
      have hdb2 := (same_upd (o := .lst [.int (gs i).size, .int (gs i).hold]) n1) _ _ hdb
      have hfb2 := (same_upd (o := .lst [.int (gs i).size, .int (gs i).hold]) n1) _ _ hfb
      refine ⟨_, rfl, _, rfl, L.B.d, db, _, rfl, hdb2, L.B.d, L.B.bk, L.B.dic, ru, nm i, sh, false, af, kvA L.B, _, rfl, h2.twin.disk, h2.twin.dic, valA L.B i, L.B.f i, _, fb, _, _, rfl, hfb2, F.c_File, F.n_File_size, rfl, ?_⟩
      refine ⟨_, rfl, _, rfl, L.B.d, db, _, rfl, hdb2, L.B.d, L.B.bk, L.B.dic, ru, nm i, sh, false, af, kvA L.B, _, rfl, h2.twin.disk, h2.twin.dic, valA L.B i, L.B.f i, _, fb, _, _, rfl, hfb2, F.c_File, F.n_File_hold, rfl, by show 2 ≤ sizeLine; decide, fun l2 n2 => ?_⟩
      have s3 : Same H1 (upd (upd H1 l1 (.lst [.int (gs i).size, .int (gs i).hold])) l2 (.lst [.int (gs i).size, .int (gs i).hold])) := same_trans (same_upd n1) (same_upd n2)
      have z1 : upd (upd H1 l1 (.lst [.int (gs i).size, .int (gs i).hold])) l2 (.lst [.int (gs i).size, .int (gs i).hold]) l1 = some (.lst [.int (gs i).size, .int (gs i).hold]) := (same_upd n2) _ _ upd_same
      have z2 : upd (upd H1 l1 (.lst [.int (gs i).size, .int (gs i).hold])) l2 (.lst [.int (gs i).size, .int (gs i).hold]) l2 = some (.lst [.int (gs i).size, .int (gs i).hold]) := upd_same
      have h3 := h1.same s3
      have hda3 := s3 _ _ hda
      have hdb3 := s3 _ _ hdb
      have hfa3 := s3 _ _ hfa
      have hfb3 := s3 _ _ hfb
      have q3 := s3 _ _ q1
      obtain ⟨ok1, ok2⟩ := dInts_ok (gs i).size (gs i).hold
      refine ⟨.list [.int (gs i).size, .int (gs i).hold], .list [.int (gs i).size, .int (gs i).hold], .lst (SqL.of z1) (.cons (.int _) (.cons (.int _) .nil)), .lst (SqL.of z2) (.cons (.int _) (.cons (.int _) .nil)), ok1, ok1, _, rfl, ifF (by rw [ok2]; rfl) ?_⟩
      refine ⟨_, rfl, _, rfl, L.A.d, da, _, rfl, hda3, L.A.d, L.A.bk, L.A.dic, ru, nm i, sh, true, af, kvA L.A, _, rfl, h3.here.disk, h3.here.dic, valA L.A i, L.A.f i, fa, _, rfl, hfa3, rfl, L.A.d, L.A.f i, L.A.l i, i, late gs wt i, rfl, h3.here.file i, fun H4 p1 b4 => ?_⟩
      have h4 := h3.same b4.same
      have hdb4 := b4.same _ _ hdb3
      have hfb4 := b4.same _ _ hfb3
      refine ⟨_, rfl, _, rfl, L.B.d, db, _, rfl, hdb4, L.B.d, L.B.bk, L.B.dic, ru, nm i, sh, false, af, kvA L.B, _, rfl, h4.twin.disk, h4.twin.dic, valA L.B i, L.B.f i, fb, _, rfl, hfb4, rfl, L.B.d, L.B.f i, L.B.l i, i, gs i, rfl, h4.twin.file i, fun H5 p2 b5 => ?_⟩
      have h5 := h4.same b5.same
      have hdb5 := b5.same _ _ hdb4
      have hfb5 := b5.same _ _ hfb4
      obtain ⟨ok3, ok4⟩ := dPairs_ok (gs i).runs
      refine ⟨dPairs (gs i).runs, dPairs (gs i).runs, dp_pairs (b4.at_.same b5.same), dp_pairs b5.at_, ok3, ok3, _, rfl, ifF (by rw [ok4]; rfl) ?_⟩
      refine ⟨_, rfl, _, rfl, L.B.d, db, _, rfl, hdb5, L.B.d, L.B.bk, L.B.dic, ru, nm i, sh, false, af, kvA L.B, _, rfl, h5.twin.disk, h5.twin.dic, valA L.B i, L.B.f i, _, fb, _, _, rfl, hfb5, F.c_File, F.n_File_waiting, rfl, rfl, _, rfl, ifF (by rw [g0 i]; decide +kernel) ?_⟩
      obtain ⟨e1, e2, e3⟩ := twin_same (P := parOf ru b) (af := af) (hB.f i) (g0 i)
      refine ⟨_, rfl, L.B.d, db, _, rfl, hdb5, rfl, _, rfl, L.B, ru, sh, false, i, b, af, B, n, gs, rfl, h5.twin, hru, hb, hB, by rw [g0 i]; decide, by rw [g0 i]; decide, op i, h5.tabs, fun H6 f6 d6 => ?_⟩
      rw [e1, e2] at d6
      rw [e3]
      have q5 := b5.same _ _ (b4.same _ _ q3)
      refine ⟨rfl, _, rfl, ifF (by decide +kernel) ⟨h5.goTwin f6 d6, f6.keep _ _ q5 (fun z => ?_) (by intro _ z; cases z), _, rfl⟩⟩
      rcases mem3 z with z | z | z
      · exact ne_of q5 hdb5 (by intro z; cases z) z
      · exact ne_of q5 hfb5 (by intro z; cases z) z
      · exact nq i z
    · obtain ⟨h1, q1, x2, rfl⟩ := p
      obtain ⟨da, hda⟩ := h1.here.disk
      obtain ⟨db, hdb⟩ := h1.twin.disk
      refine ⟨_, rfl, L.A.d, da, _, rfl, hda, rfl, L.A.d, L.A.bk, L.A.dic, ru, sh, true, af, kvA L.A, rfl, h1.here.disk, h1.here.dic, fun l1 n1 => ?_⟩
      have h2 : LawAt K (upd H1 l1 (.lst [.str "a", .str "b"])) L xs ru sh b af af (late gs wt) gs wt tm := h1.same (same_upd n1)
      have hdb2 := (same_upd (o := .lst [.str "a", .str "b"]) n1) _ _ hdb
      refine ⟨_, rfl, L.B.d, db, _, rfl, hdb2, rfl, L.B.d, L.B.bk, L.B.dic, ru, sh, false, af, kvA L.B, rfl, h2.twin.disk, h2.twin.dic, fun l2 n2 => ?_⟩
      have s3 : Same H1 (upd (upd H1 l1 (.lst [.str "a", .str "b"])) l2 (.lst [.str "a", .str "b"])) := same_trans (same_upd n1) (same_upd n2)
      have h3 := h1.same s3
      have hda3 := s3 _ _ hda
      have hdb3 := s3 _ _ hdb
      have z1 : upd (upd H1 l1 (.lst [.str "a", .str "b"])) l2 (.lst [.str "a", .str "b"]) l1 = some (.lst [.str "a", .str "b"]) := (same_upd n2) _ _ upd_same
      have z2 : upd (upd H1 l1 (.lst [.str "a", .str "b"])) l2 (.lst [.str "a", .str "b"]) l2 = some (.lst [.str "a", .str "b"]) := upd_same
      refine ⟨.list [.str "a", .str "b"], .list [.str "a", .str "b"], .lst (SqL.of z1) (.cons (.str _) (.cons (.str _) .nil)), .lst (SqL.of z2) (.cons (.str _) (.cons (.str _) .nil)), by decide +kernel, by decide +kernel, _, rfl, ifT (by decide +kernel) ?_⟩
      refine ⟨_, rfl, L.A.d, _, da, _, _, rfl, hda3, F.c_Disk, F.n_Disk_after, rfl, _, rfl, L.B.d, _, db, _, _, rfl, hdb3, F.c_Disk, F.n_Disk_after, rfl, rfl, ?_⟩
      have e : decide (V.int af = V.int af) = true := decide_eq_true rfl
      rw [e]
      exact k _ h3
end
end K36
/-! ## KD20 -/
namespace K36
open PySem PySem.Spec PyProof.Rows L2
theorem get_at {H : Hp} {a : Addr} {w : Bool → Int} (h : H a = some (.dK (kvI w))) (i : Bool) : DGet H a (.str (nm i)) (some (.int (w i))) := by
  have g := DGet.k (k := Sum.inr (nm i)) h
  rw [valI] at g
  exact g
theorem name_at {r : Int} (h0 : 0 ≤ r) (h1 : r < 2) : ∃ i : Bool, atI [V.str "a", .str "b"] r = some (.str (nm i)) := by
  obtain ⟨n, rfl⟩ := Int.eq_ofNat_of_zero_le h0
  match n, h1 with
  | 0, _ => exact ⟨false, atI_nat (j := 0) rfl⟩
  | 1, _ => exact ⟨true, atI_nat (j := 1) rfl⟩
  | n + 2, h => omega
section
variable {P : Program} {w : World} {K : PySem.W.Frag} {mg : Str → Option Value} {base : Heap}
/-! ### _law_growths -/
def sp_growths (K : PySem.W.Frag) : Sp := fun vs H Q _ => ∃ (L : LA) (xs : List V) (ru : Str) (sh : Bool) (b : BookP) (af tn : Int) (t : Nat) (gs : Bool → FS) (wt tm : Bool → Int), vs = [.ref L.p, .ref L.A.d, .ref L.B.d, .ref L.wa, .ref L.ti, .int tn] ∧
  LawAt K H L xs ru sh b af af (late gs wt) gs wt tm ∧ RuleOk ru ∧ BookOk b ∧ Num t gs wt tm af ∧ t ≤ 29 ∧
  ∀ H' af' gs' wt' tm', LawAt K H' L xs ru sh b af' af' (late gs' wt') gs' wt' tm' → Num (t + 1) gs' wt' tm' af' → Q (.bl true) H'
theorem sc_growths : FnScope ["_law_pool", "_law_disk_here", "_law_twin", "_law_waiting", "_law_times", "_law_turn", "_law_name", "_law_many", "_law_way", "_law_given", "_law_due"] ["_law_pool", "_law_disk_here", "_law_twin", "_law_waiting", "_law_times", "_law_turn"] (defScope S_law_growths) := ⟨rfl, rfl, rfl, by decide +kernel, rfl, by decide +kernel, by decide +kernel⟩
theorem ok_growths (F : Fx K mg) (TB : LamX.TabB base mg (cJ K) (tJ K)) : OkD P w K mg base 12 (He.ga K "_law_growths") ["_law_pool", "_law_disk_here", "_law_twin", "_law_waiting", "_law_times", "_law_turn"] (sp_growths K) := by
  refine okd F.f_law_growths sc_growths (fun _ _ _ _ _ _ us hl => match us, hl with | [_, _, _, _, _, _], _ => rfl) (fun vs H Q E h => ?_) (fun cdv A₀ outer s H vs Q E hr h => ?_)
  · obtain ⟨L, xs, ru, sh, b, af, tn, t, gs, wt, tm, rfl, _⟩ := h
    rfl
  · obtain ⟨L, xs, ru, sh, b, af, tn, t, gs, wt, tm, rfl, hL, hru, hb, hN, ht, k⟩ := h
    have hr1 := hr.mono (j := 2) (by decide)
    have hB := hN.bnd (by omega)
    refine ⟨_, pss_cons (ps_par (i := 6) (j := 7) rfl sc_growths.nd rfl rfl (by decide) rfl rfl (pa_cons (pe_ix ix_list (pe_lst (pa_cons pe_str (pa_cons pe_str pa_nil))) (pe_cl (ok_draw F) (hr.mono (by decide)) (by rfl) F.g_law_draw F.p_law_draw (pa_cons (pv 0) (pa_cons pe_int pa_nil))) (fun _ _ => rfl))
        (pa_cons (pe_cl (ok_draw F) (hr.mono (by decide)) (by rfl) F.g_law_draw F.p_law_draw (pa_cons (pv 0) (pa_cons pe_int pa_nil))) pa_nil)) (by rfl))
      (pss_cons (ps_set (i := 8) sc_growths.nd rfl (Or.inl rfl) (pe_cl (ok_draw F) (hr.mono (by decide)) (by rfl) F.g_law_draw F.p_law_draw (pa_cons (pv 0) (pa_cons pe_int pa_nil))))
      (pss_cons (ps_if (pt_cmpR op_gt (pv 8) pe_int (nomark _))
          (pss_cons (ps_set (i := 9) sc_growths.nd rfl (Or.inl rfl) (pe_ifExp (pt_cmpR op_lt (pv 8) pe_int (nomark _)) (pe_me (pv 1) F.c_Disk F.m_Disk_grow (ok_grow F TB) (hr.mono (by decide)) (pa_cons (pv 6) (pa_cons (pv 7) pa_nil))) (pe_me (pv 1) F.c_Disk F.m_Disk_ones (ok_ones F) (hr.mono (by decide)) (pa_cons (pv 6) (pa_cons (pv 7) pa_nil)))))
          (pss_cons (ps_dput (hu_of hr) (pv 3) (pv 6) (pe_op op_add (pe_dget (hu_of hr) (pv 3) (pv 6) (fun _ _ => rfl)) (pv 7)) rfl)
          (pss_one (ps_ret (pe_and (pe_cmpR op_eq (pv 9) pe_int (nomark _)) (pe_one (pe_cmpR op_eq (pe_fld (pe_oIx (pv 1) (pv 6) F.m_Disk_getitem F.x_item (ok_getitem F) hr1) rfl) (pe_dget (hu_of hr) (pv 3) (pv 6) (fun _ _ => rfl)) (nomark _)))))))) pss_nil)
      (pss_cons (ps_set (i := 10) sc_growths.nd rfl (Or.inl rfl) (pe_me (pv 2) F.c_Disk F.m_Disk_grow (ok_grow F TB) (hr.mono (by decide)) (pa_cons (pv 6) (pa_cons (pe_dget (hu_of hr) (pv 3) (pv 6) (fun _ _ => rfl)) pa_nil))))
      (pss_cons (ps_dput (hu_of hr) (pv 4) (pv 6) (pe_op op_add (pe_dget (hu_of hr) (pv 4) (pv 6) (fun _ _ => rfl)) (pe_callTy call_int1 (by rfl) F.b_int (by decide +kernel) (pa_cons (pe_cmpR op_gt (pe_dget (hu_of hr) (pv 3) (pv 6) (fun _ _ => rfl)) pe_int (nomark _)) pa_nil))) rfl)
      (pss_cons (ps_dput (hu_of hr) (pv 3) (pv 6) pe_int rfl)
      (pss_cons (ps_if (pt_cmpR op_eq (pv 8) pe_int (nomark _)) (pss_one (ps_ret (pe_and (pe_cmpR op_eq (pe_me (pv 1) F.c_Disk F.m_Disk_flush (ok_flush F TB) (hr.mono (by decide)) (pa_cons (pv 6) pa_nil)) (pv 10) (nomark _))
          (pe_one (pe_cmpR op_eq (pe_fld (pe_oIx (pv 1) (pv 6) F.m_Disk_getitem F.x_item (ok_getitem F) hr1) rfl) pe_int (nomark _)))))) pss_nil)
      (pss_cons (ps_if (pw_or (pt_cmpR op_ne (pe_me (pv 1) F.c_Disk F.m_Disk_close (ok_close F TB) hr (pa_cons (pv 6) pa_nil)) pe_int (nomark _)) (pw_or (pt_cmpR op_ne (pe_fld (pe_oIx (pv 1) (pv 6) F.m_Disk_getitem F.x_item (ok_getitem F) hr1) rfl) pe_int (nomark _))
          (pw_or1 (pt_val (pe_fld (pe_oIx (pv 1) (pv 6) F.m_Disk_getitem F.x_item (ok_getitem F) hr1) rfl))))).pt (pss_one (ps_ret pe_bl)) pss_nil)
      (pss_one (ps_ret (pe_cmp (pc_isN (pe_me (pv 1) F.c_Disk F.m_Disk_reopen (ok_reopen F) (hr.mono (by decide)) (pa_cons (pv 6) pa_nil))) rfl)))))))))), ?_⟩
    refine ⟨by show 2 ≤ sizeLine; decide, fun l nl => ?_⟩
    have hL1 : LawAt K (upd H l (.lst [.str "a", .str "b"])) L xs ru sh b af af (late gs wt) gs wt tm := hL.same (same_upd nl)
    have nlp := hL.pool.ne nl
    refine ⟨_, rfl, L.p, 2, rfl, hL1.pool, by decide, by decide, fun H2 r2 d2 r20 r21 => ?_⟩
    have hL2 := hL1.draw d2
    obtain ⟨i, hi⟩ := name_at r20 r21
    refine ⟨l, _, r2, _, rfl, rfl, SqL.of ((d2.keep l nlp).trans upd_same), hi, ?_⟩
    refine ⟨_, rfl, L.p, 6, rfl, hL2.pool, by decide, by decide, fun H3 m d3 m0 m1 => ⟨_, _, rfl, ?_⟩⟩
    have hL3 := hL2.draw d3
    refine ⟨_, rfl, L.p, 5, rfl, hL3.pool, by decide, by decide, fun H4 wy d4 y0 y1 => ?_⟩
    have hL4 := hL3.draw d4
    obtain ⟨da, hda⟩ := hL4.here.disk
    obtain ⟨db, hdb⟩ := hL4.twin.disk
    refine ⟨_, rfl, _, _, rfl, rfl, _, rfl, ifC (fun c => ?_) fun c => ?_⟩
    · -- the late disk grows
      have hN' := hN.wait i m0 (by omega)
      apply branch (M := fun σ' H' => σ' = [some (.ref L.p), some (.ref L.A.d), some (.ref L.B.d), some (.ref L.wa), some (.ref L.ti), some (.int tn), some (.str (nm i)), some (.int m), some (.int wy), some (.int 0), none] ∧ LawAt K H' L xs ru sh b af af (late gs (setI wt i (wt i + m))) gs wt tm)
      · intro nx
        have fin : ∀ H', Frm (TT K) (L.A.Wi i) H4 H' → DiskAt K H' L.A ru sh b true af (setF (late gs wt) i { late gs wt i with wait := (late gs wt i).wait + m }) → LawAt K H' L xs ru sh b af af (late gs (setI wt i (wt i + m))) gs wt tm := fun H' fr d => by
          have e := late_wait gs wt i (wt i + m)
          have d' : DiskAt K H' L.A ru sh b true af (setF (late gs wt) i { late gs wt i with wait := wt i + m }) := d
          rw [e] at d'
          exact hL4.goHere fr d'
        refine ⟨_, rfl, _, _, rfl, rfl, _, rfl, ifC (fun c2 => ?_) fun c2 => ?_⟩
        · refine ⟨_, rfl, L.A.d, da, _, rfl, hda, rfl, _, rfl, _, rfl, L.A, ru, sh, true, i, b, af, m, 250 * t, 31, late gs wt, rfl, hL4.here, hru, hb, hB.late wt, m0, by omega, hN.op i, hL4.tabs, fun _ H' fr d => ?_, fun z => by cases z⟩
          exact nx _ _ ⟨rfl, fin H' fr d⟩
        · refine ⟨_, rfl, L.A.d, da, _, rfl, hda, rfl, _, rfl, _, rfl, L.A, ru, sh, i, b, af, m, late gs wt, rfl, hL4.here, m0, by omega, hN.op i, hL4.tabs, fun H' fr d => ?_⟩
          exact nx _ _ ⟨rfl, fin H' fr d⟩
      · rintro σ' H5 ⟨rfl, h5⟩
        refine ⟨_, rfl, _, rfl, L.wa, _, rfl, get_at h5.wa i, _, rfl, _, _, rfl, rfl, _, rfl, _, rfl, L.wa, _, rfl, DPut.k (k := Sum.inr (nm i)) h5.wa (by show 2 < sizeLine; decide), ?_⟩
        have h6 := h5.putW i (wt i + m)
        obtain ⟨dc, hdc⟩ := h6.here.disk
        obtain ⟨fc, hfc⟩ := h6.here.fileAt i
        refine ⟨_, rfl, rfl, _, rfl, ifT (by decide +kernel) ?_⟩
        refine ⟨_, rfl, _, rfl, L.A.d, dc, _, rfl, hdc, L.A.d, L.A.bk, L.A.dic, ru, nm i, sh, true, af, kvA L.A, _, rfl, h6.here.disk, h6.here.dic, valA L.A i, L.A.f i, _, fc, _, _, rfl, hfc, F.c_File, F.n_File_waiting, rfl, ?_⟩
        refine ⟨_, rfl, _, rfl, L.wa, _, rfl, get_at h6.wa i, rfl, ?_⟩
        have e : decide (V.int (late gs (setI wt i (wt i + m)) i).wait = V.int (setI wt i (wt i + m) i)) = true := decide_eq_true rfl
        rw [e]
        exact k _ af gs _ tm h6 hN'
    · -- the twin is given what waited
      have hN' := hN.give (P := parOf ru b) hb (by omega) i
      obtain ⟨e1, e2, e3⟩ := late_give (P := parOf ru b) gs wt i af hN.g0 hN.op
      refine ⟨_, rfl, L.B.d, db, _, rfl, hdb, rfl, _, rfl, _, rfl, _, rfl, L.wa, _, rfl, get_at hL4.wa i, L.B, ru, sh, false, i, b, af, wt i, 250 * t, 31, gs, rfl, hL4.twin, hru, hb, hB, hN.w0 i, by have := hN.w5 i; omega, hN.op i, hL4.tabs, (fun z => Bool.noConfusion z), fun _ H5 f5 d5 => ?_⟩
      have h5 := hL4.goTwin f5 d5
      refine ⟨_, rfl, _, rfl, L.ti, _, rfl, get_at h5.ti i, _, rfl, _, rfl, L.wa, _, rfl, get_at h5.wa i, _, _, rfl, rfl, .inr ⟨_, rfl, _, _, rfl, rfl, _, rfl, _, rfl, L.ti, _, rfl, DPut.k (k := Sum.inr (nm i)) h5.ti (by show 2 < sizeLine; decide), ?_⟩⟩
      have h6 := h5.putT i (tm i + if decide (0 < wt i) = true then 1 else 0)
      have e6 : (tm i + if decide (0 < wt i) = true then 1 else 0) = tm i + if 0 < wt i then 1 else 0 := by
        by_cases q : 0 < wt i
        · rw [if_pos q, if_pos (decide_eq_true q)]
        · rw [if_neg q, if_neg (by rw [decide_eq_false q]; decide)]
      rw [← e6] at hN'
      refine ⟨_, rfl, _, rfl, L.wa, _, rfl, DPut.k (k := Sum.inr (nm i)) h6.wa (by show 2 < sizeLine; decide), ?_⟩
      have h7 := h6.putW i 0
      obtain ⟨dc, hdc⟩ := h7.here.disk
      refine ⟨_, rfl, rfl, _, rfl, ifC (fun c2 => ?_) fun c2 => ?_⟩
      · refine ⟨_, rfl, L.A.d, dc, _, rfl, hdc, rfl, _, rfl, L.A, ru, sh, true, i, b, af, 250 * t, 31, late gs wt, rfl, h7.here, hru, hb, hB.late wt, hN.w0 i, by have := hN.w5 i; show wt i ≤ _; omega, hN.op i, h7.tabs, fun H8 f8 d8 => ?_⟩
        have d8' : DiskAt K H8 L.A ru sh b true (wA (parOf ru b) (allR (late gs wt)) (late gs wt i) (wt i) af) (setF (late gs wt) i { wF (parOf ru b) (allR (late gs wt)) (late gs wt i) (wt i) af with wait := 0 }) := d8
        rw [e1, e2] at d8'
        have h8 := h7.goHere f8 d8'
        obtain ⟨dd, hdd⟩ := h8.here.disk
        obtain ⟨fd, hfd⟩ := h8.here.fileAt i
        have e9 : decide (V.int (wG (parOf ru b) (late gs wt i) (late gs wt i).wait) = V.int (wG (parOf ru b) (gs i) (wt i))) = true := by
          rw [show wG (parOf ru b) (late gs wt i) (late gs wt i).wait = wG (parOf ru b) (gs i) (wt i) from e3]
          exact decide_eq_true rfl
        refine ⟨_, rfl, rfl, _, rfl, ifT e9 ?_⟩
        refine ⟨_, rfl, _, rfl, L.A.d, dd, _, rfl, hdd, L.A.d, L.A.bk, L.A.dic, ru, nm i, sh, true, _, kvA L.A, _, rfl, h8.here.disk, h8.here.dic, valA L.A i, L.A.f i, _, fd, _, _, rfl, hfd, F.c_File, F.n_File_waiting, rfl, rfl, ?_⟩
        have e10 : decide (V.int (late (setF gs i (wF (parOf ru b) (allR gs) (gs i) (wt i) af)) (setI wt i 0) i).wait = V.int 0) = true := by
          rw [show (late (setF gs i (wF (parOf ru b) (allR gs) (gs i) (wt i) af)) (setI wt i 0) i).wait = 0 from setI_at wt i 0]
          exact decide_eq_true rfl
        rw [e10]
        exact k _ _ _ _ _ h8 hN'
      · refine ⟨_, rfl, L.A.d, dc, _, rfl, hdc, rfl, _, rfl, L.A, ru, sh, true, i, b, af, 250 * t, 31, late gs wt, rfl, h7.here, hru, hb, hB.late wt, hN.w0 i, by have := hN.w5 i; show wt i ≤ _; omega, hN.op i, h7.tabs, fun H8 f8 d8 => ?_⟩
        have d8' : DiskAt K H8 L.A ru sh b true (wA (parOf ru b) (allR (late gs wt)) (late gs wt i) (wt i) af) (setF (late gs wt) i { wF (parOf ru b) (allR (late gs wt)) (late gs wt i) (wt i) af with wait := 0, op := false }) := d8
        obtain ⟨dd, hdd⟩ := d8'.disk
        obtain ⟨fd, hfd⟩ := d8'.fileAt i
        rw [setF_at] at hfd
        refine ⟨rfl, _, rfl, ifF (by decide +kernel) ?_⟩
        refine ⟨_, rfl, _, rfl, L.A.d, dd, _, rfl, hdd, L.A.d, L.A.bk, L.A.dic, ru, nm i, sh, true, _, kvA L.A, _, rfl, d8'.disk, d8'.dic, valA L.A i, L.A.f i, _, fd, _, _, rfl, hfd, F.c_File, F.n_File_waiting, rfl, rfl, _, rfl, ifF (by show (!decide (V.int 0 = V.int 0)) = false; decide +kernel) ?_⟩
        refine ⟨_, rfl, _, rfl, L.A.d, dd, _, rfl, hdd, L.A.d, L.A.bk, L.A.dic, ru, nm i, sh, true, _, kvA L.A, _, rfl, d8'.disk, d8'.dic, valA L.A i, L.A.f i, _, fd, _, _, rfl, hfd, F.c_File, F.n_File_is_open, rfl, _, rfl, ifF rfl ?_⟩
        refine ⟨_, rfl, L.A.d, dd, _, rfl, hdd, rfl, _, rfl, L.A, ru, sh, true, i, b, _, _, rfl, d8', by rw [setF_at], f8.tabs, fun H9 f9 d9 => ?_⟩
        rw [setF_setF, setF_at] at d9
        have o8 : (wF (parOf ru b) (allR (late gs wt)) (late gs wt i) (wt i) af).op = true := (wF_op _ _ _ _ _).trans (hN.op i)
        have d9' : DiskAt K H9 L.A ru sh b true (wA (parOf ru b) (allR (late gs wt)) (late gs wt i) (wt i) af) (setF (late gs wt) i { wF (parOf ru b) (allR (late gs wt)) (late gs wt i) (wt i) af with wait := 0 }) := by
          have e : ({ wF (parOf ru b) (allR (late gs wt)) (late gs wt i) (wt i) af with wait := 0 } : FS) = { wF (parOf ru b) (allR (late gs wt)) (late gs wt i) (wt i) af with wait := 0, op := true } := by rw [← o8]
          rw [e]
          exact d9
        rw [e1, e2] at d9'
        exact k _ _ _ _ _ (h7.goHere (f8.trans f9) d9') hN'
end
end K36
/-! ## KD21 -/
namespace K36
open PySem PySem.Spec PyProof.Rows L2
/-! ### the law's setting up -/
theorem ScrAt.imp {K : PySem.W.Frag} {H : Hp} {sc : Addr} {xs : List V} {no no' : Addr → Prop} (h : ScrAt K H sc xs no) (f : no sc → no' sc) : ScrAt K H sc xs no' := by
  rcases h with h | ⟨u, e, a, b, c, d, n⟩
  · exact .inl h
  · exact .inr ⟨u, e, a, b, c, d, f n⟩
/-- not where nothing stood -/
theorem ScrAt.add {K : PySem.W.Frag} {H : Hp} {sc l : Addr} {xs : List V} {no : Addr → Prop} (h : ScrAt K H sc xs no) (n : H l = none) : ScrAt K H sc xs (fun c => no c ∧ c ≠ l) := by
  rcases h with h | ⟨u, e, a, b, c, d, q⟩
  · exact .inl h
  · exact .inr ⟨u, e, a, b, c, d, q, ne_of_none e n⟩
theorem ScrAt.of {K : PySem.W.Frag} {H : Hp} {sc : Addr} {xs : List V} (h : SqL K H sc xs) : ScrAt K H sc xs (fun _ => True) := by
  rcases h with (h | ⟨o, h⟩) | h
  · exact .inr ⟨_, h, fun H' e => .inl (.inl e), (by intro _ _ _ z; cases z), (by intro _ z; cases z), (by intro _ z; cases z), trivial⟩
  · exact .inr ⟨_, h, fun H' e => .inl (.inr ⟨o, e⟩), (by intro _ _ _ z; cases z), (by intro _ z; cases z), (by intro _ z; cases z), trivial⟩
  · exact .inl fun H' => .inr h
section
variable {K : PySem.W.Frag} {H H' : Hp} {p wd t sb sc d1 b1 k1 d2 b2 k2 : Addr} {xs : List V} {ru : Str} {sh : Bool} {b : BookP} {kvs kvs' e1 e2 e' : List (Key × V)} {no no' : Addr → Prop}
theorem Drew.frm {T : List (Addr × Str)} (d : Drew p H H') (h : PoolAt H p) (t : LamX.Tabs T H) : Frm T [p] H H' := by
  obtain ⟨x, y, e, _⟩ := h
  exact ⟨fun c o q n _ => d.keep c o (fun z => n (List.mem_singleton.mpr z)) q, tabs_ne (W := [p]) t (fun a ha => by rw [in1 ha]; exact ⟨_, e, flat_lst _⟩) fun c o q n => d.keep c o (fun z => n (List.mem_singleton.mpr z)) q⟩
/-- ahead of the disks -/
structure S1 (K : PySem.W.Frag) (H : Hp) (p wd t sb sc : Addr) (xs : List V) (b : BookP) (kvs : List (Key × V)) : Prop where
  pool : PoolAt H p
  w : H wd = some (.dK kvs)
  t : H t = some (.tup [.int b.first, .int b.roof, .ref sb])
  s : H sb = some (.tup [.int b.top, .int b.bottom])
  scr : ScrAt K H sc xs (fun c => c ≠ p)
  tabs : LamX.Tabs (TT K) H
theorem S1.same (h : S1 K H p wd t sb sc xs b kvs) (s : Same H H') : S1 K H' p wd t sb sc xs b kvs := ⟨h.pool.same s, s _ _ h.w, s _ _ h.t, s _ _ h.s, h.scr.frm (Frm.same (W := []) h.tabs s) (by simp), h.tabs.ext s⟩
theorem S1.put (h : S1 K H p wd t sb sc xs b kvs) : Frm (TT K) [wd] H (upd H wd (.dK kvs')) ∧ S1 K (upd H wd (.dK kvs')) p wd t sb sc xs b kvs' := by
  have fr : Frm (TT K) [wd] H (upd H wd (.dK kvs')) := (Frm.refl h.tabs).upd (.inr ⟨.inl List.mem_cons_self, _, h.w, flat_dK _⟩)
  obtain ⟨x, y, e, _⟩ := h.pool
  exact ⟨fr, h.pool.frm fr fun z => ne_of e h.w (by intro z; cases z) (in1 z), upd_same, fr.keep _ _ h.t (fun z => ne_of h.t h.w (by intro z; cases z) (in1 z)) (by intro _ z; cases z), fr.keep _ _ h.s (fun z => ne_of h.s h.w (by intro z; cases z) (in1 z)) (by intro _ z; cases z),
    h.scr.frm fr fun a ha => .inl (by rw [in1 ha]; exact ⟨_, h.w, .inr ⟨_, rfl⟩⟩), fr.tabs⟩
theorem len_there {k : Key} {v o : V} (h : valV kvs k = some o) : (putK kvs k v).length = kvs.length := by
  unfold putK
  rw [if_pos (by rw [valV_any, h]; rfl), List.length_map]
theorem WorldV.put3 {sz : V} {bk lt : Bool} (h : WorldV kvs t ru sz sh bk lt) : WorldV (putK (putK (putK kvs (.inr "size") .non) (.inr "back") (.bl false)) (.inr "late") (.bl true)) t ru .non sh false true ∧ (putK (putK kvs (.inr "size") .non) (.inr "back") (.bl false)).length < sizeLine ∧ (putK kvs (.inr "size") .non).length < sizeLine := by
  have e := h.len
  have n1 := len_put e (.inr "size") V.non
  have n2 := len_put n1 (.inr "back") (V.bl false)
  have z : sizeLine = 16777216 := rfl
  refine ⟨⟨?_, ?_, ?_, ?_, ?_, ?_, ?_⟩, by omega, by omega⟩
  · rw [val_ne (by decide +kernel), val_ne (by decide +kernel), val_ne (by decide +kernel)]; exact h.book
  · rw [val_ne (by decide +kernel), val_ne (by decide +kernel), val_ne (by decide +kernel)]; exact h.rule
  · rw [val_ne (by decide +kernel), val_ne (by decide +kernel), val_eq]
  · rw [val_ne (by decide +kernel), val_ne (by decide +kernel), val_ne (by decide +kernel)]; exact h.short
  · rw [val_ne (by decide +kernel), val_eq]
  · rw [val_eq]
  · -- the three keys stand already
    have l1 := len_there (v := V.non) h.size
    have l2 := len_there (kvs := putK kvs (.inr "size") .non) (k := .inr "back") (v := V.bl false) (o := .bl bk) (by rw [val_ne (by decide +kernel)]; exact h.back)
    have l3 := len_there (kvs := putK (putK kvs (.inr "size") .non) (.inr "back") (.bl false)) (k := .inr "late") (v := V.bl true) (o := .bl lt) (by rw [val_ne (by decide +kernel), val_ne (by decide +kernel)]; exact h.late)
    omega
theorem WorldV.putL {sz : V} {bk lt v : Bool} (h : WorldV kvs t ru sz sh bk lt) : WorldV (putK kvs (.inr "late") (.bl v)) t ru sz sh bk v := by
  refine ⟨?_, ?_, ?_, ?_, ?_, ?_, ?_⟩
  · rw [val_ne (by decide +kernel)]; exact h.book
  · rw [val_ne (by decide +kernel)]; exact h.rule
  · rw [val_ne (by decide +kernel)]; exact h.size
  · rw [val_ne (by decide +kernel)]; exact h.short
  · rw [val_ne (by decide +kernel)]; exact h.back
  · rw [val_eq]
  · have l1 := len_there (v := V.bl v) h.late
    rw [l1]
    exact h.len
/-- two disks without files, or amid their making -/
structure SU (K : PySem.W.Frag) (H : Hp) (p sc : Addr) (xs : List V) (ru : Str) (sh : Bool) (b : BookP) (d1 b1 k1 d2 b2 k2 : Addr) (e1 e2 : List (Key × V)) (no : Addr → Prop) : Prop where
  pool : PoolAt H p
  i1 : DiskI K H d1 b1 k1 ru sh true 0
  g1 : BookAt K H b1 b
  c1 : H k1 = some (.dK e1)
  i2 : DiskI K H d2 b2 k2 ru sh false 0
  g2 : BookAt K H b2 b
  c2 : H k2 = some (.dK e2)
  nd : d1 ≠ d2
  nk : k1 ≠ k2
  scr : ScrAt K H sc xs no
  tabs : LamX.Tabs (TT K) H
theorem book_dict {bk k : Addr} (h : BookAt K H bk b) (fr : Frm (TT K) [k] H H') (hk : H k = some (.dK kvs)) : BookAt K H' bk b := h.frm fr fun a ha => by rw [in1 ha]; exact ⟨_, hk, (by intro _ z; cases z), (by intro _ _ _ z; cases z)⟩
theorem disk_dict {d bk dic k : Addr} {lt : Bool} {af : Int} (h : DiskI K H d bk dic ru sh lt af) (fr : Frm (TT K) [k] H H') (hk : H k = some (.dK kvs)) : DiskI K H' d bk dic ru sh lt af := by
  obtain ⟨dx, e⟩ := h
  exact ⟨dx, fr.keep _ _ e (fun z => ne_of e hk (by intro z; cases z) (in1 z)) (by intro _ z; cases z)⟩
theorem pool_dict {k : Addr} (h : PoolAt H p) (fr : Frm (TT K) [k] H H') (hk : H k = some (.dK kvs)) : PoolAt H' p := by
  obtain ⟨x, y, e, _⟩ := id h
  exact h.frm fr fun z => ne_of e hk (by intro z; cases z) (in1 z)
theorem scr_dict {k : Addr} (h : ScrAt K H sc xs no) (fr : Frm (TT K) [k] H H') (hk : H k = some (.dK kvs)) : ScrAt K H' sc xs no := h.frm fr fun a ha => .inl (by rw [in1 ha]; exact ⟨_, hk, .inr ⟨_, rfl⟩⟩)
theorem SU.same (h : SU K H p sc xs ru sh b d1 b1 k1 d2 b2 k2 e1 e2 no) (s : Same H H') : SU K H' p sc xs ru sh b d1 b1 k1 d2 b2 k2 e1 e2 no :=
  let ⟨dx, q1⟩ := h.i1
  let ⟨dy, q2⟩ := h.i2
  ⟨h.pool.same s, ⟨dx, s _ _ q1⟩, h.g1.keep (extN_same s), s _ _ h.c1, ⟨dy, s _ _ q2⟩, h.g2.keep (extN_same s), s _ _ h.c2, h.nd, h.nk, h.scr.frm (Frm.same (W := []) h.tabs s) (by simp), h.tabs.ext s⟩
theorem SU.imp (h : SU K H p sc xs ru sh b d1 b1 k1 d2 b2 k2 e1 e2 no) (s : ScrAt K H sc xs no') : SU K H p sc xs ru sh b d1 b1 k1 d2 b2 k2 e1 e2 no' := ⟨h.pool, h.i1, h.g1, h.c1, h.i2, h.g2, h.c2, h.nd, h.nk, s, h.tabs⟩
theorem SU.put1 (h : SU K H p sc xs ru sh b d1 b1 k1 d2 b2 k2 e1 e2 no) (fr : Frm (TT K) [k1] H H') (c : H' k1 = some (.dK e')) : SU K H' p sc xs ru sh b d1 b1 k1 d2 b2 k2 e' e2 no :=
  ⟨pool_dict h.pool fr h.c1, disk_dict h.i1 fr h.c1, book_dict h.g1 fr h.c1, c, disk_dict h.i2 fr h.c1, book_dict h.g2 fr h.c1, fr.keep _ _ h.c2 (fun z => h.nk (in1 z).symm) (by intro _ z; cases z), h.nd, h.nk, scr_dict h.scr fr h.c1, fr.tabs⟩
theorem SU.put2 (h : SU K H p sc xs ru sh b d1 b1 k1 d2 b2 k2 e1 e2 no) (fr : Frm (TT K) [k2] H H') (c : H' k2 = some (.dK e')) : SU K H' p sc xs ru sh b d1 b1 k1 d2 b2 k2 e1 e' no :=
  ⟨pool_dict h.pool fr h.c2, disk_dict h.i1 fr h.c2, book_dict h.g1 fr h.c2, fr.keep _ _ h.c1 (fun z => h.nk (in1 z)) (by intro _ z; cases z), disk_dict h.i2 fr h.c2, book_dict h.g2 fr h.c2, c, h.nd, h.nk, scr_dict h.scr fr h.c2, fr.tabs⟩
/-- a new file -/
def New (K : PySem.W.Frag) (H : Hp) (d f l : Addr) (i : Bool) : Prop := FileI K H d f l i fs0 ∧ H l = some (.lst [])
theorem New.dict {d f l k : Addr} {i : Bool} (h : New K H d f l i) (fr : Frm (TT K) [k] H H') (hk : H k = some (.dK kvs)) : New K H' d f l i := by
  obtain ⟨⟨dx, e⟩, hl⟩ := h
  exact ⟨⟨dx, fr.keep _ _ e (fun z => ne_of e hk (by intro z; cases z) (in1 z)) (by intro _ z; cases z)⟩, fr.keep _ _ hl (fun z => ne_of hl hk (by intro z; cases z) (in1 z)) (by intro _ z; cases z)⟩
theorem New.same {d f l : Addr} {i : Bool} (h : New K H d f l i) (s : Same H H') : New K H' d f l i := let ⟨⟨dx, e⟩, hl⟩ := h; ⟨⟨dx, s _ _ e⟩, s _ _ hl⟩
/-- f and l are not where they stand -/
theorem New.nef {d f l : Addr} {i : Bool} (h : New K H d f l i) {a : Addr} (n : H a = none) : a ≠ f := let ⟨⟨dx, e⟩, _⟩ := h; (ne_of_none e n).symm
theorem New.nel {d f l : Addr} {i : Bool} (h : New K H d f l i) {a : Addr} (n : H a = none) : a ≠ l := (ne_of_none h.2 n).symm
theorem frm_make {k : Addr} (t : LamX.Tabs (TT K) H) (hk : H k = some (.dK kvs)) (e : ∀ c o, c ≠ k → H c = some o → H' c = some o) : Frm (TT K) [k] H H' :=
  ⟨fun c o q n _ => e c o (fun z => n (List.mem_singleton.mpr z)) q, tabs_ne (W := [k]) t (fun a ha => by rw [in1 ha]; exact ⟨_, hk, flat_dK _⟩) fun c o q n => e c o (fun z => n (List.mem_singleton.mpr z)) q⟩
def gs0 : Bool → FS := fun _ => fs0
def z0 : Bool → Int := fun _ => 0
theorem late0 : late gs0 z0 = gs0 := by
  funext i
  rfl
theorem num0 : Num 0 gs0 z0 z0 0 :=
  ⟨fun _ => rfl, fun _ => rfl, fun _ => Int.le_refl _, fun _ => by show (0 : Int) ≤ 5 * ((0 : Nat) : Int); decide, fun _ => Int.le_refl _, fun _ => by show (0 : Int) ≤ ((0 : Nat) : Int); decide,
    fun _ => ⟨Int.le_refl _, Int.le_refl _, by show (0 : Int) ≤ 250 * ((0 : Nat) : Int); decide, Nat.zero_le _, fun r hr => by simp [gs0, fs0] at hr⟩, Int.le_refl _, by show (0 : Int) ≤ 250 * ((0 : Nat) : Int); decide⟩
def two (x y : Addr) : Bool → Addr
  | false => x
  | true => y
/-- the two disks with their files -/
theorem law_start {f1 l1 f2 l2 q1 m1 q2 m2 wa ti : Addr} (h : SU K H p sc xs ru sh b d1 b1 k1 d2 b2 k2 [(.inr "a", .ref f1), (.inr "b", .ref q1)] [(.inr "a", .ref f2), (.inr "b", .ref q2)] no)
    (n1 : New K H d1 f1 l1 false) (n2 : New K H d2 f2 l2 false) (o1 : New K H d1 q1 m1 true) (o2 : New K H d2 q2 m2 true) (hf : f1 ≠ q1 ∧ f2 ≠ q2 ∧ f1 ≠ f2 ∧ f1 ≠ q2 ∧ q1 ≠ f2 ∧ q1 ≠ q2) (hl : l1 ≠ m1 ∧ l2 ≠ m2 ∧ l1 ≠ l2 ∧ l1 ≠ m2 ∧ m1 ≠ l2 ∧ m1 ≠ m2) (hp : l1 ≠ p ∧ m1 ≠ p ∧ l2 ≠ p ∧ m2 ≠ p)
    (hn : no sc → sc ≠ p ∧ sc ≠ l1 ∧ sc ≠ l2 ∧ sc ≠ m1 ∧ sc ≠ m2) (hw : H wa = some (.dK (kvI z0))) (ht : H ti = some (.dK (kvI z0))) (nw : wa ≠ ti) (nA : k1 ≠ wa ∧ k2 ≠ wa ∧ k1 ≠ ti ∧ k2 ≠ ti) :
    LawAt K H ⟨p, ⟨d1, k1, b1, two f1 q1, two l1 m1⟩, ⟨d2, k2, b2, two f2 q2, two l2 m2⟩, wa, ti, sc⟩ xs ru sh b 0 0 (late gs0 z0) gs0 z0 z0 := by
  obtain ⟨hf1, hf2, hf3, hf4, hf5, hf6⟩ := hf
  obtain ⟨hl1, hl2, hl3, hl4, hl5, hl6⟩ := hl
  obtain ⟨hp1, hp2, hp3, hp4⟩ := hp
  obtain ⟨nA1, nA2, nA3, nA4⟩ := nA
  have pl : ∀ {l}, H l = some (.lst []) → PL H l (finR fs0.runs) := fun {l} e => ⟨[], e, .nil⟩
  rw [late0]
  refine ⟨h.pool, ⟨h.i1, h.c1, fun i => ?_, h.g1, hl1, hf1⟩, ⟨h.i2, h.c2, fun i => ?_, h.g2, hl2, hf2⟩, ⟨h.nd, fun i j => ?_, fun i j => ?_⟩, fun i => ?_, fun i => ?_, hw, ht, nw, nA1, nA2, nA3, nA4, h.scr.imp fun q => ?_, h.tabs⟩
  · cases i
    · exact ⟨n1.1, pl n1.2⟩
    · exact ⟨o1.1, pl o1.2⟩
  · cases i
    · exact ⟨n2.1, pl n2.2⟩
    · exact ⟨o2.1, pl o2.2⟩
  · cases i <;> cases j
    · exact hf3
    · exact hf4
    · exact hf5
    · exact hf6
  · cases i <;> cases j
    · exact hl3
    · exact hl4
    · exact hl5
    · exact hl6
  · cases i
    · exact hp1
    · exact hp2
  · cases i
    · exact hp3
    · exact hp4
  · obtain ⟨r0, r1, r2, r3, r4⟩ := hn q
    refine ⟨r0, fun i => ?_, fun i => ?_⟩
    · cases i
      · exact r1
      · exact r3
    · cases i
      · exact r2
      · exact r4
theorem put_a (f : Addr) : putK ([] : List (Key × V)) (.inr (nm false)) (.ref f) = [(.inr "a", .ref f)] := putK_new _ rfl
theorem put_b (f g : Addr) : putK ([(.inr "a", .ref f)] : List (Key × V)) (.inr (nm true)) (.ref g) = [(.inr "a", .ref f), (.inr "b", .ref g)] := putK_new _ (valV_neg (show ¬ ((.inr "a" : Key) = .inr (nm true)) from by decide +kernel))
theorem none_b (f : Addr) : valV ([(.inr "a", .ref f)] : List (Key × V)) (.inr (nm true)) = none := valV_neg (show ¬ ((.inr "a" : Key) = .inr (nm true)) from by decide +kernel)
theorem merge0 : mergeK [] [((.inr "a" : Key), V.int 0), (.inr "b", .int 0)] = kvI z0 := by
  show putK (putK ([] : List (Key × V)) (Sum.inr (nm false)) (V.int 0)) (Sum.inr (nm true)) (V.int 0) = _
  rw [show putK ([] : List (Key × V)) (Sum.inr (nm false)) (V.int 0) = [(.inr "a", .int 0)] from putK_new _ rfl]
  exact putK_new _ (valV_neg (show ¬ ((.inr "a" : Key) = .inr (nm true)) from by decide +kernel))
end
end K36
/-! ## KD22 -/
namespace K36
open PySem PySem.Spec PyProof.Rows L2
section
variable {P : Program} {w : World} {K : PySem.W.Frag} {mg : Str → Option Value} {base : Heap}
def sp_law (K : PySem.W.Frag) : Sp := fun vs H Q _ => ∃ (sc : Addr) (ns : List Int), vs = [.ref sc] ∧ SqL K H sc (ns.map V.int) ∧ ns.length ≤ 1000 ∧ LamX.Tabs (TT K) H ∧ ∀ H', Q (.bl true) H'
theorem sc_law : FnScope ["_law_script", "_law_k", "_law_pool", "_law_world", "_law_disk_here", "_law_twin", "_law_name", "_law_waiting", "_law_times", "_law_turn", "_law_hold", "_law_many"] ["_law_script"] (defScope S_law) := ⟨rfl, rfl, rfl, by decide +kernel, rfl, by decide +kernel, by decide +kernel⟩
theorem ok_law (F : Fx K mg) (TB : LamX.TabB base mg (cJ K) (tJ K)) {fd : FuncData} (Fl : Fun K "law" "law" S_law (He.ga K "law") fd) : FnOk P w K mg base CX0 13 (He.ga K "law") fd ["_law_script"] (sp_law K) := by
  refine Fl.ok sc_law (fun vs H Q E h => ?_) (fun cdv A₀ outer s H vs Q E hr h => ?_)
  · obtain ⟨sc, ns, rfl, _⟩ := h
    rfl
  · obtain ⟨sc, ns, rfl, hS, hn, hT, k⟩ := h
    have hr1 := hr.mono (j := 2) (by decide)
    refine ⟨_, pss_cons (ps_for PassesOwn.never rfl (pi_range1 rfl F.b_range (pa_cons (pe_callB (call_max2 rfl) (by rfl) F.b_max (by decide +kernel) (pa_cons pe_int (pa_cons (pe_callB (call_min2 rfl) (by rfl) F.b_min (by decide +kernel) (pa_cons (pe_callB call_len (by rfl) F.b_len PySem.boot_len (pa_cons (pv 0) pa_nil)) (pa_cons pe_int pa_nil))) pa_nil))) pa_nil)) (pg_name (i := 1) sc_law.nd rfl (.inl rfl))
        (pss_cons (ps_set (i := 2) sc_law.nd rfl (Or.inl rfl) (pe_cl (ok_hand F) (hr.mono (by decide)) (by rfl) F.g_law_hand F.p_law_hand (pa_cons (pv 0) (pa_cons (pv 1) pa_nil))))
        (pss_cons (ps_set (i := 3) sc_law.nd rfl (Or.inl rfl) (pe_cl (ok_rules F) (hr.mono (by decide)) (by rfl) F.g_law_rules F.p_law_rules (pa_cons (pv 2) pa_nil)))
        (pss_cons (ps_asg (pe_tup (pa_cons pe_non (pa_cons pe_bl (pa_cons pe_bl pa_nil)))) (pg_tup (by rfl) (pgs_cons (pg_sub (pv 3) pe_str (set_dict (hu_of hr))) (pgs_cons (pg_sub (pv 3) pe_str (set_dict (hu_of hr))) (pgs_cons (pg_sub (pv 3) pe_str (set_dict (hu_of hr))) pgs_nil)))))
        (pss_cons (ps_set (i := 4) sc_law.nd rfl (Or.inr rfl) (pe_cl (ok_disk F) (hr.mono (by decide)) (by rfl) F.g_law_disk F.p_law_disk (pa_cons (pv 3) pa_nil)))
        (pss_cons (ps_dput (hu_of hr) (pv 3) pe_str pe_bl rfl)
        (pss_cons (ps_set (i := 5) sc_law.nd rfl (Or.inl rfl) (pe_cl (ok_disk F) (hr.mono (by decide)) (by rfl) F.g_law_disk F.p_law_disk (pa_cons (pv 3) pa_nil)))
        (pss_cons (ps_for PassesOwn.never rfl (pi_list (pe_lst (pa_cons pe_str (pa_cons pe_str pa_nil)))) (pg_name (i := 6) sc_law.nd rfl (.inl rfl))
          (pss_cons (ps_expr (pe_me (pv 4) F.c_Disk F.m_Disk_make (ok_make F) (hr.mono (by decide)) (pa_cons (pv 6) pa_nil))) (pss_one (ps_expr (pe_me (pv 5) F.c_Disk F.m_Disk_make (ok_make F) (hr.mono (by decide)) (pa_cons (pv 6) pa_nil))))))
        (pss_cons (ps_asg (pe_tup (pa_cons (pe_disp (pps_cons pe_str pe_int (pps_cons pe_str pe_int pps_nil)) (by rfl) (by rfl) (fun z => by cases z) (by decide)) (pa_cons (pe_disp (pps_cons pe_str pe_int (pps_cons pe_str pe_int pps_nil)) (by rfl) (by rfl) (fun z => by cases z) (by decide)) pa_nil)))
          (pg_tup (by rfl) (pgs_cons (pg_name (i := 7) sc_law.nd rfl (.inl rfl)) (pgs_cons (pg_name (i := 8) sc_law.nd rfl (.inr rfl)) pgs_nil))))
        (pss_cons (ps_for PassesOwn.never rfl (pi_range1 rfl F.b_range (pa_cons pe_int pa_nil)) (pg_name (i := 9) sc_law.nd rfl (.inl rfl))
          (pss_cons (ps_if (pw_or (pt_not (pt_val (pe_cl (ok_growths F TB) hr (by rfl) F.g_law_growths F.p_law_growths (pa_cons (pv 2) (pa_cons (pv 4) (pa_cons (pv 5) (pa_cons (pv 7) (pa_cons (pv 8) (pa_cons (pv 9) pa_nil))))))))) (pw_or1 (pt_not (pt_val (pe_cl (ok_alike F TB) (hr.mono (by decide)) (by rfl) F.g_law_alike F.p_law_alike (pa_cons (pv 4) (pa_cons (pv 5) pa_nil))))))).pt (pss_one (ps_ret pe_bl)) pss_nil)
          (pss_one (ps_if (pt_cmpR (op_neD hr.units) (pe_lc (own := [("_law_name", 6)]) (g := gName 6) rfl sc_law.nd (pi_list (pe_lst (pa_cons pe_str (pa_cons pe_str pa_nil))))
              (blkOk_by (own := [("_law_name", 6)]) (N := ["_law_script", "_law_k", "_law_pool", "_law_world", "_law_disk_here", "_law_twin", "_law_name", "_law_waiting", "_law_times", "_law_turn", "_law_hold", "_law_many"]) (sc := defScope S_law) (by decide +kernel)) (fun _ _ _ _ _ => pg_name (i := 6) sc_law.nd rfl (Or.inl rfl))
              (fun _ _ _ _ _ => pts_one (pt_cmpR op_gt (pe_callB (show CallR _ _ (rLen K) from call_len) (by rfl) F.b_len PySem.boot_len (pa_cons (pe_me0 (pe_oIx (pv 4) (pv 6) F.m_Disk_getitem F.x_item (ok_getitem F) hr1) F.c_File F.m_File_pieces (ok_pieces F) (hr.mono (by decide))) pa_nil)) (pe_dget (hu_of hr) (pv 8) (pv 6) (fun _ _ => rfl)) (nomark _))) (fun _ _ _ _ _ => pe_int)) (pe_lst pa_nil) (nomark _)) (pss_one (ps_ret pe_bl)) pss_nil))))
        (pss_cons (ps_par (i := 10) (j := 11) rfl sc_law.nd rfl rfl (by decide) rfl rfl (pa_cons (pe_fld (pe_oIx (pv 4) pe_str F.m_Disk_getitem F.x_item (ok_getitem F) hr1) rfl) (pa_cons (pe_fld (pe_oIx (pv 4) pe_str F.m_Disk_getitem F.x_item (ok_getitem F) hr1) rfl) pa_nil)) (by rfl))
        (pss_one (ps_if (pw_or (pt_cmpR op_ne (pe_me (pv 4) F.c_Disk F.m_Disk_delete (ok_delete F) (hr.mono (by decide)) (pa_cons pe_str pa_nil)) (pv 10) (nomark _)) (pw_or (pt_cmpR op_lt (pv 11) pe_int (nomark _)) (pw_or1 (pt_cmpR (op_oIn F.m_Disk_contains (ok_contains F) (hr.mono (by decide))) pe_str (pv 4) (by rfl))))).pt (pss_one (ps_ret pe_bl)) pss_nil)))))))))))))
      (pss_one (ps_ret pe_bl)), ?_⟩
    have len : (ns.map V.int).length = ns.length := List.length_map _
    refine ⟨_, rfl, _, (ns.map V.int).length, rfl, .inl ⟨_, hS, rfl⟩, _, _, rfl, _, _, rfl, _, rfl, by rw [len]; split <;> split <;> omega, by rw [len]; split <;> split <;> omega, ?_⟩
    refine for_range (lo := 0) (fun kk σ H' => LamX.Tabs (TT K) H' ∧ ScrAt K H' sc (ns.map V.int) (fun _ => True) ∧ ∃ x1 x2 x3 x4 x5 x6 x7 x8 x9 x10 x11, σ = [some (.ref sc), x1, x2, x3, x4, x5, x6, x7, x8, x9, x10, x11]) ⟨hT, ScrAt.of hS, _, _, _, _, _, _, _, _, _, _, _, rfl⟩ (fun kk σ H0 _ p => ?_) fun σ H' p => ?_
    case refine_2 => exact k H'
    obtain ⟨T0, sc0, x1, x2, x3, x4, x5, x6, x7, x8, x9, x10, x11, rfl⟩ := p
    refine ⟨_, rfl, _, rfl, sc, _, ns, rfl, sc0.sq, hn, fun H1 p s1 np hp => ?_⟩
    refine ⟨_, rfl, p, rfl, hp, fun H2 wd t sb b kvs ru sz sh bk lt d2 nwd hw hV hru hb ht hs => ?_⟩
    have sc1 : ScrAt K H1 sc (ns.map V.int) (fun c => c ≠ p) := ((sc0.add np).imp fun q => q.2).frm (Frm.same (W := []) T0 s1) (by simp)
    have f2 := d2.frm hp (T0.ext s1)
    have h2 : S1 K H2 p wd t sb sc (ns.map V.int) b kvs := ⟨d2.pool, hw, ht, hs, sc1.frm f2 fun a ha => .inr fun c hc => by rw [in1 ha]; exact hc, f2.tabs⟩
    obtain ⟨hV5, ln1, ln2⟩ := hV.put3
    refine ⟨by show 3 ≤ sizeLine; decide, fun tt ntt => ?_⟩
    have h3 := h2.same (same_upd (o := .tup [.non, .bl false, .bl true]) ntt)
    have h4 := (h3.put (kvs' := putK kvs (.inr "size") .non)).2
    have h5 := (h4.put (kvs' := putK (putK kvs (.inr "size") .non) (.inr "back") (.bl false))).2
    have h6 := (h5.put (kvs' := putK (putK (putK kvs (.inr "size") .non) (.inr "back") (.bl false)) (.inr "late") (.bl true))).2
    have lk := hV.len
    refine ⟨tt, _, rfl, SqT.of upd_same, rfl, _, _, rfl, _, rfl, wd, _, rfl, DPut.k (k := Sum.inr "size") h3.w (Nat.lt_of_le_of_lt lk (by decide)), ?_⟩
    refine ⟨_, _, rfl, _, rfl, wd, _, rfl, DPut.k (k := Sum.inr "back") h4.w ln2, ?_⟩
    refine ⟨_, _, rfl, _, rfl, wd, _, rfl, DPut.k (k := Sum.inr "late") h5.w ln1, rfl, ?_⟩
    refine ⟨_, rfl, wd, t, sb, b, _, ru, sh, true, rfl, h6.w, hV5, hru, hb, h6.t, h6.s, fun H7 d1 b1 k1 s7 nd1 nk1 i1 g1 c1 => ?_⟩
    have h7 := h6.same s7
    have nkw : k1 ≠ wd := (ne_of_none h6.w nk1).symm
    obtain ⟨f8, h8⟩ := h7.put (kvs' := putK (putK (putK (putK kvs (.inr "size") .non) (.inr "back") (.bl false)) (.inr "late") (.bl true)) (.inr "late") (.bl false))
    have hV8 := hV5.putL (v := false)
    refine ⟨_, rfl, wd, _, rfl, DPut.k (k := Sum.inr "late") h7.w (Nat.lt_of_le_of_lt hV5.len (by decide)), ?_⟩
    have i1' := disk_dict i1 f8 h7.w
    have g1' := book_dict g1 f8 h7.w
    have c1' := f8.keep _ _ c1 (fun z => nkw (in1 z)) (by intro _ z; cases z)
    refine ⟨_, rfl, wd, t, sb, b, _, ru, sh, false, rfl, h8.w, hV8, hru, hb, h8.t, h8.s, fun H9 d2 b2 k2 s9 nd2 nk2 i2 g2 c2 => ?_⟩
    have su : SU K H9 p sc (ns.map V.int) ru sh b d1 b1 k1 d2 b2 k2 [] [] (fun c => c ≠ p) := by
      obtain ⟨dx, e1⟩ := i1'
      have h9 := h8.same s9
      exact ⟨h9.pool, ⟨dx, s9 _ _ e1⟩, g1'.keep (extN_same s9), s9 _ _ c1', i2, g2, c2, ne_of_none e1 nd2, ne_of_none c1' nk2, h9.scr, h9.tabs⟩
    clear h2 h3 h4 h5 h6 h7 h8 i1' g1' c1' i1 g1 c1 i2 g2 c2 hV5 hV8 hV f2 f8 sc1
    refine ⟨by show 2 ≤ sizeLine; decide, fun l nl => ?_⟩
    have su0 := su.same (same_upd (o := .lst [.str "a", .str "b"]) nl)
    have hl0 : upd H9 l (.lst [.str "a", .str "b"]) l = some (.lst [.str "a", .str "b"]) := upd_same
    refine ⟨l, rfl, ⟨_, SqL.of hl0⟩, for_list (xs := [.str "a", .str "b"]) (fun j σ H' => (∃ x6, σ = [some (.ref sc), some (.int (0 + kk)), some (.ref p), some (.ref wd), some (.ref d1), some (.ref d2), x6, x7, x8, x9, x10, x11]) ∧ H' l = some (.lst [.str "a", .str "b"]) ∧ (match j with
        | 0 => SU K H' p sc (ns.map V.int) ru sh b d1 b1 k1 d2 b2 k2 [] [] (fun c => c ≠ p)
        | 1 => ∃ f1 l1 f2 l2, SU K H' p sc (ns.map V.int) ru sh b d1 b1 k1 d2 b2 k2 [(.inr "a", .ref f1)] [(.inr "a", .ref f2)] (fun c => (c ≠ p ∧ c ≠ l1) ∧ c ≠ l2) ∧ New K H' d1 f1 l1 false ∧ New K H' d2 f2 l2 false ∧ f1 ≠ f2 ∧ l1 ≠ l2 ∧ l1 ≠ p ∧ l2 ≠ p
        | _ => ∃ f1 l1 f2 l2 q1 m1 q2 m2, SU K H' p sc (ns.map V.int) ru sh b d1 b1 k1 d2 b2 k2 [(.inr "a", .ref f1), (.inr "b", .ref q1)] [(.inr "a", .ref f2), (.inr "b", .ref q2)] (fun c => (((c ≠ p ∧ c ≠ l1) ∧ c ≠ l2) ∧ c ≠ m1) ∧ c ≠ m2) ∧ New K H' d1 f1 l1 false ∧ New K H' d2 f2 l2 false ∧ New K H' d1 q1 m1 true ∧ New K H' d2 q2 m2 true ∧
          (f1 ≠ q1 ∧ f2 ≠ q2 ∧ f1 ≠ f2 ∧ f1 ≠ q2 ∧ q1 ≠ f2 ∧ q1 ≠ q2) ∧ (l1 ≠ m1 ∧ l2 ≠ m2 ∧ l1 ≠ l2 ∧ l1 ≠ m2 ∧ m1 ≠ l2 ∧ m1 ≠ m2) ∧ (l1 ≠ p ∧ m1 ≠ p ∧ l2 ≠ p ∧ m2 ≠ p)))
      ⟨⟨_, rfl⟩, hl0, su0⟩ (fun j σ H' _ p => SqL.of p.2.1) (fun j x σ Ha hx q => ?_) fun σ Ha q => ?_⟩
    · obtain ⟨⟨x6', rfl⟩, hla, q⟩ := q
      match j, hx, q with
      | 0, hx, q =>
        cases hx
        have q : SU K Ha p sc (ns.map V.int) ru sh b d1 b1 k1 d2 b2 k2 [] [] (fun c => c ≠ p) := q
        obtain ⟨dx, e1⟩ := q.i1
        refine ⟨_, rfl, d1, dx, _, rfl, e1, rfl, _, rfl, d1, b1, k1, ru, false, sh, true, 0, [], rfl, q.i1, q.c1, rfl, by decide, fun Hb f1 l1 eb nf1 nl1 nfl1 hf1 hl1 hk1 => ?_⟩
        have fb := frm_make q.tabs q.c1 eb
        rw [put_a] at hk1
        have qb := (q.imp (q.scr.add nl1)).put1 fb hk1
        have nb1 : New K Hb d1 f1 l1 false := ⟨hf1, hl1⟩
        have hlb := fb.keep _ _ hla (fun z => ne_of hla q.c1 (by intro z; cases z) (in1 z)) (by intro _ z; cases z)
        obtain ⟨dy, e2⟩ := qb.i2
        refine ⟨_, rfl, d2, dy, _, rfl, e2, rfl, _, rfl, d2, b2, k2, ru, false, sh, false, 0, [], rfl, qb.i2, qb.c2, rfl, by decide, fun Hc f2 l2 ec nf2 nl2 nfl2 hf2 hl2 hk2 => ?_⟩
        have fc := frm_make qb.tabs qb.c2 ec
        rw [put_a] at hk2
        have qc := (qb.imp (qb.scr.add nl2)).put2 fc hk2
        have hlc := fc.keep _ _ hlb (fun z => ne_of hlb qb.c2 (by intro z; cases z) (in1 z)) (by intro _ z; cases z)
        exact ⟨⟨_, rfl⟩, hlc, f1, l1, f2, l2, qc, nb1.dict fc qb.c2, ⟨hf2, hl2⟩, (nb1.nef nf2).symm, (nb1.nel nl2).symm, q.pool.ne nl1, qb.pool.ne nl2⟩
      | 1, hx, q =>
        cases hx
        obtain ⟨f1, l1, f2, l2, q, na1, na2, r1, r2, r3, r4⟩ := q
        obtain ⟨dx, e1⟩ := q.i1
        refine ⟨_, rfl, d1, dx, _, rfl, e1, rfl, _, rfl, d1, b1, k1, ru, true, sh, true, 0, _, rfl, q.i1, q.c1, none_b f1, by show 1 ≤ 10; decide, fun Hb q1 m1 eb nf1 nl1 nfl1 hf1 hl1 hk1 => ?_⟩
        have fb := frm_make q.tabs q.c1 eb
        rw [put_b] at hk1
        have qb := (q.imp (q.scr.add nl1)).put1 fb hk1
        have nb1 : New K Hb d1 q1 m1 true := ⟨hf1, hl1⟩
        have nba1 := na1.dict fb q.c1
        have nba2 := na2.dict fb q.c1
        have hlb := fb.keep _ _ hla (fun z => ne_of hla q.c1 (by intro z; cases z) (in1 z)) (by intro _ z; cases z)
        obtain ⟨dy, e2⟩ := qb.i2
        refine ⟨_, rfl, d2, dy, _, rfl, e2, rfl, _, rfl, d2, b2, k2, ru, true, sh, false, 0, _, rfl, qb.i2, qb.c2, none_b f2, by show 1 ≤ 10; decide, fun Hc q2 m2 ec nf2 nl2 nfl2 hf2 hl2 hk2 => ?_⟩
        have fc := frm_make qb.tabs qb.c2 ec
        rw [put_b] at hk2
        have qc := (qb.imp (qb.scr.add nl2)).put2 fc hk2
        have hlc := fc.keep _ _ hlb (fun z => ne_of hlb qb.c2 (by intro z; cases z) (in1 z)) (by intro _ z; cases z)
        exact ⟨⟨_, rfl⟩, hlc, f1, l1, f2, l2, q1, m1, q2, m2, qc, nba1.dict fc qb.c2, nba2.dict fc qb.c2, nb1.dict fc qb.c2, ⟨hf2, hl2⟩,
          ⟨(na1.nef nf1).symm, (nba2.nef nf2).symm, r1, (nba1.nef nf2).symm, na2.nef nf1, (nb1.nef nf2).symm⟩, ⟨(na1.nel nl1).symm, (nba2.nel nl2).symm, r2, (nba1.nel nl2).symm, na2.nel nl1, (nb1.nel nl2).symm⟩, ⟨r3, q.pool.ne nl1, r4, qb.pool.ne nl2⟩⟩
      | n + 2, hx, _ => simp at hx
    · obtain ⟨⟨x6', rfl⟩, _, f1, l1, f2, l2, q1, m1, q2, m2, su2, n1, n2, o1, o2, hf, hll, hpp⟩ := q
      refine fun wa nwa => ⟨upd_same, [(.inr "a", .int 0), (.inr "b", .int 0)], rfl, by show 2 ≤ 15; decide, fun ti nti => ⟨upd_same, [(.inr "a", .int 0), (.inr "b", .int 0)], rfl, by show 2 ≤ 15; decide, by show 2 ≤ sizeLine; decide, fun tu ntu => ?_⟩⟩
      rw [merge0] at nti ntu ⊢
      have sa : Same Ha (upd (upd Ha wa (.dK [])) wa (.dK (kvI z0))) := same_over (same_upd nwa) nwa
      have ewa : upd (upd Ha wa (.dK [])) wa (.dK (kvI z0)) wa = some (.dK (kvI z0)) := upd_same
      have sb' := same_over (o := .dK (kvI z0)) (same_upd (o := .dK []) nti) nti
      have sE := same_trans sa (same_trans sb' (same_upd (o := .tup [.ref wa, .ref ti]) ntu))
      have ewa2 := (same_upd (o := .tup [.ref wa, .ref ti]) ntu) _ _ (sb' _ _ ewa)
      have eti2 := (same_upd (o := .tup [.ref wa, .ref ti]) ntu) _ _ (upd_same (H := upd (upd (upd Ha wa (.dK [])) wa (.dK (kvI z0))) ti (.dK [])) (a := ti) (o := .dK (kvI z0)))
      have nwt : wa ≠ ti := ne_of_none ewa nti
      have nk1w : k1 ≠ wa := ne_of_none su2.c1 nwa
      have nk2w : k2 ≠ wa := ne_of_none su2.c2 nwa
      have nk1t : k1 ≠ ti := ne_of_none (sa _ _ su2.c1) nti
      have nk2t : k2 ≠ ti := ne_of_none (sa _ _ su2.c2) nti
      have hL0 := law_start (su2.same sE) (n1.same sE) (n2.same sE) (o1.same sE) (o2.same sE) hf hll hpp (fun q => ⟨q.1.1.1.1, q.1.1.1.2, q.1.1.2, q.1.2, q.2⟩) ewa2 eti2 nwt ⟨nk1w, nk2w, nk1t, nk2t⟩
      refine ⟨tu, _, rfl, SqT.of upd_same, rfl, _, _, rfl, _, _, rfl, rfl, ?_⟩
      refine ⟨30, rfl, by decide, by decide, for_range (lo := 0) (n := 30) (fun t σ H' => ∃ af gs wt tm x6 x9, σ = [some (.ref sc), some (.int (0 + kk)), some (.ref p), some (.ref wd), some (.ref d1), some (.ref d2), x6, some (.ref wa), some (.ref ti), x9, x10, x11] ∧
        LawAt K H' ⟨p, ⟨d1, k1, b1, two f1 q1, two l1 m1⟩, ⟨d2, k2, b2, two f2 q2, two l2 m2⟩, wa, ti, sc⟩ (ns.map V.int) ru sh b af af (late gs wt) gs wt tm ∧ Num t gs wt tm af) ⟨0, gs0, z0, z0, _, _, rfl, hL0, num0⟩ (fun t σ Hb ht q => ?_) fun σ Hb q => ?_⟩
      · obtain ⟨af, gs, wt, tm, x6, x9, rfl, hL, hN⟩ := q
        refine ⟨_, rfl, _, rfl, _, rfl, _, rfl, _, rfl, _, rfl, ⟨p, ⟨d1, k1, b1, two f1 q1, two l1 m1⟩, ⟨d2, k2, b2, two f2 q2, two l2 m2⟩, wa, ti, sc⟩, _, ru, sh, b, af, _, t, gs, wt, tm, rfl, hL, hru, hb, hN, by omega, fun Hc af' gs' wt' tm' hLc hNc => ⟨true, rfl, ifF rfl ?_⟩⟩
        refine ⟨_, rfl, _, rfl, ⟨p, ⟨d1, k1, b1, two f1 q1, two l1 m1⟩, ⟨d2, k2, b2, two f2 q2, two l2 m2⟩, wa, ti, sc⟩, _, ru, sh, b, af', _, 31, gs', wt', tm', rfl, hLc, hru, hb, hNc.bnd (by omega), hNc.g0, hNc.op, fun Hd hLd => ⟨true, rfl, ifF rfl ?_⟩⟩
        refine ⟨by show 2 ≤ sizeLine; decide, fun l2' nl2' => ?_⟩
        have hle : upd Hd l2' (.lst [.str "a", .str "b"]) l2' = some (.lst [.str "a", .str "b"]) := upd_same
        have hLe : LawAt K (upd Hd l2' (.lst [.str "a", .str "b"])) ⟨p, ⟨d1, k1, b1, two f1 q1, two l1 m1⟩, ⟨d2, k2, b2, two f2 q2, two l2 m2⟩, wa, ti, sc⟩ (ns.map V.int) ru sh b af' af' (late gs' wt') gs' wt' tm' := hLd.same (same_upd nl2')
        refine ⟨l2', rfl, ⟨_, SqL.of hle⟩, fun D nD => ?_⟩
        refine lc_list (K := K) (a := l2') (xs := [.str "a", .str "b"]) (fun j H' => Same (upd Hd l2' (.lst [.str "a", .str "b"])) H' ∧ H' D = some (.lst [])) ⟨same_upd nD, upd_same⟩ (fun j H' _ q => SqL.of (q.1 _ _ hle)) (fun j x H' hx q => ?_) fun H' q => ?_
        · obtain ⟨s3, h3⟩ := q
          obtain ⟨i, rfl⟩ : ∃ i : Bool, x = .str (nm i) := by
            match j, hx with
            | 0, hx => cases hx; exact ⟨false, rfl⟩
            | 1, hx => cases hx; exact ⟨true, rfl⟩
            | n + 2, hx => simp at hx
          have hLf := hLe.same s3
          obtain ⟨da, hda⟩ := hLf.here.disk
          obtain ⟨fa, hfa⟩ := hLf.here.fileAt i
          refine ⟨rfl, _, rfl, _, rfl, d1, da, _, rfl, hda, d1, b1, k1, ru, nm i, sh, true, af', _, _, rfl, hLf.here.disk, hLf.here.dic, valA _ i, _, fa, _, rfl, hfa, rfl, d1, two f1 q1 i, two l1 m1 i, i, late gs' wt' i, rfl, hLf.here.file i, fun Hg q5 b5 => ?_⟩
          obtain ⟨ba, hba⟩ := b5.at_
          have hLg := hLf.same b5.same
          have hl : (ba.map V.ref).length = (gs' i).runs.length := by rw [List.length_map, hba.len, fin_len]; rfl
          have hrn := (hNc.f i).rn
          have ht0 := hNc.t0 i
          refine ⟨_, (ba.map V.ref).length, rfl, .inl ⟨_, hba.sq, rfl⟩, _, rfl, _, rfl, ti, _, rfl, get_at hLg.ti i, _, _, rfl, rfl, _, rfl, ifF (decide_eq_false (by rw [hl]; omega)) ⟨same_trans s3 b5.same, b5.same _ _ h3⟩⟩
        · obtain ⟨s3, h3⟩ := q
          refine ⟨by decide, fun E' nE => ⟨.list [], .list [], .lst (SqL.of ((same_upd nE) _ _ h3)) .nil, .lst (SqL.of upd_same) .nil, by decide +kernel, by decide +kernel, _, rfl, ifF (by decide +kernel) ?_⟩⟩
          exact ⟨af', gs', wt', tm', _, _, rfl, (hLe.same s3).same (same_upd nE), hNc⟩
      · obtain ⟨af, gs, wt, tm, x6, x9, rfl, hL, hN⟩ := q
        obtain ⟨da, hda⟩ := hL.here.disk
        obtain ⟨fa, hfa⟩ := hL.here.fileAt false
        refine ⟨_, rfl, d1, da, _, rfl, hda, d1, b1, k1, ru, "a", sh, true, af, _, _, rfl, hL.here.disk, hL.here.dic, valA _ false, _, _, fa, _, _, rfl, hfa, F.c_File, F.n_File_hold, rfl, ?_⟩
        refine ⟨_, rfl, d1, da, _, rfl, hda, d1, b1, k1, ru, "a", sh, true, af, _, _, rfl, hL.here.disk, hL.here.dic, valA _ false, _, _, fa, _, _, rfl, hfa, F.c_File, F.n_File_waiting, rfl, _, _, rfl, ?_⟩
        refine ⟨_, rfl, d1, da, _, rfl, hda, rfl, ⟨d1, k1, b1, two f1 q1, two l1 m1⟩, ru, sh, true, b, af, late gs wt, rfl, hL.here, hL.tabs, fun Hc dic fc ic cc => ?_⟩
        obtain ⟨dc, hdc⟩ := ic
        have hw0 := hN.w0 false
        refine ⟨_, rfl, rfl, _, rfl, ifF (by rw [decide_eq_true rfl]; rfl) ?_⟩
        refine ⟨_, rfl, _, _, rfl, rfl, _, rfl, ifF (decide_eq_false (by show ¬ wt false < 0; omega)) ?_⟩
        refine ⟨_, rfl, d1, dc, _, rfl, hdc, d1, b1, dic, ru, "a", sh, true, af, _, rfl, ⟨dc, hdc⟩, cc, ⟨_, rfl⟩, _, rfl, ifF ?_ ?_⟩
        · have e : valV ([(.inr "b", .ref (two f1 q1 true))] : List (Key × V)) (.inr "a") = none := valV_neg (show ¬ ((.inr "b" : Key) = .inr "a") from by decide +kernel)
          show (valV ([(.inr "b", .ref (two f1 q1 true))] : List (Key × V)) (.inr "a")).isSome = false
          rw [e]
          rfl
        · refine ⟨fc.tabs, (hL.scr.frm fc fun a ha => ?_).imp fun _ => trivial, _, _, _, _, _, _, _, _, _, _, _, rfl⟩
          rcases List.mem_cons.mp ha with rfl | ha
          · exact .inl ⟨_, hda, .inl ⟨_, _, _, rfl⟩⟩
          · rw [in1 ha]
            exact .inl ⟨_, hfa, .inl ⟨_, _, _, rfl⟩⟩
end
end K36
/-! ## KEnd -/
namespace K36
open PySem PySem.Spec PyProof.Rows L2
theorem fun_of {K : PySem.W.Frag} {x q : Str} {st : Stmt} {f : Addr} (h : ∃ fd, FunD K x q (defArgs st) (defBody st) (defScope st) [] [] f fd) : ∃ fd, Fun K x q st f fd := by
  obtain ⟨fd, F⟩ := h
  obtain ⟨oc, od, dV, kV, doc, pm, an, cdv, ct, osl, rfl, lk, hcd, hD, _⟩ := F.ex
  rcases hD with ⟨_, rfl⟩ | ⟨e, _⟩
  · exact ⟨_, ⟨oc, od, kV, doc, pm, an, cdv, ct, osl, rfl, lk, hcd⟩, F.kp⟩
  · exact absurd rfl e
theorem fx_of {K : PySem.W.Frag} {h : Heap} {mg : Str → Option Value} (X : K.In h) (G : h.Ns mainGlobals mg) (c : He.SaysD K36H.fa K36H.fn K) (e : K36H.ex K = true) : Fx K mg := by
  obtain ⟨e0, e⟩ := He.ba e
  obtain ⟨e1, e⟩ := He.ba e
  obtain ⟨e2, e⟩ := He.ba e
  obtain ⟨e3, e⟩ := He.ba e
  obtain ⟨e4, e⟩ := He.ba e
  obtain ⟨e5, e⟩ := He.ba e
  obtain ⟨e6, e⟩ := He.ba e
  obtain ⟨e7, e⟩ := He.ba e
  obtain ⟨e8, e⟩ := He.ba e
  obtain ⟨e9, e⟩ := He.ba e
  exact {
    g_is_integer := He.glo_ok X G (c.fact 0 (f := .glo "is_integer") rfl)
    g_check_integer := He.glo_ok X G (c.fact 1 (f := .glo "check_integer") rfl)
    g_is_name := He.glo_ok X G (c.fact 2 (f := .glo "is_name") rfl)
    g_is_enough := He.glo_ok X G (c.fact 3 (f := .glo "is_enough") rfl)
    g_first_enough := He.glo_ok X G (c.fact 4 (f := .glo "first_enough") rfl)
    g_best_enough := He.glo_ok X G (c.fact 5 (f := .glo "best_enough") rfl)
    g_place_by_rule := He.glo_ok X G (c.fact 6 (f := .glo "place_by_rule") rfl)
    g_placed := He.glo_ok X G (c.fact 7 (f := .glo "placed") rfl)
    g_is_run := He.glo_ok X G (c.fact 8 (f := .glo "is_run") rfl)
    g_end_of := He.glo_ok X G (c.fact 9 (f := .glo "end_of") rfl)
    g_is_before := He.glo_ok X G (c.fact 10 (f := .glo "is_before") rfl)
    g_joined := He.glo_ok X G (c.fact 11 (f := .glo "joined") rfl)
    g_shared := He.glo_ok X G (c.fact 12 (f := .glo "shared") rfl)
    g_others := He.glo_ok X G (c.fact 13 (f := .glo "others") rfl)
    g_runs_of := He.glo_ok X G (c.fact 14 (f := .glo "runs_of") rfl)
    g_pairs_of := He.glo_ok X G (c.fact 15 (f := .glo "pairs_of") rfl)
    g_room_of := He.glo_ok X G (c.fact 16 (f := .glo "room_of") rfl)
    g_check_disk := He.glo_ok X G (c.fact 17 (f := .glo "check_disk") rfl)
    g_is_share := He.glo_ok X G (c.fact 18 (f := .glo "is_share") rfl)
    g_part_of := He.glo_ok X G (c.fact 19 (f := .glo "part_of") rfl)
    g_check_parts := He.glo_ok X G (c.fact 20 (f := .glo "check_parts") rfl)
    g_law_hand := He.glo_ok X G (c.fact 21 (f := .glo "_law_hand") rfl)
    g_law_draw := He.glo_ok X G (c.fact 22 (f := .glo "_law_draw") rfl)
    g_law_made := He.glo_ok X G (c.fact 23 (f := .glo "_law_made") rfl)
    g_law_rules := He.glo_ok X G (c.fact 24 (f := .glo "_law_rules") rfl)
    g_law_small_book := He.glo_ok X G (c.fact 25 (f := .glo "_law_small_book") rfl)
    g_law_disk := He.glo_ok X G (c.fact 26 (f := .glo "_law_disk") rfl)
    g_law_alike := He.glo_ok X G (c.fact 27 (f := .glo "_law_alike") rfl)
    g_law_growths := He.glo_ok X G (c.fact 28 (f := .glo "_law_growths") rfl)
    g_law := He.glo_ok X G (c.fact 29 (f := .glo "law") rfl)
    g_Pairs := He.glo_ok X G (c.fact 30 (f := .glo "Pairs") rfl)
    g_Room := He.glo_ok X G (c.fact 31 (f := .glo "Room") rfl)
    g_File := He.glo_ok X G (c.fact 32 (f := .glo "File") rfl)
    g_Disk := He.glo_ok X G (c.fact 33 (f := .glo "Disk") rfl)
    g_Book := He.glo_ok X G (c.fact 34 (f := .glo "Book") rfl)
    g_RULES := He.glo_ok X G (c.fact 35 (f := .glo "RULES") rfl)
    b_isinstance := He.free_ok X G (c.fact 36 (f := .free "isinstance") rfl)
    b_int := He.free_ok X G (c.fact 37 (f := .free "int") rfl)
    b_bool := He.free_ok X G (c.fact 38 (f := .free "bool") rfl)
    b_str := He.free_ok X G (c.fact 39 (f := .free "str") rfl)
    b_len := He.free_ok X G (c.fact 40 (f := .free "len") rfl)
    b_all := He.free_ok X G (c.fact 41 (f := .free "all") rfl)
    b_list := He.free_ok X G (c.fact 42 (f := .free "list") rfl)
    b_tuple := He.free_ok X G (c.fact 43 (f := .free "tuple") rfl)
    b_sorted := He.free_ok X G (c.fact 44 (f := .free "sorted") rfl)
    b_enumerate := He.free_ok X G (c.fact 45 (f := .free "enumerate") rfl)
    b_sum := He.free_ok X G (c.fact 46 (f := .free "sum") rfl)
    b_max := He.free_ok X G (c.fact 47 (f := .free "max") rfl)
    b_min := He.free_ok X G (c.fact 48 (f := .free "min") rfl)
    b_range := He.free_ok X G (c.fact 49 (f := .free "range") rfl)
    i_MOST := He.int_ok X G (c.fact 50 (f := .int "MOST" (10 ^ 40)) rfl)
    i_MOST_BLOCK := He.int_ok X G (c.fact 51 (f := .int "MOST_BLOCK" (10 ^ 50)) rfl)
    i_MOST_GROWTH := He.int_ok X G (c.fact 52 (f := .int "MOST_GROWTH" (10 ^ 30)) rfl)
    i_MOST_RUNS := He.int_ok X G (c.fact 53 (f := .int "MOST_RUNS" (1000)) rfl)
    i_MOST_SHARE := He.int_ok X G (c.fact 54 (f := .int "MOST_SHARE" (100)) rfl)
    s_SMALL := He.str_ok X G (c.fact 55 (f := .str "SMALL" "abcdefghijklmnopqrstuvwxyz") rfl)
    c_Pairs := He.cls_ok (c.fact 56 (f := .cls "Pairs") rfl)
    c_Room := He.cls_ok (c.fact 57 (f := .cls "Room") rfl)
    c_File := He.cls_ok (c.fact 58 (f := .cls "File") rfl)
    c_Disk := He.cls_ok (c.fact 59 (f := .cls "Disk") rfl)
    c_Book := He.cls_ok (c.fact 60 (f := .cls "Book") rfl)
    n_Pairs_pairs := He.noat_ok (c.fact 61 (f := .noat "Pairs" "pairs") rfl)
    n_Room_pairs := He.noat_ok (c.fact 62 (f := .noat "Room" "pairs") rfl)
    n_File_disk := He.noat_ok (c.fact 63 (f := .noat "File" "disk") rfl)
    n_File_name := He.noat_ok (c.fact 64 (f := .noat "File" "name") rfl)
    n_File_size := He.noat_ok (c.fact 65 (f := .noat "File" "size") rfl)
    n_File_hold := He.noat_ok (c.fact 66 (f := .noat "File" "hold") rfl)
    n_File_waiting := He.noat_ok (c.fact 67 (f := .noat "File" "waiting") rfl)
    n_File_is_open := He.noat_ok (c.fact 68 (f := .noat "File" "is_open") rfl)
    n_File_runs_held := He.noat_ok (c.fact 69 (f := .noat "File" "runs_held") rfl)
    n_Disk_own_book := He.noat_ok (c.fact 70 (f := .noat "Disk" "own_book") rfl)
    n_Disk_rule := He.noat_ok (c.fact 71 (f := .noat "Disk" "rule") rfl)
    n_Disk_size := He.noat_ok (c.fact 72 (f := .noat "Disk" "size") rfl)
    n_Disk_short := He.noat_ok (c.fact 73 (f := .noat "Disk" "short") rfl)
    n_Disk_back := He.noat_ok (c.fact 74 (f := .noat "Disk" "back") rfl)
    n_Disk_late := He.noat_ok (c.fact 75 (f := .noat "Disk" "late") rfl)
    n_Disk_after := He.noat_ok (c.fact 76 (f := .noat "Disk" "after") rfl)
    n_Disk_files := He.noat_ok (c.fact 77 (f := .noat "Disk" "files") rfl)
    n_Book_own_first := He.noat_ok (c.fact 78 (f := .noat "Book" "own_first") rfl)
    n_Book_own_roof := He.noat_ok (c.fact 79 (f := .noat "Book" "own_roof") rfl)
    n_Book_own_share := He.noat_ok (c.fact 80 (f := .noat "Book" "own_share") rfl)
    k_Pairs := He.mkr_ok (c.fact 81 (f := .mkr "Pairs") rfl)
    k_Room := He.mkr_ok (c.fact 82 (f := .mkr "Room") rfl)
    m_Room_runs := He.meth_ok (c.fact 83 (f := .meth "Room" "runs") rfl)
    m_Room_runs_from := He.meth_ok (c.fact 84 (f := .meth "Room" "runs_from") rfl)
    m_Room_bool := He.meth_ok (c.fact 85 (f := .meth "Room" "__bool__") rfl)
    m_Room_sub := He.meth_ok (c.fact 86 (f := .meth "Room" "__sub__") rfl)
    k_File := He.mkr_ok (c.fact 87 (f := .mkr "File") rfl)
    m_File_pieces := He.meth_ok (c.fact 88 (f := .meth "File" "pieces") rfl)
    m_File_put_behind := He.meth_ok (c.fact 89 (f := .meth "File" "put_behind") rfl)
    m_File_lose_all := He.meth_ok (c.fact 90 (f := .meth "File" "lose_all") rfl)
    k_Disk := He.mkr_ok (c.fact 91 (f := .mkr "Disk") rfl)
    m_Disk_names := He.meth_ok (c.fact 92 (f := .meth "Disk" "names") rfl)
    m_Disk_free := He.meth_ok (c.fact 93 (f := .meth "Disk" "free") rfl)
    m_Disk_contains := He.meth_ok (c.fact 94 (f := .meth "Disk" "__contains__") rfl)
    m_Disk_getitem := He.meth_ok (c.fact 95 (f := .meth "Disk" "__getitem__") rfl)
    m_Disk_make := He.meth_ok (c.fact 96 (f := .meth "Disk" "make") rfl)
    m_Disk_open_file := He.meth_ok (c.fact 97 (f := .meth "Disk" "open_file") rfl)
    m_Disk_grow := He.meth_ok (c.fact 98 (f := .meth "Disk" "grow") rfl)
    m_Disk_ones := He.meth_ok (c.fact 99 (f := .meth "Disk" "ones") rfl)
    m_Disk_written_behind := He.meth_ok (c.fact 100 (f := .meth "Disk" "written_behind") rfl)
    m_Disk_flush := He.meth_ok (c.fact 101 (f := .meth "Disk" "flush") rfl)
    m_Disk_close := He.meth_ok (c.fact 102 (f := .meth "Disk" "close") rfl)
    m_Disk_reopen := He.meth_ok (c.fact 103 (f := .meth "Disk" "reopen") rfl)
    m_Disk_delete := He.meth_ok (c.fact 104 (f := .meth "Disk" "delete") rfl)
    k_Book := He.mkr_ok (c.fact 105 (f := .mkr "Book") rfl)
    m_Book_given := He.meth_ok (c.fact 106 (f := .meth "Book" "given") rfl)
    m_Book_call := He.meth_ok (c.fact 107 (f := .meth "Book" "__call__") rfl)
    m_Book_twin := He.meth_ok (c.fact 108 (f := .meth "Book" "twin") rfl)
    p_is_integer := He.keep_ok (c.fact 109 (f := .keep "is_integer") rfl)
    p_check_integer := He.keep_ok (c.fact 110 (f := .keep "check_integer") rfl)
    p_is_name := He.keep_ok (c.fact 111 (f := .keep "is_name") rfl)
    p_is_enough := He.keep_ok (c.fact 112 (f := .keep "is_enough") rfl)
    p_first_enough := He.keep_ok (c.fact 113 (f := .keep "first_enough") rfl)
    p_best_enough := He.keep_ok (c.fact 114 (f := .keep "best_enough") rfl)
    p_place_by_rule := He.keep_ok (c.fact 115 (f := .keep "place_by_rule") rfl)
    p_placed := He.keep_ok (c.fact 116 (f := .keep "placed") rfl)
    p_is_run := He.keep_ok (c.fact 117 (f := .keep "is_run") rfl)
    p_end_of := He.keep_ok (c.fact 118 (f := .keep "end_of") rfl)
    p_is_before := He.keep_ok (c.fact 119 (f := .keep "is_before") rfl)
    p_joined := He.keep_ok (c.fact 120 (f := .keep "joined") rfl)
    p_shared := He.keep_ok (c.fact 121 (f := .keep "shared") rfl)
    p_others := He.keep_ok (c.fact 122 (f := .keep "others") rfl)
    p_runs_of := He.keep_ok (c.fact 123 (f := .keep "runs_of") rfl)
    p_pairs_of := He.keep_ok (c.fact 124 (f := .keep "pairs_of") rfl)
    p_room_of := He.keep_ok (c.fact 125 (f := .keep "room_of") rfl)
    p_check_disk := He.keep_ok (c.fact 126 (f := .keep "check_disk") rfl)
    p_is_share := He.keep_ok (c.fact 127 (f := .keep "is_share") rfl)
    p_part_of := He.keep_ok (c.fact 128 (f := .keep "part_of") rfl)
    p_check_parts := He.keep_ok (c.fact 129 (f := .keep "check_parts") rfl)
    p_law_hand := He.keep_ok (c.fact 130 (f := .keep "_law_hand") rfl)
    p_law_draw := He.keep_ok (c.fact 131 (f := .keep "_law_draw") rfl)
    p_law_made := He.keep_ok (c.fact 132 (f := .keep "_law_made") rfl)
    p_law_rules := He.keep_ok (c.fact 133 (f := .keep "_law_rules") rfl)
    p_law_small_book := He.keep_ok (c.fact 134 (f := .keep "_law_small_book") rfl)
    p_law_disk := He.keep_ok (c.fact 135 (f := .keep "_law_disk") rfl)
    p_law_alike := He.keep_ok (c.fact 136 (f := .keep "_law_alike") rfl)
    p_law_growths := He.keep_ok (c.fact 137 (f := .keep "_law_growths") rfl)
    p_law := He.keep_ok (c.fact 138 (f := .keep "law") rfl)
    x_first := e0
    x_item := e1
    x_call := e2
    x_rules := fun H => He.tupB_ok e3 H
    x_lp := of_decide_eq_true e4
    x_cl_Pairs := He.eqO_ok e5
    x_mro_Pairs := of_decide_eq_true e6
    x_cl_Room := He.eqO_ok e7
    x_mro_Room := of_decide_eq_true e8
    x_get := He.eqO_ok e9
    x_tk := of_decide_eq_true e
    f_is_integer := fun_of (c.def_ 0 (d := K36H.d_is_integer) rfl)
    f_check_integer := fun_of (c.def_ 1 (d := K36H.d_check_integer) rfl)
    f_is_name := fun_of (c.def_ 2 (d := K36H.d_is_name) rfl)
    f_is_enough := fun_of (c.def_ 3 (d := K36H.d_is_enough) rfl)
    f_first_enough := fun_of (c.def_ 4 (d := K36H.d_first_enough) rfl)
    f_best_enough := fun_of (c.def_ 5 (d := K36H.d_best_enough) rfl)
    f_place_by_rule := fun_of (c.def_ 6 (d := K36H.d_place_by_rule) rfl)
    f_placed := fun_of (c.def_ 7 (d := K36H.d_placed) rfl)
    f_is_run := fun_of (c.def_ 8 (d := K36H.d_is_run) rfl)
    f_end_of := fun_of (c.def_ 9 (d := K36H.d_end_of) rfl)
    f_is_before := fun_of (c.def_ 10 (d := K36H.d_is_before) rfl)
    f_joined := fun_of (c.def_ 11 (d := K36H.d_joined) rfl)
    f_shared := fun_of (c.def_ 12 (d := K36H.d_shared) rfl)
    f_others := fun_of (c.def_ 13 (d := K36H.d_others) rfl)
    f_runs_of := fun_of (c.def_ 14 (d := K36H.d_runs_of) rfl)
    f_pairs_of := fun_of (c.def_ 15 (d := K36H.d_pairs_of) rfl)
    f_room_of := fun_of (c.def_ 16 (d := K36H.d_room_of) rfl)
    f_check_disk := fun_of (c.def_ 17 (d := K36H.d_check_disk) rfl)
    f_is_share := fun_of (c.def_ 18 (d := K36H.d_is_share) rfl)
    f_part_of := fun_of (c.def_ 19 (d := K36H.d_part_of) rfl)
    f_check_parts := fun_of (c.def_ 20 (d := K36H.d_check_parts) rfl)
    f_law_hand := fun_of (c.def_ 21 (d := K36H.d_law_hand) rfl)
    f_law_draw := fun_of (c.def_ 22 (d := K36H.d_law_draw) rfl)
    f_law_made := fun_of (c.def_ 23 (d := K36H.d_law_made) rfl)
    f_law_rules := fun_of (c.def_ 24 (d := K36H.d_law_rules) rfl)
    f_law_small_book := fun_of (c.def_ 25 (d := K36H.d_law_small_book) rfl)
    f_law_disk := fun_of (c.def_ 26 (d := K36H.d_law_disk) rfl)
    f_law_alike := fun_of (c.def_ 27 (d := K36H.d_law_alike) rfl)
    f_law_growths := fun_of (c.def_ 28 (d := K36H.d_law_growths) rfl)
    f_law := fun_of (c.def_ 29 (d := K36H.d_law) rfl)
    f_Pairs_init := fun_of (c.def_ 30 (d := K36H.d_Pairs_init) rfl)
    f_Room_init := fun_of (c.def_ 31 (d := K36H.d_Room_init) rfl)
    f_Room_runs := fun_of (c.def_ 32 (d := K36H.d_Room_runs) rfl)
    f_Room_runs_from := fun_of (c.def_ 33 (d := K36H.d_Room_runs_from) rfl)
    f_Room_bool := fun_of (c.def_ 34 (d := K36H.d_Room_bool) rfl)
    f_Room_sub := fun_of (c.def_ 35 (d := K36H.d_Room_sub) rfl)
    f_File_init := fun_of (c.def_ 36 (d := K36H.d_File_init) rfl)
    f_File_pieces := fun_of (c.def_ 37 (d := K36H.d_File_pieces) rfl)
    f_File_put_behind := fun_of (c.def_ 38 (d := K36H.d_File_put_behind) rfl)
    f_File_lose_all := fun_of (c.def_ 39 (d := K36H.d_File_lose_all) rfl)
    f_Disk_init := fun_of (c.def_ 40 (d := K36H.d_Disk_init) rfl)
    f_Disk_names := fun_of (c.def_ 41 (d := K36H.d_Disk_names) rfl)
    f_Disk_free := fun_of (c.def_ 42 (d := K36H.d_Disk_free) rfl)
    f_Disk_contains := fun_of (c.def_ 43 (d := K36H.d_Disk_contains) rfl)
    f_Disk_getitem := fun_of (c.def_ 44 (d := K36H.d_Disk_getitem) rfl)
    f_Disk_make := fun_of (c.def_ 45 (d := K36H.d_Disk_make) rfl)
    f_Disk_open_file := fun_of (c.def_ 46 (d := K36H.d_Disk_open_file) rfl)
    f_Disk_grow := fun_of (c.def_ 47 (d := K36H.d_Disk_grow) rfl)
    f_Disk_ones := fun_of (c.def_ 48 (d := K36H.d_Disk_ones) rfl)
    f_Disk_written_behind := fun_of (c.def_ 49 (d := K36H.d_Disk_written_behind) rfl)
    f_Disk_flush := fun_of (c.def_ 50 (d := K36H.d_Disk_flush) rfl)
    f_Disk_close := fun_of (c.def_ 51 (d := K36H.d_Disk_close) rfl)
    f_Disk_reopen := fun_of (c.def_ 52 (d := K36H.d_Disk_reopen) rfl)
    f_Disk_delete := fun_of (c.def_ 53 (d := K36H.d_Disk_delete) rfl)
    f_Book_init := fun_of (c.def_ 54 (d := K36H.d_Book_init) rfl)
    f_Book_given := fun_of (c.def_ 55 (d := K36H.d_Book_given) rfl)
    f_Book_call := fun_of (c.def_ 56 (d := K36H.d_Book_call) rfl)
    f_Book_twin := fun_of (c.def_ 57 (d := K36H.d_Book_twin) rfl)
  }

theorem binds_law {K : PySem.W.Frag} {fd : FuncData} (F : FunD K "law" "law" (defArgs S_law) (defBody S_law) (defScope S_law) [] [] (He.ga K "law") fd) (s : Shared) (u : Value) : BindsTo s fd ⟨[u], []⟩ [("_law_script", u)] :=
  FunD.bindsA (ps := ["_law_script"]) F (fun _ _ _ _ _ _ us hl => match us, hl with | [_], _ => rfl) s [u] rfl
theorem law_at {w : World} {K : PySem.W.Frag} {h : Heap} {mg : Str → Option Value} {fa : Addr} (c : K36H.SaysK K h) (G : h.Ns mainGlobals mg) (hfa : mg ("law" : Str) = some (.ref fa)) :
    LamX.LawAtS PySem.Challenge.rw_grownfiles_k36_whole_late_givings w K CX0 13 63 "_law_script" mg fa h := by
  have X := c.in_
  obtain ⟨e1, e2⟩ := He.ba c.ex
  obtain ⟨e2, e3⟩ := He.ba e2
  have FX := fx_of X G c.says e3
  have ef : fa = He.ga K "law" := by
    have z := hfa.symm.trans FX.g_law
    cases z
    rfl
  subst ef
  obtain ⟨fd, FD⟩ := c.says.def_ 29 (d := K36H.d_law) rfl
  have bi : ∀ (s : Shared) (u : Value), BindsTo s fd ⟨[u], []⟩ [("_law_script", u)] := binds_law FD
  obtain ⟨oc, od, dV, kV, doc, pm, an, cdv, ct, osl, efd, lk, hcd, hD, _⟩ := FD.ex
  have Fl : Fun K "law" "law" S_law (He.ga K "law") fd := by
    rcases hD with ⟨_, rfl⟩ | ⟨e, _⟩
    · exact ⟨⟨oc, od, kV, doc, pm, an, cdv, ct, osl, efd, lk, hcd⟩, FD.kp⟩
    · exact absurd rfl e
  have nl : K.lookup (tJ K) = none := by
    cases q : K.lookup (tJ K) with
    | none => rfl
    | some o => rw [q] at e2; cases e2
  refine ⟨fd, [(cJ K, tJ K)], sp_law K, fun p hp => ?_, fun p hp => ?_, fun p hp => ?_, bi, fun H a ns hl _ hT hS => ?_, fun base hK hG hTB => ?_⟩
  · rw [List.mem_singleton.mp hp]
    exact c.tab
  · rw [List.mem_singleton.mp hp]
    exact nl
  · rw [List.mem_singleton.mp hp]
    exact PySem.W.codeHd_of_K X e1
  · refine ⟨a, ns, rfl, hS, by omega, fun p hp => ?_, fun _ => rfl⟩
    rw [List.mem_singleton.mp hp]
    exact LamX.TabS.nil (hT (cJ K, tJ K) List.mem_cons_self)
  · exact ok_law FX (hTB (cJ K, tJ K) List.mem_cons_self) Fl
end K36
open PySem PySem.W PySem.Calls PyProof.Rows
theorem PySem.Challenge.cw_grownfiles_k36_whole_late_givings_holds : PySem.Challenge.rw_grownfiles_k36_whole_late_givings.Holds := by
  w_on; o_law
  refine HandSHeadRun.head_any (r := OpenLaw.row PySem.Challenge.rw_grownfiles_k36_whole_late_givings) (q := K36H.qv) (H := K36H.hk) (ob := K36H.ob) (M := 20000) (loose := K36H.names) (d := HandSHeadRun.topDef (OpenLaw.row PySem.Challenge.rw_grownfiles_k36_whole_late_givings).prog 77) (kwd := []) K36H.ob_eq
    (by kernel_rfl) (fun s => by kernel_rfl) K36H.run (by kernel_rfl) (by kernel_rfl) (by kernel_rfl) (by rfl) (by first | assumption | decide +kernel) (by decide +kernel) ⟨rfl, rfl, rfl, rfl, rfl, by decide +kernel⟩ ?hw ?hc
  case hw => w_witness2
  case hc =>
    refine LamX.walk_ofTsE (l := PySem.Challenge.rw_grownfiles_k36_whole_late_givings) (n := 63) (k := 13) (x := "_law_script") (CX := fun _ => L2.CX0) rfl (by decide) (by kernel_rfl) ⟨rfl, by decide, by decide⟩ ?F (fun _ _ _ _ _ z => z)
    intro w mg fa h Y G hfa
    obtain ⟨K, c⟩ := Y
    have hmg : mg ("law" : PySem.Str) = some (.ref fa) := by
      have e : (HandSHeadRun.topDef (OpenLaw.row PySem.Challenge.rw_grownfiles_k36_whole_late_givings).prog 77).name = ("law" : PySem.Str) := by kernel_rfl
      rw [← e]
      exact hfa
    exact ⟨K, c.in_, K36.law_at c G hmg⟩
