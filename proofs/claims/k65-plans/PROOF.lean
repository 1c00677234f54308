import PyProof.Rows.All
import Wide.All
import OpenK.AllK
import Wide.FinOn
import HandS.ForMost
import HandS.Defaults
import HandS.MakeKw
import HandS.MakeKwOnly
import HandS.Property
import HandS.IsInst
import PySem.Challenge.RW_forkhaul_k65_whole_lines_roots_and_searc
import HandS.Head0
import HandS.Head1
import HandS.Head2
import HandS.HeadEnd
import HandS.HeadHook1
import HandS.HeadHook2
import HandS.HeadNt
import PyProof.Rows.StrIntSpec
import PyProof.FString3
import HandS.Base
import HandS.Call
import HandS.List
import KE.KStrBytes
import PyProof.InstNe
import KE.DataMinMax
import KE.SortData
import PyProof.AutoSeq1
import PyProof.DictUpdate
import HandS.Dict
import HandS.Walk
import HandS.More
import HandS.Conv
import HandS.TupAny
import HandS.DictComp
import HandS.Flow
import HandS.SetKeys
import HandS.FStr
import HandS.Text
import HandS.Bytes
import HandS.Set
import HandS.SetBool
import HandS.TupSets
import PyProof.WalksMore
import PyProof.EnumMake
import PyProof.Draws
import KE.GoesMore
import HandS.Iter
import PyProof.TupleOfSeq
import HandS.DictTup
import HandS.Strs
import PyProof.Rows.SeqMore
set_option Elab.async false
set_option linter.all false
set_option maxRecDepth 100000
set_option maxHeartbeats 200000
/-! K65Env: the text by places; what the top has written (printed by gen_env.py). -/
namespace K65
open PySem L2
def topS (i : Nat) : Stmt := PySem.Challenge.pw_forkhaul_k65_whole_lines_roots_and_searc.main.body.getD i (.Pass ⟨0, 0, 0, 0⟩)
abbrev s_is_whole : Stmt := topS 17
abbrev s_is_count : Stmt := topS 18
abbrev s_is_time : Stmt := topS 19
abbrev s_has_only : Stmt := topS 20
abbrev s_is_id : Stmt := topS 21
abbrev s_is_author : Stmt := topS 23
abbrev s_is_text : Stmt := topS 24
abbrev s_are_ids : Stmt := topS 25
abbrev s_check_set : Stmt := topS 28
abbrev s_parted : Stmt := topS 29
abbrev s_solve : Stmt := topS 30
abbrev s_planned : Stmt := topS 31
abbrev s_best : Stmt := topS 32
abbrev s_bounds : Stmt := topS 33
abbrev s_is_bound : Stmt := topS 34
abbrev s_holds : Stmt := topS 35
abbrev s_shows_best : Stmt := topS 36
abbrev s_are_parents : Stmt := topS 44
abbrev s_is_object : Stmt := topS 47
abbrev s_encode_tree : Stmt := topS 52
abbrev s_encode_commit : Stmt := topS 53
abbrev s_encode : Stmt := topS 54
abbrev s_sum_of : Stmt := topS 55
abbrev s_id_of : Stmt := topS 56
abbrev s_commit_of : Stmt := topS 58
abbrev s_L_draw : Stmt := topS 65
abbrev s_L_shuffled : Stmt := topS 66
abbrev s_L_history : Stmt := topS 67
abbrev s_L_reached : Stmt := topS 68
abbrev s_L_row : Stmt := topS 69
abbrev s_L_halvings : Stmt := topS 70
abbrev s_L_tests : Stmt := topS 71
abbrev s_L_led_by_next : Stmt := topS 72
abbrev s_L_line_right : Stmt := topS 73
abbrev s_L_right : Stmt := topS 74
abbrev s_law : Stmt := topS 75
abbrev s_Tree_DinitD : Stmt := inClass (topS 43) 0
abbrev s_Tree_entries : Stmt := inClass (topS 43) 1
abbrev s_Tree_DeqD : Stmt := inClass (topS 43) 2
abbrev s_Commit_DinitD : Stmt := inClass (topS 45) 0
abbrev s_Commit_tree : Stmt := inClass (topS 45) 1
abbrev s_Commit_parents : Stmt := inClass (topS 45) 2
abbrev s_Commit_author : Stmt := inClass (topS 45) 3
abbrev s_Commit_time : Stmt := inClass (topS 45) 4
abbrev s_Commit_message : Stmt := inClass (topS 45) 5
abbrev s_Commit_DeqD : Stmt := inClass (topS 45) 6
abbrev s_History_DinitD : Stmt := inClass (topS 59) 0
abbrev s_History_check_names : Stmt := inClass (topS 59) 3
abbrev s_History_below : Stmt := inClass (topS 59) 5
abbrev s_History_searched : Stmt := inClass (topS 59) 6
abbrev s_Search_DinitD : Stmt := inClass (topS 61) 0
abbrev s_Search_marked : Stmt := inClass (topS 61) 1
abbrev s_Search_mark : Stmt := inClass (topS 61) 2
abbrev s_Search_bad : Stmt := inClass (topS 61) 3
abbrev s_Search_good : Stmt := inClass (topS 61) 4
abbrev s_Search_candidates : Stmt := inClass (topS 61) 7
abbrev s_Search_next : Stmt := inClass (topS 61) 8
abbrev s_Search_found : Stmt := inClass (topS 61) 9
abbrev s_Store_DinitD : Stmt := inClass (topS 63) 0
abbrev s_Store_put : Stmt := inClass (topS 63) 1
abbrev s_Store_DcontainsD : Stmt := inClass (topS 63) 2
abbrev s_Store_DgetitemD : Stmt := inClass (topS 63) 3
/-- what the top has written -/
structure W (K : PySem.W.Frag) (mg : Str → Option Value) where
  CBlob : Addr
  gCBlob : mg "Blob" = some (.ref CBlob)
  CTree : Addr
  gCTree : mg "Tree" = some (.ref CTree)
  clTree : Cls K CTree
  CCommit : Addr
  gCCommit : mg "Commit" = some (.ref CCommit)
  clCommit : Cls K CCommit
  CTag : Addr
  gCTag : mg "Tag" = some (.ref CTag)
  CHistory : Addr
  gCHistory : mg "History" = some (.ref CHistory)
  clHistory : Cls K CHistory
  CSearch : Addr
  gCSearch : mg "Search" = some (.ref CSearch)
  clSearch : Cls K CSearch
  CStore : Addr
  gCStore : mg "Store" = some (.ref CStore)
  clStore : Cls K CStore
  nTree_held : NoAttr K CTree "held"
  nCommit_held : NoAttr K CCommit "held"
  nHistory_held : NoAttr K CHistory "held"
  nHistory_ends : NoAttr K CHistory "ends"
  nHistory_known : NoAttr K CHistory "known"
  nHistory_depths : NoAttr K CHistory "depths"
  nSearch_past : NoAttr K CSearch "past"
  nSearch_marks : NoAttr K CSearch "marks"
  nStore_short : NoAttr K CStore "short"
  nStore_kept : NoAttr K CStore "kept"
  a_is_whole : Addr
  d_is_whole : FuncData
  F_is_whole : Fun K "is_whole" "is_whole" s_is_whole a_is_whole d_is_whole
  g_is_whole : mg "is_whole" = some (.ref a_is_whole)
  a_is_count : Addr
  d_is_count : FuncData
  F_is_count : FunD K "is_count" "is_count" (defArgs s_is_count) (defBody s_is_count) (defScope s_is_count) [.int 0] [] a_is_count d_is_count
  g_is_count : mg "is_count" = some (.ref a_is_count)
  a_is_time : Addr
  d_is_time : FuncData
  F_is_time : Fun K "is_time" "is_time" s_is_time a_is_time d_is_time
  g_is_time : mg "is_time" = some (.ref a_is_time)
  a_has_only : Addr
  d_has_only : FuncData
  F_has_only : Fun K "has_only" "has_only" s_has_only a_has_only d_has_only
  g_has_only : mg "has_only" = some (.ref a_has_only)
  a_is_id : Addr
  d_is_id : FuncData
  F_is_id : Fun K "is_id" "is_id" s_is_id a_is_id d_is_id
  g_is_id : mg "is_id" = some (.ref a_is_id)
  a_is_author : Addr
  d_is_author : FuncData
  F_is_author : Fun K "is_author" "is_author" s_is_author a_is_author d_is_author
  g_is_author : mg "is_author" = some (.ref a_is_author)
  a_is_text : Addr
  d_is_text : FuncData
  F_is_text : FunD K "is_text" "is_text" (defArgs s_is_text) (defBody s_is_text) (defScope s_is_text) [.int 2000] [] a_is_text d_is_text
  g_is_text : mg "is_text" = some (.ref a_is_text)
  a_are_ids : Addr
  d_are_ids : FuncData
  F_are_ids : Fun K "are_ids" "are_ids" s_are_ids a_are_ids d_are_ids
  g_are_ids : mg "are_ids" = some (.ref a_are_ids)
  a_check_set : Addr
  d_check_set : FuncData
  F_check_set : Fun K "check_set" "check_set" s_check_set a_check_set d_check_set
  g_check_set : mg "check_set" = some (.ref a_check_set)
  a_parted : Addr
  d_parted : FuncData
  F_parted : Fun K "parted" "parted" s_parted a_parted d_parted
  g_parted : mg "parted" = some (.ref a_parted)
  a_solve : Addr
  d_solve : FuncData
  F_solve : Fun K "solve" "solve" s_solve a_solve d_solve
  g_solve : mg "solve" = some (.ref a_solve)
  a_planned : Addr
  d_planned : FuncData
  F_planned : Fun K "planned" "planned" s_planned a_planned d_planned
  g_planned : mg "planned" = some (.ref a_planned)
  a_best : Addr
  d_best : FuncData
  F_best : Fun K "best" "best" s_best a_best d_best
  g_best : mg "best" = some (.ref a_best)
  a_bounds : Addr
  d_bounds : FuncData
  F_bounds : Fun K "bounds" "bounds" s_bounds a_bounds d_bounds
  g_bounds : mg "bounds" = some (.ref a_bounds)
  a_is_bound : Addr
  d_is_bound : FuncData
  F_is_bound : Fun K "is_bound" "is_bound" s_is_bound a_is_bound d_is_bound
  g_is_bound : mg "is_bound" = some (.ref a_is_bound)
  a_holds : Addr
  d_holds : FuncData
  F_holds : Fun K "holds" "holds" s_holds a_holds d_holds
  g_holds : mg "holds" = some (.ref a_holds)
  a_shows_best : Addr
  d_shows_best : FuncData
  F_shows_best : Fun K "shows_best" "shows_best" s_shows_best a_shows_best d_shows_best
  g_shows_best : mg "shows_best" = some (.ref a_shows_best)
  a_are_parents : Addr
  d_are_parents : FuncData
  F_are_parents : Fun K "are_parents" "are_parents" s_are_parents a_are_parents d_are_parents
  g_are_parents : mg "are_parents" = some (.ref a_are_parents)
  a_is_object : Addr
  d_is_object : FuncData
  F_is_object : Fun K "is_object" "is_object" s_is_object a_is_object d_is_object
  g_is_object : mg "is_object" = some (.ref a_is_object)
  a_encode_tree : Addr
  d_encode_tree : FuncData
  F_encode_tree : Fun K "encode_tree" "encode_tree" s_encode_tree a_encode_tree d_encode_tree
  g_encode_tree : mg "encode_tree" = some (.ref a_encode_tree)
  a_encode_commit : Addr
  d_encode_commit : FuncData
  F_encode_commit : Fun K "encode_commit" "encode_commit" s_encode_commit a_encode_commit d_encode_commit
  g_encode_commit : mg "encode_commit" = some (.ref a_encode_commit)
  a_encode : Addr
  d_encode : FuncData
  F_encode : Fun K "encode" "encode" s_encode a_encode d_encode
  g_encode : mg "encode" = some (.ref a_encode)
  a_sum_of : Addr
  d_sum_of : FuncData
  F_sum_of : FunD K "sum_of" "sum_of" (defArgs s_sum_of) (defBody s_sum_of) (defScope s_sum_of) [] [("short", .bl false)] a_sum_of d_sum_of
  g_sum_of : mg "sum_of" = some (.ref a_sum_of)
  a_id_of : Addr
  d_id_of : FuncData
  F_id_of : FunD K "id_of" "id_of" (defArgs s_id_of) (defBody s_id_of) (defScope s_id_of) [] [("short", .bl false)] a_id_of d_id_of
  g_id_of : mg "id_of" = some (.ref a_id_of)
  a_commit_of : Addr
  d_commit_of : FuncData
  F_commit_of : Fun K "commit_of" "commit_of" s_commit_of a_commit_of d_commit_of
  g_commit_of : mg "commit_of" = some (.ref a_commit_of)
  a_L_draw : Addr
  d_L_draw : FuncData
  F_L_draw : Fun K "_law_draw" "_law_draw" s_L_draw a_L_draw d_L_draw
  g_L_draw : mg "_law_draw" = some (.ref a_L_draw)
  a_L_shuffled : Addr
  d_L_shuffled : FuncData
  F_L_shuffled : Fun K "_law_shuffled" "_law_shuffled" s_L_shuffled a_L_shuffled d_L_shuffled
  g_L_shuffled : mg "_law_shuffled" = some (.ref a_L_shuffled)
  a_L_history : Addr
  d_L_history : FuncData
  F_L_history : Fun K "_law_history" "_law_history" s_L_history a_L_history d_L_history
  g_L_history : mg "_law_history" = some (.ref a_L_history)
  a_L_reached : Addr
  d_L_reached : FuncData
  F_L_reached : Fun K "_law_reached" "_law_reached" s_L_reached a_L_reached d_L_reached
  g_L_reached : mg "_law_reached" = some (.ref a_L_reached)
  a_L_row : Addr
  d_L_row : FuncData
  F_L_row : Fun K "_law_row" "_law_row" s_L_row a_L_row d_L_row
  g_L_row : mg "_law_row" = some (.ref a_L_row)
  a_L_halvings : Addr
  d_L_halvings : FuncData
  F_L_halvings : Fun K "_law_halvings" "_law_halvings" s_L_halvings a_L_halvings d_L_halvings
  g_L_halvings : mg "_law_halvings" = some (.ref a_L_halvings)
  a_L_tests : Addr
  d_L_tests : FuncData
  F_L_tests : Fun K "_law_tests" "_law_tests" s_L_tests a_L_tests d_L_tests
  g_L_tests : mg "_law_tests" = some (.ref a_L_tests)
  a_L_led_by_next : Addr
  d_L_led_by_next : FuncData
  F_L_led_by_next : Fun K "_law_led_by_next" "_law_led_by_next" s_L_led_by_next a_L_led_by_next d_L_led_by_next
  g_L_led_by_next : mg "_law_led_by_next" = some (.ref a_L_led_by_next)
  a_L_line_right : Addr
  d_L_line_right : FuncData
  F_L_line_right : Fun K "_law_line_right" "_law_line_right" s_L_line_right a_L_line_right d_L_line_right
  g_L_line_right : mg "_law_line_right" = some (.ref a_L_line_right)
  a_L_right : Addr
  d_L_right : FuncData
  F_L_right : Fun K "_law_right" "_law_right" s_L_right a_L_right d_L_right
  g_L_right : mg "_law_right" = some (.ref a_L_right)
  a_law : Addr
  d_law : FuncData
  F_law : Fun K "law" "law" s_law a_law d_law
  g_law : mg "law" = some (.ref a_law)
  a_Tree_DinitD : Addr
  d_Tree_DinitD : FuncData
  F_Tree_DinitD : Fun K "__init__" "Tree.__init__" s_Tree_DinitD a_Tree_DinitD d_Tree_DinitD
  k_Tree : Mk K CTree a_Tree_DinitD
  a_Tree_entries : Addr
  d_Tree_entries : FuncData
  F_Tree_entries : Fun K "entries" "Tree.entries" s_Tree_entries a_Tree_entries d_Tree_entries
  p_Tree_entries : Addr
  P_Tree_entries : PropOf K CTree "entries" p_Tree_entries a_Tree_entries
  a_Tree_DeqD : Addr
  d_Tree_DeqD : FuncData
  F_Tree_DeqD : Fun K "__eq__" "Tree.__eq__" s_Tree_DeqD a_Tree_DeqD d_Tree_DeqD
  m_Tree_DeqD : Meth K CTree "__eq__" a_Tree_DeqD
  a_Commit_DinitD : Addr
  d_Commit_DinitD : FuncData
  t_Commit_DinitD_0 : Addr
  ht_Commit_DinitD_0 : SqT K (fun _ => none) t_Commit_DinitD_0 []
  F_Commit_DinitD : FunD K "__init__" "Commit.__init__" (defArgs s_Commit_DinitD) (defBody s_Commit_DinitD) (defScope s_Commit_DinitD) [.ref t_Commit_DinitD_0] [("message", .str "")] a_Commit_DinitD d_Commit_DinitD
  k_Commit : Mk K CCommit a_Commit_DinitD
  a_Commit_tree : Addr
  d_Commit_tree : FuncData
  F_Commit_tree : Fun K "tree" "Commit.tree" s_Commit_tree a_Commit_tree d_Commit_tree
  p_Commit_tree : Addr
  P_Commit_tree : PropOf K CCommit "tree" p_Commit_tree a_Commit_tree
  a_Commit_parents : Addr
  d_Commit_parents : FuncData
  F_Commit_parents : Fun K "parents" "Commit.parents" s_Commit_parents a_Commit_parents d_Commit_parents
  p_Commit_parents : Addr
  P_Commit_parents : PropOf K CCommit "parents" p_Commit_parents a_Commit_parents
  a_Commit_author : Addr
  d_Commit_author : FuncData
  F_Commit_author : Fun K "author" "Commit.author" s_Commit_author a_Commit_author d_Commit_author
  p_Commit_author : Addr
  P_Commit_author : PropOf K CCommit "author" p_Commit_author a_Commit_author
  a_Commit_time : Addr
  d_Commit_time : FuncData
  F_Commit_time : Fun K "time" "Commit.time" s_Commit_time a_Commit_time d_Commit_time
  p_Commit_time : Addr
  P_Commit_time : PropOf K CCommit "time" p_Commit_time a_Commit_time
  a_Commit_message : Addr
  d_Commit_message : FuncData
  F_Commit_message : Fun K "message" "Commit.message" s_Commit_message a_Commit_message d_Commit_message
  p_Commit_message : Addr
  P_Commit_message : PropOf K CCommit "message" p_Commit_message a_Commit_message
  a_Commit_DeqD : Addr
  d_Commit_DeqD : FuncData
  F_Commit_DeqD : Fun K "__eq__" "Commit.__eq__" s_Commit_DeqD a_Commit_DeqD d_Commit_DeqD
  m_Commit_DeqD : Meth K CCommit "__eq__" a_Commit_DeqD
  a_History_DinitD : Addr
  d_History_DinitD : FuncData
  t_History_DinitD_cut : Addr
  ht_History_DinitD_cut : SqT K (fun _ => none) t_History_DinitD_cut []
  F_History_DinitD : FunD K "__init__" "History.__init__" (defArgs s_History_DinitD) (defBody s_History_DinitD) (defScope s_History_DinitD) [] [("cut", .ref t_History_DinitD_cut)] a_History_DinitD d_History_DinitD
  k_History : Mk K CHistory a_History_DinitD
  a_History_check_names : Addr
  d_History_check_names : FuncData
  F_History_check_names : Fun K "check_names" "History.check_names" s_History_check_names a_History_check_names d_History_check_names
  m_History_check_names : Meth K CHistory "check_names" a_History_check_names
  a_History_below : Addr
  d_History_below : FuncData
  F_History_below : Fun K "below" "History.below" s_History_below a_History_below d_History_below
  m_History_below : Meth K CHistory "below" a_History_below
  a_History_searched : Addr
  d_History_searched : FuncData
  F_History_searched : Fun K "searched" "History.searched" s_History_searched a_History_searched d_History_searched
  m_History_searched : Meth K CHistory "searched" a_History_searched
  a_Search_DinitD : Addr
  d_Search_DinitD : FuncData
  F_Search_DinitD : Fun K "__init__" "Search.__init__" s_Search_DinitD a_Search_DinitD d_Search_DinitD
  k_Search : Mk K CSearch a_Search_DinitD
  a_Search_marked : Addr
  d_Search_marked : FuncData
  F_Search_marked : Fun K "marked" "Search.marked" s_Search_marked a_Search_marked d_Search_marked
  m_Search_marked : Meth K CSearch "marked" a_Search_marked
  a_Search_mark : Addr
  d_Search_mark : FuncData
  F_Search_mark : Fun K "mark" "Search.mark" s_Search_mark a_Search_mark d_Search_mark
  m_Search_mark : Meth K CSearch "mark" a_Search_mark
  a_Search_bad : Addr
  d_Search_bad : FuncData
  F_Search_bad : Fun K "bad" "Search.bad" s_Search_bad a_Search_bad d_Search_bad
  m_Search_bad : Meth K CSearch "bad" a_Search_bad
  a_Search_good : Addr
  d_Search_good : FuncData
  F_Search_good : Fun K "good" "Search.good" s_Search_good a_Search_good d_Search_good
  m_Search_good : Meth K CSearch "good" a_Search_good
  a_Search_candidates : Addr
  d_Search_candidates : FuncData
  F_Search_candidates : Fun K "candidates" "Search.candidates" s_Search_candidates a_Search_candidates d_Search_candidates
  m_Search_candidates : Meth K CSearch "candidates" a_Search_candidates
  a_Search_next : Addr
  d_Search_next : FuncData
  F_Search_next : Fun K "next" "Search.next" s_Search_next a_Search_next d_Search_next
  m_Search_next : Meth K CSearch "next" a_Search_next
  a_Search_found : Addr
  d_Search_found : FuncData
  F_Search_found : Fun K "found" "Search.found" s_Search_found a_Search_found d_Search_found
  m_Search_found : Meth K CSearch "found" a_Search_found
  a_Store_DinitD : Addr
  d_Store_DinitD : FuncData
  F_Store_DinitD : FunD K "__init__" "Store.__init__" (defArgs s_Store_DinitD) (defBody s_Store_DinitD) (defScope s_Store_DinitD) [] [("short", .bl false)] a_Store_DinitD d_Store_DinitD
  k_Store : Mk K CStore a_Store_DinitD
  a_Store_put : Addr
  d_Store_put : FuncData
  F_Store_put : Fun K "put" "Store.put" s_Store_put a_Store_put d_Store_put
  m_Store_put : Meth K CStore "put" a_Store_put
  a_Store_DcontainsD : Addr
  d_Store_DcontainsD : FuncData
  F_Store_DcontainsD : Fun K "__contains__" "Store.__contains__" s_Store_DcontainsD a_Store_DcontainsD d_Store_DcontainsD
  m_Store_DcontainsD : Meth K CStore "__contains__" a_Store_DcontainsD
  a_Store_DgetitemD : Addr
  d_Store_DgetitemD : FuncData
  F_Store_DgetitemD : Fun K "__getitem__" "Store.__getitem__" s_Store_DgetitemD a_Store_DgetitemD d_Store_DgetitemD
  m_Store_DgetitemD : Meth K CStore "__getitem__" a_Store_DgetitemD
  v_SMALL : ∃ t, mg "SMALL" = some (.str "abcdefghijklmnopqrstuvwxyz" t)
  v_HEX : ∃ t, mg "HEX" = some (.str "0123456789abcdef" t)
  v_ID_LENGTH : ∃ t, mg "ID_LENGTH" = some (.int 16 t)
  v_MOST_SEGMENT : ∃ t, mg "MOST_SEGMENT" = some (.int 12 t)
  v_MOST_TEXT : ∃ t, mg "MOST_TEXT" = some (.int 2000 t)
  v_MOST_MESSAGE : ∃ t, mg "MOST_MESSAGE" = some (.int 200 t)
  v_MOST_TIME : ∃ t, mg "MOST_TIME" = some (.int 1000000000000 t)
  v_MOST : ∃ t, mg "MOST" = some (.int 12 t)
  v_MOST_ENTRIES : ∃ t, mg "MOST_ENTRIES" = some (.int 30 t)
  v_MOST_PARENTS : ∃ t, mg "MOST_PARENTS" = some (.int 6 t)
  v_LONG : ∃ t, mg "LONG" = some (.int 2305843009213693951 t)
  v_SHORT : ∃ t, mg "SHORT" = some (.int 251 t)
  v_FACTOR : ∃ t, mg "FACTOR" = some (.int 1000003 t)
  z_isinstance : mg "isinstance" = none
  z_int : mg "int" = none
  z_bool : mg "bool" = none
  z_len : mg "len" = none
  z_all : mg "all" = none
  z_any : mg "any" = none
  z_min : mg "min" = none
  z_max : mg "max" = none
  z_sorted : mg "sorted" = none
  z_tuple : mg "tuple" = none
  z_list : mg "list" = none
  z_set : mg "set" = none
  z_dict : mg "dict" = none
  z_str : mg "str" = none
  z_bytes : mg "bytes" = none
  z_range : mg "range" = none
  z_enumerate : mg "enumerate" = none
  fnGet : PySem.W.fnIn K a_Store_DgetitemD = true
  neTree : PySem.W.findIn K (.ref CTree) "__ne__" = some (some (.builtin "object.__ne__"))
  obTree : PySem.W.mroIn K CTree (.type "object") = some true
  ccTree : PySem.W.findIn K (.ref CTree) "__class__" = some (some (.builtin "object.__class__"))
  neCommit : PySem.W.findIn K (.ref CCommit) "__ne__" = some (some (.builtin "object.__ne__"))
  obCommit : PySem.W.mroIn K CCommit (.type "object") = some true
  ccCommit : PySem.W.findIn K (.ref CCommit) "__class__" = some (some (.builtin "object.__class__"))
  ccG : PySem.W.specialIn K (.builtin "object.__class__") "__get__" = some (some (.builtin "getset_descriptor.__get__"))
  ccT : PySem.W.takesIn K (.builtin "object.__class__") = some true
  iTreeBlob : PySem.W.kitOne K (.ref CTree) (.ref CBlob) = some false
  iTreeTree : PySem.W.kitOne K (.ref CTree) (.ref CTree) = some true
  iCommitBlob : PySem.W.kitOne K (.ref CCommit) (.ref CBlob) = some false
  iCommitTree : PySem.W.kitOne K (.ref CCommit) (.ref CTree) = some false
  iCommitCommit : PySem.W.kitOne K (.ref CCommit) (.ref CCommit) = some true
end K65

set_option maxHeartbeats 0
/-! K65HeadA: what the top leaves, by names (printed by gen_head.py). -/
namespace K65
open PySem L2
def tup0B (K : PySem.W.Frag) (a : Addr) : Bool := match K.lookup a with
  | some ⟨.type c, _, .seq its _, _⟩ => decide (c = "tuple") && decide (its.size = 0)
  | _ => false
theorem tup0_ok {K : PySem.W.Frag} {a : Addr} (h : tup0B K a = true) : SqT K (fun _ => none) a [] := by
  unfold tup0B at h
  split at h
  · rename_i c d its n sl e
    obtain ⟨h1, h2⟩ := He.ba h
    have z : its = #[] := Array.eq_empty_of_size_eq_zero (of_decide_eq_true h2)
    subst z
    exact .inr ⟨_, _, n, e, congrArg Value.type (of_decide_eq_true h1), rfl, Nat.zero_le _, .nil⟩
  · cases h
def propB (K : PySem.W.Frag) (C : Addr) (m : Str) : Bool := He.eqO (PySem.W.findIn K (.ref C) m) (some (some (.ref (He.ma K C m)))) && (He.eqO (PySem.W.specialIn K (.ref (He.ma K C m)) "__get__") (some (some (.builtin "property.__get__"))) &&
  (decide (PySem.W.takesIn K (.ref (He.ma K C m)) = some true) && (match PySem.W.recIn K (He.ma K C m) "property" with
    | some (.ref _ :: _) => true
    | _ => false)))
theorem prop_ok {K : PySem.W.Frag} {C : Addr} {m : Str} (h : propB K C m = true) : PropOf K C m (He.ma K C m) (He5.wf K C "property" m) := by
  obtain ⟨h1, h⟩ := He.ba h
  obtain ⟨h2, h⟩ := He.ba h
  obtain ⟨h3, h4⟩ := He.ba h
  refine ⟨He.eqO_ok h1, He.eqO_ok h2, of_decide_eq_true h3, ?_⟩
  unfold He5.wf
  split at h4
  · rename_i f r e
    exact ⟨r, by rw [e]⟩
  · cases h4
def kwAt (f : PySem.W.Frag → Addr) (x : Str) (K : PySem.W.Frag) : Addr := match K.lookup (f K) with
  | some ⟨_, _, .func fd, _⟩ => (match fd.kwdefaults with
    | .ref D => (match PySem.W.nsIn K D x with
      | some (some (.ref a)) => a
      | _ => 0)
    | _ => 0)
  | _ => 0
abbrev D_is_whole : He5.DefA := ⟨fun K => He.ga K "is_whole", "is_whole", "is_whole", defArgs s_is_whole, defBody s_is_whole, defScope s_is_whole, [], []⟩
abbrev D_is_count : He5.DefA := ⟨fun K => He.ga K "is_count", "is_count", "is_count", defArgs s_is_count, defBody s_is_count, defScope s_is_count, [.int 0], []⟩
abbrev D_is_time : He5.DefA := ⟨fun K => He.ga K "is_time", "is_time", "is_time", defArgs s_is_time, defBody s_is_time, defScope s_is_time, [], []⟩
abbrev D_has_only : He5.DefA := ⟨fun K => He.ga K "has_only", "has_only", "has_only", defArgs s_has_only, defBody s_has_only, defScope s_has_only, [], []⟩
abbrev D_is_id : He5.DefA := ⟨fun K => He.ga K "is_id", "is_id", "is_id", defArgs s_is_id, defBody s_is_id, defScope s_is_id, [], []⟩
abbrev D_is_author : He5.DefA := ⟨fun K => He.ga K "is_author", "is_author", "is_author", defArgs s_is_author, defBody s_is_author, defScope s_is_author, [], []⟩
abbrev D_is_text : He5.DefA := ⟨fun K => He.ga K "is_text", "is_text", "is_text", defArgs s_is_text, defBody s_is_text, defScope s_is_text, [.int 2000], []⟩
abbrev D_are_ids : He5.DefA := ⟨fun K => He.ga K "are_ids", "are_ids", "are_ids", defArgs s_are_ids, defBody s_are_ids, defScope s_are_ids, [], []⟩
abbrev D_check_set : He5.DefA := ⟨fun K => He.ga K "check_set", "check_set", "check_set", defArgs s_check_set, defBody s_check_set, defScope s_check_set, [], []⟩
abbrev D_parted : He5.DefA := ⟨fun K => He.ga K "parted", "parted", "parted", defArgs s_parted, defBody s_parted, defScope s_parted, [], []⟩
abbrev D_solve : He5.DefA := ⟨fun K => He.ga K "solve", "solve", "solve", defArgs s_solve, defBody s_solve, defScope s_solve, [], []⟩
abbrev D_planned : He5.DefA := ⟨fun K => He.ga K "planned", "planned", "planned", defArgs s_planned, defBody s_planned, defScope s_planned, [], []⟩
abbrev D_best : He5.DefA := ⟨fun K => He.ga K "best", "best", "best", defArgs s_best, defBody s_best, defScope s_best, [], []⟩
abbrev D_bounds : He5.DefA := ⟨fun K => He.ga K "bounds", "bounds", "bounds", defArgs s_bounds, defBody s_bounds, defScope s_bounds, [], []⟩
abbrev D_is_bound : He5.DefA := ⟨fun K => He.ga K "is_bound", "is_bound", "is_bound", defArgs s_is_bound, defBody s_is_bound, defScope s_is_bound, [], []⟩
abbrev D_holds : He5.DefA := ⟨fun K => He.ga K "holds", "holds", "holds", defArgs s_holds, defBody s_holds, defScope s_holds, [], []⟩
abbrev D_shows_best : He5.DefA := ⟨fun K => He.ga K "shows_best", "shows_best", "shows_best", defArgs s_shows_best, defBody s_shows_best, defScope s_shows_best, [], []⟩
abbrev D_are_parents : He5.DefA := ⟨fun K => He.ga K "are_parents", "are_parents", "are_parents", defArgs s_are_parents, defBody s_are_parents, defScope s_are_parents, [], []⟩
abbrev D_is_object : He5.DefA := ⟨fun K => He.ga K "is_object", "is_object", "is_object", defArgs s_is_object, defBody s_is_object, defScope s_is_object, [], []⟩
abbrev D_encode_tree : He5.DefA := ⟨fun K => He.ga K "encode_tree", "encode_tree", "encode_tree", defArgs s_encode_tree, defBody s_encode_tree, defScope s_encode_tree, [], []⟩
abbrev D_encode_commit : He5.DefA := ⟨fun K => He.ga K "encode_commit", "encode_commit", "encode_commit", defArgs s_encode_commit, defBody s_encode_commit, defScope s_encode_commit, [], []⟩
abbrev D_encode : He5.DefA := ⟨fun K => He.ga K "encode", "encode", "encode", defArgs s_encode, defBody s_encode, defScope s_encode, [], []⟩
abbrev D_sum_of : He5.DefA := ⟨fun K => He.ga K "sum_of", "sum_of", "sum_of", defArgs s_sum_of, defBody s_sum_of, defScope s_sum_of, [], [("short", .bl false)]⟩
abbrev D_id_of : He5.DefA := ⟨fun K => He.ga K "id_of", "id_of", "id_of", defArgs s_id_of, defBody s_id_of, defScope s_id_of, [], [("short", .bl false)]⟩
abbrev D_commit_of : He5.DefA := ⟨fun K => He.ga K "commit_of", "commit_of", "commit_of", defArgs s_commit_of, defBody s_commit_of, defScope s_commit_of, [], []⟩
abbrev D_L_draw : He5.DefA := ⟨fun K => He.ga K "_law_draw", "_law_draw", "_law_draw", defArgs s_L_draw, defBody s_L_draw, defScope s_L_draw, [], []⟩
abbrev D_L_shuffled : He5.DefA := ⟨fun K => He.ga K "_law_shuffled", "_law_shuffled", "_law_shuffled", defArgs s_L_shuffled, defBody s_L_shuffled, defScope s_L_shuffled, [], []⟩
abbrev D_L_history : He5.DefA := ⟨fun K => He.ga K "_law_history", "_law_history", "_law_history", defArgs s_L_history, defBody s_L_history, defScope s_L_history, [], []⟩
abbrev D_L_reached : He5.DefA := ⟨fun K => He.ga K "_law_reached", "_law_reached", "_law_reached", defArgs s_L_reached, defBody s_L_reached, defScope s_L_reached, [], []⟩
abbrev D_L_row : He5.DefA := ⟨fun K => He.ga K "_law_row", "_law_row", "_law_row", defArgs s_L_row, defBody s_L_row, defScope s_L_row, [], []⟩
abbrev D_L_halvings : He5.DefA := ⟨fun K => He.ga K "_law_halvings", "_law_halvings", "_law_halvings", defArgs s_L_halvings, defBody s_L_halvings, defScope s_L_halvings, [], []⟩
abbrev D_L_tests : He5.DefA := ⟨fun K => He.ga K "_law_tests", "_law_tests", "_law_tests", defArgs s_L_tests, defBody s_L_tests, defScope s_L_tests, [], []⟩
abbrev D_L_led_by_next : He5.DefA := ⟨fun K => He.ga K "_law_led_by_next", "_law_led_by_next", "_law_led_by_next", defArgs s_L_led_by_next, defBody s_L_led_by_next, defScope s_L_led_by_next, [], []⟩
abbrev D_L_line_right : He5.DefA := ⟨fun K => He.ga K "_law_line_right", "_law_line_right", "_law_line_right", defArgs s_L_line_right, defBody s_L_line_right, defScope s_L_line_right, [], []⟩
abbrev D_L_right : He5.DefA := ⟨fun K => He.ga K "_law_right", "_law_right", "_law_right", defArgs s_L_right, defBody s_L_right, defScope s_L_right, [], []⟩
abbrev D_law : He5.DefA := ⟨fun K => He.ga K "law", "law", "law", defArgs s_law, defBody s_law, defScope s_law, [], []⟩
abbrev D_Tree_DinitD : He5.DefA := ⟨fun K => He.ma K (He.ga K "Tree") "__init__", "__init__", "Tree.__init__", defArgs s_Tree_DinitD, defBody s_Tree_DinitD, defScope s_Tree_DinitD, [], []⟩
abbrev D_Tree_entries : He5.DefA := ⟨fun K => He5.wf K (He.ga K "Tree") "property" "entries", "entries", "Tree.entries", defArgs s_Tree_entries, defBody s_Tree_entries, defScope s_Tree_entries, [], []⟩
abbrev D_Tree_DeqD : He5.DefA := ⟨fun K => He.ma K (He.ga K "Tree") "__eq__", "__eq__", "Tree.__eq__", defArgs s_Tree_DeqD, defBody s_Tree_DeqD, defScope s_Tree_DeqD, [], []⟩
abbrev D_Commit_DinitD : He5.DefA := ⟨fun K => He.ma K (He.ga K "Commit") "__init__", "__init__", "Commit.__init__", defArgs s_Commit_DinitD, defBody s_Commit_DinitD, defScope s_Commit_DinitD, [.adr (He.dflAt ("Commit", some "__init__") 0)], [("message", .str "")]⟩
abbrev D_Commit_tree : He5.DefA := ⟨fun K => He5.wf K (He.ga K "Commit") "property" "tree", "tree", "Commit.tree", defArgs s_Commit_tree, defBody s_Commit_tree, defScope s_Commit_tree, [], []⟩
abbrev D_Commit_parents : He5.DefA := ⟨fun K => He5.wf K (He.ga K "Commit") "property" "parents", "parents", "Commit.parents", defArgs s_Commit_parents, defBody s_Commit_parents, defScope s_Commit_parents, [], []⟩
abbrev D_Commit_author : He5.DefA := ⟨fun K => He5.wf K (He.ga K "Commit") "property" "author", "author", "Commit.author", defArgs s_Commit_author, defBody s_Commit_author, defScope s_Commit_author, [], []⟩
abbrev D_Commit_time : He5.DefA := ⟨fun K => He5.wf K (He.ga K "Commit") "property" "time", "time", "Commit.time", defArgs s_Commit_time, defBody s_Commit_time, defScope s_Commit_time, [], []⟩
abbrev D_Commit_message : He5.DefA := ⟨fun K => He5.wf K (He.ga K "Commit") "property" "message", "message", "Commit.message", defArgs s_Commit_message, defBody s_Commit_message, defScope s_Commit_message, [], []⟩
abbrev D_Commit_DeqD : He5.DefA := ⟨fun K => He.ma K (He.ga K "Commit") "__eq__", "__eq__", "Commit.__eq__", defArgs s_Commit_DeqD, defBody s_Commit_DeqD, defScope s_Commit_DeqD, [], []⟩
abbrev D_History_DinitD : He5.DefA := ⟨fun K => He.ma K (He.ga K "History") "__init__", "__init__", "History.__init__", defArgs s_History_DinitD, defBody s_History_DinitD, defScope s_History_DinitD, [], [("cut", .adr (kwAt (fun K => He.ma K (He.ga K "History") "__init__") "cut"))]⟩
abbrev D_History_check_names : He5.DefA := ⟨fun K => He.ma K (He.ga K "History") "check_names", "check_names", "History.check_names", defArgs s_History_check_names, defBody s_History_check_names, defScope s_History_check_names, [], []⟩
abbrev D_History_below : He5.DefA := ⟨fun K => He.ma K (He.ga K "History") "below", "below", "History.below", defArgs s_History_below, defBody s_History_below, defScope s_History_below, [], []⟩
abbrev D_History_searched : He5.DefA := ⟨fun K => He.ma K (He.ga K "History") "searched", "searched", "History.searched", defArgs s_History_searched, defBody s_History_searched, defScope s_History_searched, [], []⟩
abbrev D_Search_DinitD : He5.DefA := ⟨fun K => He.ma K (He.ga K "Search") "__init__", "__init__", "Search.__init__", defArgs s_Search_DinitD, defBody s_Search_DinitD, defScope s_Search_DinitD, [], []⟩
abbrev D_Search_marked : He5.DefA := ⟨fun K => He.ma K (He.ga K "Search") "marked", "marked", "Search.marked", defArgs s_Search_marked, defBody s_Search_marked, defScope s_Search_marked, [], []⟩
abbrev D_Search_mark : He5.DefA := ⟨fun K => He.ma K (He.ga K "Search") "mark", "mark", "Search.mark", defArgs s_Search_mark, defBody s_Search_mark, defScope s_Search_mark, [], []⟩
abbrev D_Search_bad : He5.DefA := ⟨fun K => He.ma K (He.ga K "Search") "bad", "bad", "Search.bad", defArgs s_Search_bad, defBody s_Search_bad, defScope s_Search_bad, [], []⟩
abbrev D_Search_good : He5.DefA := ⟨fun K => He.ma K (He.ga K "Search") "good", "good", "Search.good", defArgs s_Search_good, defBody s_Search_good, defScope s_Search_good, [], []⟩
abbrev D_Search_candidates : He5.DefA := ⟨fun K => He.ma K (He.ga K "Search") "candidates", "candidates", "Search.candidates", defArgs s_Search_candidates, defBody s_Search_candidates, defScope s_Search_candidates, [], []⟩
abbrev D_Search_next : He5.DefA := ⟨fun K => He.ma K (He.ga K "Search") "next", "next", "Search.next", defArgs s_Search_next, defBody s_Search_next, defScope s_Search_next, [], []⟩
abbrev D_Search_found : He5.DefA := ⟨fun K => He.ma K (He.ga K "Search") "found", "found", "Search.found", defArgs s_Search_found, defBody s_Search_found, defScope s_Search_found, [], []⟩
abbrev D_Store_DinitD : He5.DefA := ⟨fun K => He.ma K (He.ga K "Store") "__init__", "__init__", "Store.__init__", defArgs s_Store_DinitD, defBody s_Store_DinitD, defScope s_Store_DinitD, [], [("short", .bl false)]⟩
abbrev D_Store_put : He5.DefA := ⟨fun K => He.ma K (He.ga K "Store") "put", "put", "Store.put", defArgs s_Store_put, defBody s_Store_put, defScope s_Store_put, [], []⟩
abbrev D_Store_DcontainsD : He5.DefA := ⟨fun K => He.ma K (He.ga K "Store") "__contains__", "__contains__", "Store.__contains__", defArgs s_Store_DcontainsD, defBody s_Store_DcontainsD, defScope s_Store_DcontainsD, [], []⟩
abbrev D_Store_DgetitemD : He5.DefA := ⟨fun K => He.ma K (He.ga K "Store") "__getitem__", "__getitem__", "Store.__getitem__", defArgs s_Store_DgetitemD, defBody s_Store_DgetitemD, defScope s_Store_DgetitemD, [], []⟩
def fn0 : List He5.DefA := [D_is_whole,
  D_is_count,
  D_is_time,
  D_has_only,
  D_is_id,
  D_is_author,
  D_is_text,
  D_are_ids,
  D_check_set,
  D_parted,
  D_solve,
  D_planned,
  D_best,
  D_bounds,
  D_is_bound,
  D_holds,
  D_shows_best,
  D_are_parents,
  D_is_object,
  D_encode_tree]
def fn1 : List He5.DefA := [D_encode_commit,
  D_encode,
  D_sum_of,
  D_id_of,
  D_commit_of,
  D_L_draw,
  D_L_shuffled,
  D_L_history,
  D_L_reached,
  D_L_row,
  D_L_halvings,
  D_L_tests,
  D_L_led_by_next,
  D_L_line_right,
  D_L_right,
  D_law,
  D_Tree_DinitD,
  D_Tree_entries,
  D_Tree_DeqD,
  D_Commit_DinitD]
def fn2 : List He5.DefA := [D_Commit_tree,
  D_Commit_parents,
  D_Commit_author,
  D_Commit_time,
  D_Commit_message,
  D_Commit_DeqD,
  D_History_DinitD,
  D_History_check_names,
  D_History_below,
  D_History_searched,
  D_Search_DinitD,
  D_Search_marked,
  D_Search_mark,
  D_Search_bad,
  D_Search_good,
  D_Search_candidates,
  D_Search_next,
  D_Search_found,
  D_Store_DinitD,
  D_Store_put]
def fn3 : List He5.DefA := [D_Store_DcontainsD,
  D_Store_DgetitemD]
def fn : List He5.DefA := fn0 ++ (fn1 ++ (fn2 ++ (fn3)))
def fa0 : List He.Fa := [.glo "Blob",
  .glo "Tree",
  .cls "Tree",
  .glo "Commit",
  .cls "Commit",
  .glo "Tag",
  .glo "History",
  .cls "History",
  .glo "Search",
  .cls "Search",
  .glo "Store",
  .cls "Store",
  .noat "Tree" "held",
  .noat "Commit" "held",
  .noat "History" "held",
  .noat "History" "ends",
  .noat "History" "known",
  .noat "History" "depths",
  .noat "Search" "past",
  .noat "Search" "marks",
  .noat "Store" "short",
  .noat "Store" "kept",
  .glo "is_whole",
  .glo "is_count",
  .glo "is_time",
  .glo "has_only",
  .glo "is_id",
  .glo "is_author",
  .glo "is_text",
  .glo "are_ids"]
def fa1 : List He.Fa := [.glo "check_set",
  .glo "parted",
  .glo "solve",
  .glo "planned",
  .glo "best",
  .glo "bounds",
  .glo "is_bound",
  .glo "holds",
  .glo "shows_best",
  .glo "are_parents",
  .glo "is_object",
  .glo "encode_tree",
  .glo "encode_commit",
  .glo "encode",
  .glo "sum_of",
  .glo "id_of",
  .glo "commit_of",
  .glo "_law_draw",
  .glo "_law_shuffled",
  .glo "_law_history",
  .glo "_law_reached",
  .glo "_law_row",
  .glo "_law_halvings",
  .glo "_law_tests",
  .glo "_law_led_by_next",
  .glo "_law_line_right",
  .glo "_law_right",
  .glo "law",
  .mkr "Tree",
  .meth "Tree" "__eq__"]
def fa2 : List He.Fa := [.mkr "Commit",
  .meth "Commit" "__eq__",
  .mkr "History",
  .meth "History" "check_names",
  .meth "History" "below",
  .meth "History" "searched",
  .mkr "Search",
  .meth "Search" "marked",
  .meth "Search" "mark",
  .meth "Search" "bad",
  .meth "Search" "good",
  .meth "Search" "candidates",
  .meth "Search" "next",
  .meth "Search" "found",
  .mkr "Store",
  .meth "Store" "put",
  .meth "Store" "__contains__",
  .meth "Store" "__getitem__",
  .str "SMALL" "abcdefghijklmnopqrstuvwxyz",
  .str "HEX" "0123456789abcdef",
  .int "ID_LENGTH" 16,
  .int "MOST_SEGMENT" 12,
  .int "MOST_TEXT" 2000,
  .int "MOST_MESSAGE" 200,
  .int "MOST_TIME" 1000000000000,
  .int "MOST" 12,
  .int "MOST_ENTRIES" 30,
  .int "MOST_PARENTS" 6,
  .int "LONG" 2305843009213693951,
  .int "SHORT" 251]
def fa3 : List He.Fa := [.int "FACTOR" 1000003,
  .free "isinstance",
  .free "int",
  .free "bool",
  .free "len",
  .free "all",
  .free "any",
  .free "min",
  .free "max",
  .free "sorted",
  .free "tuple",
  .free "list",
  .free "set",
  .free "dict",
  .free "str",
  .free "bytes",
  .free "range",
  .free "enumerate"]
def fa : List He.Fa := fa0 ++ (fa1 ++ (fa2 ++ (fa3)))
def exs0 : List (PySem.W.Frag → Bool) := [fun K => propB K (He.ga K "Tree") "entries",
  fun K => tup0B K (He.dflAt ("Commit", some "__init__") 0 K),
  fun K => propB K (He.ga K "Commit") "tree",
  fun K => propB K (He.ga K "Commit") "parents",
  fun K => propB K (He.ga K "Commit") "author",
  fun K => propB K (He.ga K "Commit") "time",
  fun K => propB K (He.ga K "Commit") "message",
  fun K => tup0B K (kwAt (fun K => He.ma K (He.ga K "History") "__init__") "cut" K),
  fun K => PySem.W.fnIn K (He.ma K (He.ga K "Store") "__getitem__"),
  fun K => He.eqO (PySem.W.findIn K (.ref (He.ga K "Tree")) "__ne__") (some (some (.builtin "object.__ne__"))),
  fun K => decide (PySem.W.mroIn K (He.ga K "Tree") (.type "object") = some true),
  fun K => He.eqO (PySem.W.findIn K (.ref (He.ga K "Tree")) "__class__") (some (some (.builtin "object.__class__"))),
  fun K => He.eqO (PySem.W.findIn K (.ref (He.ga K "Commit")) "__ne__") (some (some (.builtin "object.__ne__"))),
  fun K => decide (PySem.W.mroIn K (He.ga K "Commit") (.type "object") = some true),
  fun K => He.eqO (PySem.W.findIn K (.ref (He.ga K "Commit")) "__class__") (some (some (.builtin "object.__class__"))),
  fun K => He.eqO (PySem.W.specialIn K (.builtin "object.__class__") "__get__") (some (some (.builtin "getset_descriptor.__get__"))),
  fun K => decide (PySem.W.takesIn K (.builtin "object.__class__") = some true),
  fun K => decide (PySem.W.kitOne K (.ref (He.ga K "Tree")) (.ref (He.ga K "Blob")) = some false),
  fun K => decide (PySem.W.kitOne K (.ref (He.ga K "Tree")) (.ref (He.ga K "Tree")) = some true),
  fun K => decide (PySem.W.kitOne K (.ref (He.ga K "Commit")) (.ref (He.ga K "Blob")) = some false),
  fun K => decide (PySem.W.kitOne K (.ref (He.ga K "Commit")) (.ref (He.ga K "Tree")) = some false),
  fun K => decide (PySem.W.kitOne K (.ref (He.ga K "Commit")) (.ref (He.ga K "Commit")) = some true)]
def exs : List (PySem.W.Frag → Bool) := exs0
def loose0 : List Str := ["_wall",
  "__name__",
  "ForkError",
  "BadName",
  "BadMark",
  "BadObject",
  "Clash",
  "NoObject",
  "SMALL",
  "DIGITS",
  "HEX",
  "ID_LENGTH",
  "MOST_SEGMENT",
  "MOST_TEXT",
  "MOST_MESSAGE",
  "MOST_TIME",
  "is_whole",
  "is_count",
  "is_time",
  "has_only",
  "is_id",
  "is_segment",
  "is_author",
  "is_text",
  "are_ids",
  "MOST",
  "check_set",
  "parted",
  "solve",
  "planned"]
def loose1 : List Str := ["best",
  "bounds",
  "is_bound",
  "holds",
  "shows_best",
  "KINDS",
  "MOST_ENTRIES",
  "MOST_PARENTS",
  "Blob",
  "is_entry",
  "Tree",
  "are_parents",
  "Commit",
  "Tag",
  "is_object",
  "LONG",
  "SHORT",
  "FACTOR",
  "encode_tree",
  "encode_commit",
  "encode",
  "sum_of",
  "id_of",
  "commit_of",
  "History",
  "Search",
  "Store",
  "_law_draw",
  "_law_shuffled",
  "_law_history"]
def loose2 : List Str := ["_law_reached",
  "_law_row",
  "_law_halvings",
  "_law_tests",
  "_law_led_by_next",
  "_law_line_right",
  "_law_right"]
def loose : List Str := loose0 ++ (loose1 ++ (loose2))
def ex (K : PySem.W.Frag) : Bool := exs.all fun f => f K
theorem ex_at {K : PySem.W.Frag} (h : ex K = true) (i : Nat) {f : PySem.W.Frag → Bool} (e : exs[i]? = some f) : f K = true := List.all_eq_true.mp h f (List.mem_of_getElem? e)
abbrev AlX : Type := Bool × He.AlD
def growM (g : Addr → Option PySem.Obj) (as : List Addr) : List Addr := as.flatMap fun a => match g a with
  | some o => He.refsD o
  | none => []
/-- what these reach in n steps (an address may stand twice) -/
def reachM (g : Addr → Option PySem.Obj) : Nat → List Addr → List Addr
  | 0, as => as
  | n + 1, as => as ++ reachM g n (growM g as)
/-- the objects of the names that the facts name -/
def rootsM (K : PySem.W.Frag) : List Addr := fa.filterMap fun f => match f with
  | .glo x => some (He.ga K x)
  | _ => none
def asM (g : Addr → Option PySem.Obj) : List Addr := mainGlobals :: PySem.cStatics :: reachM g 4 (rootsM (He.frG g [mainGlobals]))
def obsX (K : PySem.W.Frag) : AlX := (ex K, He5.obsA fa fn K)
theorem two_of {a c : Bool} {b d : He.AlD} (h : (a, b) = (c, d)) : a = c ∧ b = d := Prod.mk.inj h
theorem obs_of {K : PySem.W.Frag} (z : obsX K = (true, He5.valA fn)) : ex K = true ∧ He5.SaysA fa fn K := by
  unfold obsX at z
  unfold He5.SaysA
  exact two_of z
def hk : PySem.W.Hook where
  α := AlX
  obs := fun s => obsX (He.frG s.heap.get? (asM s.heap.get?))
  val := fun _ => (true, He5.valA fn)
  says := fun _ h => ∃ K : PySem.W.Frag, K.In h ∧ ex K = true ∧ He5.SaysA fa fn K
  of := fun _ _ z => ⟨_, He.frG_in, obs_of z⟩
  keeps := fun _ _ _ ⟨K, hK, c⟩ k => ⟨K, PySem.W.Frag.In.keeps hK k, c⟩
def ob (s : PySem.W.SharedT) : AlX := obsX (He.frG (HandSHeadRun.getT s) (asM (HandSHeadRun.getT s)))
theorem ob_eq (s : PySem.W.SharedT) : ob s = hk.obs s.abs := by
  have e : HandSHeadRun.getT s = s.abs.heap.get? := funext (HandSHeadRun.getT_eq s)
  unfold ob
  rw [e]
  rfl
end K65

set_option maxHeartbeats 0
/-! K65HeadC: the run of the top. -/
namespace K65
open PySem L2 PyProof.Rows
abbrev R : PySem.W.OpenRow := PySem.W.OpenLaw.row PySem.Challenge.rw_forkhaul_k65_whole_lines_roots_and_searc
theorem run (w : World) : HandSHeadRun.RunEq R (PySem.W.view R.prog [75]) hk ob 7000 loose w := by
  intro os
  kernel_rfl
end K65

set_option maxHeartbeats 0
/-! K65HeadB: the structure W (printed by gen_head.py). -/
namespace K65
open PySem L2
theorem mkW {K : PySem.W.Frag} {h : Heap} {mg : Str → Option Value} (X : K.In h) (G : h.Ns mainGlobals mg) (e : ex K = true) (c : He5.SaysA fa fn K) : ∃ T : W K mg, T.a_law = He.ga K "law" ∧ ∀ (s : Shared) (u : Value), BindsTo s T.d_law ⟨[u], []⟩ [("_law_script", u)] := by
  obtain ⟨d_is_whole, F_is_whole⟩ := c.def_ 0 (d := D_is_whole) rfl
  obtain ⟨d_is_count, F_is_count⟩ := c.def_ 1 (d := D_is_count) rfl
  obtain ⟨d_is_time, F_is_time⟩ := c.def_ 2 (d := D_is_time) rfl
  obtain ⟨d_has_only, F_has_only⟩ := c.def_ 3 (d := D_has_only) rfl
  obtain ⟨d_is_id, F_is_id⟩ := c.def_ 4 (d := D_is_id) rfl
  obtain ⟨d_is_author, F_is_author⟩ := c.def_ 5 (d := D_is_author) rfl
  obtain ⟨d_is_text, F_is_text⟩ := c.def_ 6 (d := D_is_text) rfl
  obtain ⟨d_are_ids, F_are_ids⟩ := c.def_ 7 (d := D_are_ids) rfl
  obtain ⟨d_check_set, F_check_set⟩ := c.def_ 8 (d := D_check_set) rfl
  obtain ⟨d_parted, F_parted⟩ := c.def_ 9 (d := D_parted) rfl
  obtain ⟨d_solve, F_solve⟩ := c.def_ 10 (d := D_solve) rfl
  obtain ⟨d_planned, F_planned⟩ := c.def_ 11 (d := D_planned) rfl
  obtain ⟨d_best, F_best⟩ := c.def_ 12 (d := D_best) rfl
  obtain ⟨d_bounds, F_bounds⟩ := c.def_ 13 (d := D_bounds) rfl
  obtain ⟨d_is_bound, F_is_bound⟩ := c.def_ 14 (d := D_is_bound) rfl
  obtain ⟨d_holds, F_holds⟩ := c.def_ 15 (d := D_holds) rfl
  obtain ⟨d_shows_best, F_shows_best⟩ := c.def_ 16 (d := D_shows_best) rfl
  obtain ⟨d_are_parents, F_are_parents⟩ := c.def_ 17 (d := D_are_parents) rfl
  obtain ⟨d_is_object, F_is_object⟩ := c.def_ 18 (d := D_is_object) rfl
  obtain ⟨d_encode_tree, F_encode_tree⟩ := c.def_ 19 (d := D_encode_tree) rfl
  obtain ⟨d_encode_commit, F_encode_commit⟩ := c.def_ 20 (d := D_encode_commit) rfl
  obtain ⟨d_encode, F_encode⟩ := c.def_ 21 (d := D_encode) rfl
  obtain ⟨d_sum_of, F_sum_of⟩ := c.def_ 22 (d := D_sum_of) rfl
  obtain ⟨d_id_of, F_id_of⟩ := c.def_ 23 (d := D_id_of) rfl
  obtain ⟨d_commit_of, F_commit_of⟩ := c.def_ 24 (d := D_commit_of) rfl
  obtain ⟨d_L_draw, F_L_draw⟩ := c.def_ 25 (d := D_L_draw) rfl
  obtain ⟨d_L_shuffled, F_L_shuffled⟩ := c.def_ 26 (d := D_L_shuffled) rfl
  obtain ⟨d_L_history, F_L_history⟩ := c.def_ 27 (d := D_L_history) rfl
  obtain ⟨d_L_reached, F_L_reached⟩ := c.def_ 28 (d := D_L_reached) rfl
  obtain ⟨d_L_row, F_L_row⟩ := c.def_ 29 (d := D_L_row) rfl
  obtain ⟨d_L_halvings, F_L_halvings⟩ := c.def_ 30 (d := D_L_halvings) rfl
  obtain ⟨d_L_tests, F_L_tests⟩ := c.def_ 31 (d := D_L_tests) rfl
  obtain ⟨d_L_led_by_next, F_L_led_by_next⟩ := c.def_ 32 (d := D_L_led_by_next) rfl
  obtain ⟨d_L_line_right, F_L_line_right⟩ := c.def_ 33 (d := D_L_line_right) rfl
  obtain ⟨d_L_right, F_L_right⟩ := c.def_ 34 (d := D_L_right) rfl
  obtain ⟨d_law, F_law⟩ := c.def_ 35 (d := D_law) rfl
  obtain ⟨d_Tree_DinitD, F_Tree_DinitD⟩ := c.def_ 36 (d := D_Tree_DinitD) rfl
  obtain ⟨d_Tree_entries, F_Tree_entries⟩ := c.def_ 37 (d := D_Tree_entries) rfl
  obtain ⟨d_Tree_DeqD, F_Tree_DeqD⟩ := c.def_ 38 (d := D_Tree_DeqD) rfl
  obtain ⟨d_Commit_DinitD, F_Commit_DinitD⟩ := c.def_ 39 (d := D_Commit_DinitD) rfl
  obtain ⟨d_Commit_tree, F_Commit_tree⟩ := c.def_ 40 (d := D_Commit_tree) rfl
  obtain ⟨d_Commit_parents, F_Commit_parents⟩ := c.def_ 41 (d := D_Commit_parents) rfl
  obtain ⟨d_Commit_author, F_Commit_author⟩ := c.def_ 42 (d := D_Commit_author) rfl
  obtain ⟨d_Commit_time, F_Commit_time⟩ := c.def_ 43 (d := D_Commit_time) rfl
  obtain ⟨d_Commit_message, F_Commit_message⟩ := c.def_ 44 (d := D_Commit_message) rfl
  obtain ⟨d_Commit_DeqD, F_Commit_DeqD⟩ := c.def_ 45 (d := D_Commit_DeqD) rfl
  obtain ⟨d_History_DinitD, F_History_DinitD⟩ := c.def_ 46 (d := D_History_DinitD) rfl
  obtain ⟨d_History_check_names, F_History_check_names⟩ := c.def_ 47 (d := D_History_check_names) rfl
  obtain ⟨d_History_below, F_History_below⟩ := c.def_ 48 (d := D_History_below) rfl
  obtain ⟨d_History_searched, F_History_searched⟩ := c.def_ 49 (d := D_History_searched) rfl
  obtain ⟨d_Search_DinitD, F_Search_DinitD⟩ := c.def_ 50 (d := D_Search_DinitD) rfl
  obtain ⟨d_Search_marked, F_Search_marked⟩ := c.def_ 51 (d := D_Search_marked) rfl
  obtain ⟨d_Search_mark, F_Search_mark⟩ := c.def_ 52 (d := D_Search_mark) rfl
  obtain ⟨d_Search_bad, F_Search_bad⟩ := c.def_ 53 (d := D_Search_bad) rfl
  obtain ⟨d_Search_good, F_Search_good⟩ := c.def_ 54 (d := D_Search_good) rfl
  obtain ⟨d_Search_candidates, F_Search_candidates⟩ := c.def_ 55 (d := D_Search_candidates) rfl
  obtain ⟨d_Search_next, F_Search_next⟩ := c.def_ 56 (d := D_Search_next) rfl
  obtain ⟨d_Search_found, F_Search_found⟩ := c.def_ 57 (d := D_Search_found) rfl
  obtain ⟨d_Store_DinitD, F_Store_DinitD⟩ := c.def_ 58 (d := D_Store_DinitD) rfl
  obtain ⟨d_Store_put, F_Store_put⟩ := c.def_ 59 (d := D_Store_put) rfl
  obtain ⟨d_Store_DcontainsD, F_Store_DcontainsD⟩ := c.def_ 60 (d := D_Store_DcontainsD) rfl
  obtain ⟨d_Store_DgetitemD, F_Store_DgetitemD⟩ := c.def_ 61 (d := D_Store_DgetitemD) rfl
  exact ⟨{
    CBlob := He.ga K "Blob"
    gCBlob := He.glo_ok X G (c.fact 0 (f := .glo "Blob") rfl)
    CTree := He.ga K "Tree"
    gCTree := He.glo_ok X G (c.fact 1 (f := .glo "Tree") rfl)
    clTree := He.cls_ok (c.fact 2 (f := .cls "Tree") rfl)
    CCommit := He.ga K "Commit"
    gCCommit := He.glo_ok X G (c.fact 3 (f := .glo "Commit") rfl)
    clCommit := He.cls_ok (c.fact 4 (f := .cls "Commit") rfl)
    CTag := He.ga K "Tag"
    gCTag := He.glo_ok X G (c.fact 5 (f := .glo "Tag") rfl)
    CHistory := He.ga K "History"
    gCHistory := He.glo_ok X G (c.fact 6 (f := .glo "History") rfl)
    clHistory := He.cls_ok (c.fact 7 (f := .cls "History") rfl)
    CSearch := He.ga K "Search"
    gCSearch := He.glo_ok X G (c.fact 8 (f := .glo "Search") rfl)
    clSearch := He.cls_ok (c.fact 9 (f := .cls "Search") rfl)
    CStore := He.ga K "Store"
    gCStore := He.glo_ok X G (c.fact 10 (f := .glo "Store") rfl)
    clStore := He.cls_ok (c.fact 11 (f := .cls "Store") rfl)
    nTree_held := He.noat_ok (c.fact 12 (f := .noat "Tree" "held") rfl)
    nCommit_held := He.noat_ok (c.fact 13 (f := .noat "Commit" "held") rfl)
    nHistory_held := He.noat_ok (c.fact 14 (f := .noat "History" "held") rfl)
    nHistory_ends := He.noat_ok (c.fact 15 (f := .noat "History" "ends") rfl)
    nHistory_known := He.noat_ok (c.fact 16 (f := .noat "History" "known") rfl)
    nHistory_depths := He.noat_ok (c.fact 17 (f := .noat "History" "depths") rfl)
    nSearch_past := He.noat_ok (c.fact 18 (f := .noat "Search" "past") rfl)
    nSearch_marks := He.noat_ok (c.fact 19 (f := .noat "Search" "marks") rfl)
    nStore_short := He.noat_ok (c.fact 20 (f := .noat "Store" "short") rfl)
    nStore_kept := He.noat_ok (c.fact 21 (f := .noat "Store" "kept") rfl)
    a_is_whole := He.ga K "is_whole"
    d_is_whole := d_is_whole
    F_is_whole := He5.fun_of F_is_whole
    g_is_whole := He.glo_ok X G (c.fact 22 (f := .glo "is_whole") rfl)
    a_is_count := He.ga K "is_count"
    d_is_count := d_is_count
    F_is_count := F_is_count
    g_is_count := He.glo_ok X G (c.fact 23 (f := .glo "is_count") rfl)
    a_is_time := He.ga K "is_time"
    d_is_time := d_is_time
    F_is_time := He5.fun_of F_is_time
    g_is_time := He.glo_ok X G (c.fact 24 (f := .glo "is_time") rfl)
    a_has_only := He.ga K "has_only"
    d_has_only := d_has_only
    F_has_only := He5.fun_of F_has_only
    g_has_only := He.glo_ok X G (c.fact 25 (f := .glo "has_only") rfl)
    a_is_id := He.ga K "is_id"
    d_is_id := d_is_id
    F_is_id := He5.fun_of F_is_id
    g_is_id := He.glo_ok X G (c.fact 26 (f := .glo "is_id") rfl)
    a_is_author := He.ga K "is_author"
    d_is_author := d_is_author
    F_is_author := He5.fun_of F_is_author
    g_is_author := He.glo_ok X G (c.fact 27 (f := .glo "is_author") rfl)
    a_is_text := He.ga K "is_text"
    d_is_text := d_is_text
    F_is_text := F_is_text
    g_is_text := He.glo_ok X G (c.fact 28 (f := .glo "is_text") rfl)
    a_are_ids := He.ga K "are_ids"
    d_are_ids := d_are_ids
    F_are_ids := He5.fun_of F_are_ids
    g_are_ids := He.glo_ok X G (c.fact 29 (f := .glo "are_ids") rfl)
    a_check_set := He.ga K "check_set"
    d_check_set := d_check_set
    F_check_set := He5.fun_of F_check_set
    g_check_set := He.glo_ok X G (c.fact 30 (f := .glo "check_set") rfl)
    a_parted := He.ga K "parted"
    d_parted := d_parted
    F_parted := He5.fun_of F_parted
    g_parted := He.glo_ok X G (c.fact 31 (f := .glo "parted") rfl)
    a_solve := He.ga K "solve"
    d_solve := d_solve
    F_solve := He5.fun_of F_solve
    g_solve := He.glo_ok X G (c.fact 32 (f := .glo "solve") rfl)
    a_planned := He.ga K "planned"
    d_planned := d_planned
    F_planned := He5.fun_of F_planned
    g_planned := He.glo_ok X G (c.fact 33 (f := .glo "planned") rfl)
    a_best := He.ga K "best"
    d_best := d_best
    F_best := He5.fun_of F_best
    g_best := He.glo_ok X G (c.fact 34 (f := .glo "best") rfl)
    a_bounds := He.ga K "bounds"
    d_bounds := d_bounds
    F_bounds := He5.fun_of F_bounds
    g_bounds := He.glo_ok X G (c.fact 35 (f := .glo "bounds") rfl)
    a_is_bound := He.ga K "is_bound"
    d_is_bound := d_is_bound
    F_is_bound := He5.fun_of F_is_bound
    g_is_bound := He.glo_ok X G (c.fact 36 (f := .glo "is_bound") rfl)
    a_holds := He.ga K "holds"
    d_holds := d_holds
    F_holds := He5.fun_of F_holds
    g_holds := He.glo_ok X G (c.fact 37 (f := .glo "holds") rfl)
    a_shows_best := He.ga K "shows_best"
    d_shows_best := d_shows_best
    F_shows_best := He5.fun_of F_shows_best
    g_shows_best := He.glo_ok X G (c.fact 38 (f := .glo "shows_best") rfl)
    a_are_parents := He.ga K "are_parents"
    d_are_parents := d_are_parents
    F_are_parents := He5.fun_of F_are_parents
    g_are_parents := He.glo_ok X G (c.fact 39 (f := .glo "are_parents") rfl)
    a_is_object := He.ga K "is_object"
    d_is_object := d_is_object
    F_is_object := He5.fun_of F_is_object
    g_is_object := He.glo_ok X G (c.fact 40 (f := .glo "is_object") rfl)
    a_encode_tree := He.ga K "encode_tree"
    d_encode_tree := d_encode_tree
    F_encode_tree := He5.fun_of F_encode_tree
    g_encode_tree := He.glo_ok X G (c.fact 41 (f := .glo "encode_tree") rfl)
    a_encode_commit := He.ga K "encode_commit"
    d_encode_commit := d_encode_commit
    F_encode_commit := He5.fun_of F_encode_commit
    g_encode_commit := He.glo_ok X G (c.fact 42 (f := .glo "encode_commit") rfl)
    a_encode := He.ga K "encode"
    d_encode := d_encode
    F_encode := He5.fun_of F_encode
    g_encode := He.glo_ok X G (c.fact 43 (f := .glo "encode") rfl)
    a_sum_of := He.ga K "sum_of"
    d_sum_of := d_sum_of
    F_sum_of := F_sum_of
    g_sum_of := He.glo_ok X G (c.fact 44 (f := .glo "sum_of") rfl)
    a_id_of := He.ga K "id_of"
    d_id_of := d_id_of
    F_id_of := F_id_of
    g_id_of := He.glo_ok X G (c.fact 45 (f := .glo "id_of") rfl)
    a_commit_of := He.ga K "commit_of"
    d_commit_of := d_commit_of
    F_commit_of := He5.fun_of F_commit_of
    g_commit_of := He.glo_ok X G (c.fact 46 (f := .glo "commit_of") rfl)
    a_L_draw := He.ga K "_law_draw"
    d_L_draw := d_L_draw
    F_L_draw := He5.fun_of F_L_draw
    g_L_draw := He.glo_ok X G (c.fact 47 (f := .glo "_law_draw") rfl)
    a_L_shuffled := He.ga K "_law_shuffled"
    d_L_shuffled := d_L_shuffled
    F_L_shuffled := He5.fun_of F_L_shuffled
    g_L_shuffled := He.glo_ok X G (c.fact 48 (f := .glo "_law_shuffled") rfl)
    a_L_history := He.ga K "_law_history"
    d_L_history := d_L_history
    F_L_history := He5.fun_of F_L_history
    g_L_history := He.glo_ok X G (c.fact 49 (f := .glo "_law_history") rfl)
    a_L_reached := He.ga K "_law_reached"
    d_L_reached := d_L_reached
    F_L_reached := He5.fun_of F_L_reached
    g_L_reached := He.glo_ok X G (c.fact 50 (f := .glo "_law_reached") rfl)
    a_L_row := He.ga K "_law_row"
    d_L_row := d_L_row
    F_L_row := He5.fun_of F_L_row
    g_L_row := He.glo_ok X G (c.fact 51 (f := .glo "_law_row") rfl)
    a_L_halvings := He.ga K "_law_halvings"
    d_L_halvings := d_L_halvings
    F_L_halvings := He5.fun_of F_L_halvings
    g_L_halvings := He.glo_ok X G (c.fact 52 (f := .glo "_law_halvings") rfl)
    a_L_tests := He.ga K "_law_tests"
    d_L_tests := d_L_tests
    F_L_tests := He5.fun_of F_L_tests
    g_L_tests := He.glo_ok X G (c.fact 53 (f := .glo "_law_tests") rfl)
    a_L_led_by_next := He.ga K "_law_led_by_next"
    d_L_led_by_next := d_L_led_by_next
    F_L_led_by_next := He5.fun_of F_L_led_by_next
    g_L_led_by_next := He.glo_ok X G (c.fact 54 (f := .glo "_law_led_by_next") rfl)
    a_L_line_right := He.ga K "_law_line_right"
    d_L_line_right := d_L_line_right
    F_L_line_right := He5.fun_of F_L_line_right
    g_L_line_right := He.glo_ok X G (c.fact 55 (f := .glo "_law_line_right") rfl)
    a_L_right := He.ga K "_law_right"
    d_L_right := d_L_right
    F_L_right := He5.fun_of F_L_right
    g_L_right := He.glo_ok X G (c.fact 56 (f := .glo "_law_right") rfl)
    a_law := He.ga K "law"
    d_law := d_law
    F_law := He5.fun_of F_law
    g_law := He.glo_ok X G (c.fact 57 (f := .glo "law") rfl)
    a_Tree_DinitD := He.ma K (He.ga K "Tree") "__init__"
    d_Tree_DinitD := d_Tree_DinitD
    F_Tree_DinitD := He5.fun_of F_Tree_DinitD
    k_Tree := He.mkr_ok (c.fact 58 (f := .mkr "Tree") rfl)
    a_Tree_entries := He5.wf K (He.ga K "Tree") "property" "entries"
    d_Tree_entries := d_Tree_entries
    F_Tree_entries := He5.fun_of F_Tree_entries
    p_Tree_entries := He.ma K (He.ga K "Tree") "entries"
    P_Tree_entries := prop_ok (ex_at e 0 (f := fun K => propB K (He.ga K "Tree") "entries") rfl)
    a_Tree_DeqD := He.ma K (He.ga K "Tree") "__eq__"
    d_Tree_DeqD := d_Tree_DeqD
    F_Tree_DeqD := He5.fun_of F_Tree_DeqD
    m_Tree_DeqD := He.meth_ok (c.fact 59 (f := .meth "Tree" "__eq__") rfl)
    a_Commit_DinitD := He.ma K (He.ga K "Commit") "__init__"
    d_Commit_DinitD := d_Commit_DinitD
    t_Commit_DinitD_0 := He.dflAt ("Commit", some "__init__") 0 K
    ht_Commit_DinitD_0 := tup0_ok (ex_at e 1 (f := fun K => tup0B K (He.dflAt ("Commit", some "__init__") 0 K)) rfl)
    F_Commit_DinitD := F_Commit_DinitD
    k_Commit := He.mkr_ok (c.fact 60 (f := .mkr "Commit") rfl)
    a_Commit_tree := He5.wf K (He.ga K "Commit") "property" "tree"
    d_Commit_tree := d_Commit_tree
    F_Commit_tree := He5.fun_of F_Commit_tree
    p_Commit_tree := He.ma K (He.ga K "Commit") "tree"
    P_Commit_tree := prop_ok (ex_at e 2 (f := fun K => propB K (He.ga K "Commit") "tree") rfl)
    a_Commit_parents := He5.wf K (He.ga K "Commit") "property" "parents"
    d_Commit_parents := d_Commit_parents
    F_Commit_parents := He5.fun_of F_Commit_parents
    p_Commit_parents := He.ma K (He.ga K "Commit") "parents"
    P_Commit_parents := prop_ok (ex_at e 3 (f := fun K => propB K (He.ga K "Commit") "parents") rfl)
    a_Commit_author := He5.wf K (He.ga K "Commit") "property" "author"
    d_Commit_author := d_Commit_author
    F_Commit_author := He5.fun_of F_Commit_author
    p_Commit_author := He.ma K (He.ga K "Commit") "author"
    P_Commit_author := prop_ok (ex_at e 4 (f := fun K => propB K (He.ga K "Commit") "author") rfl)
    a_Commit_time := He5.wf K (He.ga K "Commit") "property" "time"
    d_Commit_time := d_Commit_time
    F_Commit_time := He5.fun_of F_Commit_time
    p_Commit_time := He.ma K (He.ga K "Commit") "time"
    P_Commit_time := prop_ok (ex_at e 5 (f := fun K => propB K (He.ga K "Commit") "time") rfl)
    a_Commit_message := He5.wf K (He.ga K "Commit") "property" "message"
    d_Commit_message := d_Commit_message
    F_Commit_message := He5.fun_of F_Commit_message
    p_Commit_message := He.ma K (He.ga K "Commit") "message"
    P_Commit_message := prop_ok (ex_at e 6 (f := fun K => propB K (He.ga K "Commit") "message") rfl)
    a_Commit_DeqD := He.ma K (He.ga K "Commit") "__eq__"
    d_Commit_DeqD := d_Commit_DeqD
    F_Commit_DeqD := He5.fun_of F_Commit_DeqD
    m_Commit_DeqD := He.meth_ok (c.fact 61 (f := .meth "Commit" "__eq__") rfl)
    a_History_DinitD := He.ma K (He.ga K "History") "__init__"
    d_History_DinitD := d_History_DinitD
    t_History_DinitD_cut := kwAt (fun K => He.ma K (He.ga K "History") "__init__") "cut" K
    ht_History_DinitD_cut := tup0_ok (ex_at e 7 (f := fun K => tup0B K (kwAt (fun K => He.ma K (He.ga K "History") "__init__") "cut" K)) rfl)
    F_History_DinitD := F_History_DinitD
    k_History := He.mkr_ok (c.fact 62 (f := .mkr "History") rfl)
    a_History_check_names := He.ma K (He.ga K "History") "check_names"
    d_History_check_names := d_History_check_names
    F_History_check_names := He5.fun_of F_History_check_names
    m_History_check_names := He.meth_ok (c.fact 63 (f := .meth "History" "check_names") rfl)
    a_History_below := He.ma K (He.ga K "History") "below"
    d_History_below := d_History_below
    F_History_below := He5.fun_of F_History_below
    m_History_below := He.meth_ok (c.fact 64 (f := .meth "History" "below") rfl)
    a_History_searched := He.ma K (He.ga K "History") "searched"
    d_History_searched := d_History_searched
    F_History_searched := He5.fun_of F_History_searched
    m_History_searched := He.meth_ok (c.fact 65 (f := .meth "History" "searched") rfl)
    a_Search_DinitD := He.ma K (He.ga K "Search") "__init__"
    d_Search_DinitD := d_Search_DinitD
    F_Search_DinitD := He5.fun_of F_Search_DinitD
    k_Search := He.mkr_ok (c.fact 66 (f := .mkr "Search") rfl)
    a_Search_marked := He.ma K (He.ga K "Search") "marked"
    d_Search_marked := d_Search_marked
    F_Search_marked := He5.fun_of F_Search_marked
    m_Search_marked := He.meth_ok (c.fact 67 (f := .meth "Search" "marked") rfl)
    a_Search_mark := He.ma K (He.ga K "Search") "mark"
    d_Search_mark := d_Search_mark
    F_Search_mark := He5.fun_of F_Search_mark
    m_Search_mark := He.meth_ok (c.fact 68 (f := .meth "Search" "mark") rfl)
    a_Search_bad := He.ma K (He.ga K "Search") "bad"
    d_Search_bad := d_Search_bad
    F_Search_bad := He5.fun_of F_Search_bad
    m_Search_bad := He.meth_ok (c.fact 69 (f := .meth "Search" "bad") rfl)
    a_Search_good := He.ma K (He.ga K "Search") "good"
    d_Search_good := d_Search_good
    F_Search_good := He5.fun_of F_Search_good
    m_Search_good := He.meth_ok (c.fact 70 (f := .meth "Search" "good") rfl)
    a_Search_candidates := He.ma K (He.ga K "Search") "candidates"
    d_Search_candidates := d_Search_candidates
    F_Search_candidates := He5.fun_of F_Search_candidates
    m_Search_candidates := He.meth_ok (c.fact 71 (f := .meth "Search" "candidates") rfl)
    a_Search_next := He.ma K (He.ga K "Search") "next"
    d_Search_next := d_Search_next
    F_Search_next := He5.fun_of F_Search_next
    m_Search_next := He.meth_ok (c.fact 72 (f := .meth "Search" "next") rfl)
    a_Search_found := He.ma K (He.ga K "Search") "found"
    d_Search_found := d_Search_found
    F_Search_found := He5.fun_of F_Search_found
    m_Search_found := He.meth_ok (c.fact 73 (f := .meth "Search" "found") rfl)
    a_Store_DinitD := He.ma K (He.ga K "Store") "__init__"
    d_Store_DinitD := d_Store_DinitD
    F_Store_DinitD := F_Store_DinitD
    k_Store := He.mkr_ok (c.fact 74 (f := .mkr "Store") rfl)
    a_Store_put := He.ma K (He.ga K "Store") "put"
    d_Store_put := d_Store_put
    F_Store_put := He5.fun_of F_Store_put
    m_Store_put := He.meth_ok (c.fact 75 (f := .meth "Store" "put") rfl)
    a_Store_DcontainsD := He.ma K (He.ga K "Store") "__contains__"
    d_Store_DcontainsD := d_Store_DcontainsD
    F_Store_DcontainsD := He5.fun_of F_Store_DcontainsD
    m_Store_DcontainsD := He.meth_ok (c.fact 76 (f := .meth "Store" "__contains__") rfl)
    a_Store_DgetitemD := He.ma K (He.ga K "Store") "__getitem__"
    d_Store_DgetitemD := d_Store_DgetitemD
    F_Store_DgetitemD := He5.fun_of F_Store_DgetitemD
    m_Store_DgetitemD := He.meth_ok (c.fact 77 (f := .meth "Store" "__getitem__") rfl)
    v_SMALL := He.str_ok X G (c.fact 78 (f := .str "SMALL" "abcdefghijklmnopqrstuvwxyz") rfl)
    v_HEX := He.str_ok X G (c.fact 79 (f := .str "HEX" "0123456789abcdef") rfl)
    v_ID_LENGTH := He.int_ok X G (c.fact 80 (f := .int "ID_LENGTH" 16) rfl)
    v_MOST_SEGMENT := He.int_ok X G (c.fact 81 (f := .int "MOST_SEGMENT" 12) rfl)
    v_MOST_TEXT := He.int_ok X G (c.fact 82 (f := .int "MOST_TEXT" 2000) rfl)
    v_MOST_MESSAGE := He.int_ok X G (c.fact 83 (f := .int "MOST_MESSAGE" 200) rfl)
    v_MOST_TIME := He.int_ok X G (c.fact 84 (f := .int "MOST_TIME" 1000000000000) rfl)
    v_MOST := He.int_ok X G (c.fact 85 (f := .int "MOST" 12) rfl)
    v_MOST_ENTRIES := He.int_ok X G (c.fact 86 (f := .int "MOST_ENTRIES" 30) rfl)
    v_MOST_PARENTS := He.int_ok X G (c.fact 87 (f := .int "MOST_PARENTS" 6) rfl)
    v_LONG := He.int_ok X G (c.fact 88 (f := .int "LONG" 2305843009213693951) rfl)
    v_SHORT := He.int_ok X G (c.fact 89 (f := .int "SHORT" 251) rfl)
    v_FACTOR := He.int_ok X G (c.fact 90 (f := .int "FACTOR" 1000003) rfl)
    z_isinstance := He.free_ok X G (c.fact 91 (f := .free "isinstance") rfl)
    z_int := He.free_ok X G (c.fact 92 (f := .free "int") rfl)
    z_bool := He.free_ok X G (c.fact 93 (f := .free "bool") rfl)
    z_len := He.free_ok X G (c.fact 94 (f := .free "len") rfl)
    z_all := He.free_ok X G (c.fact 95 (f := .free "all") rfl)
    z_any := He.free_ok X G (c.fact 96 (f := .free "any") rfl)
    z_min := He.free_ok X G (c.fact 97 (f := .free "min") rfl)
    z_max := He.free_ok X G (c.fact 98 (f := .free "max") rfl)
    z_sorted := He.free_ok X G (c.fact 99 (f := .free "sorted") rfl)
    z_tuple := He.free_ok X G (c.fact 100 (f := .free "tuple") rfl)
    z_list := He.free_ok X G (c.fact 101 (f := .free "list") rfl)
    z_set := He.free_ok X G (c.fact 102 (f := .free "set") rfl)
    z_dict := He.free_ok X G (c.fact 103 (f := .free "dict") rfl)
    z_str := He.free_ok X G (c.fact 104 (f := .free "str") rfl)
    z_bytes := He.free_ok X G (c.fact 105 (f := .free "bytes") rfl)
    z_range := He.free_ok X G (c.fact 106 (f := .free "range") rfl)
    z_enumerate := He.free_ok X G (c.fact 107 (f := .free "enumerate") rfl)
    fnGet := id (ex_at e 8 (f := fun K => PySem.W.fnIn K (He.ma K (He.ga K "Store") "__getitem__")) rfl)
    neTree := He.eqO_ok (ex_at e 9 (f := fun K => He.eqO (PySem.W.findIn K (.ref (He.ga K "Tree")) "__ne__") (some (some (.builtin "object.__ne__")))) rfl)
    obTree := of_decide_eq_true (ex_at e 10 (f := fun K => decide (PySem.W.mroIn K (He.ga K "Tree") (.type "object") = some true)) rfl)
    ccTree := He.eqO_ok (ex_at e 11 (f := fun K => He.eqO (PySem.W.findIn K (.ref (He.ga K "Tree")) "__class__") (some (some (.builtin "object.__class__")))) rfl)
    neCommit := He.eqO_ok (ex_at e 12 (f := fun K => He.eqO (PySem.W.findIn K (.ref (He.ga K "Commit")) "__ne__") (some (some (.builtin "object.__ne__")))) rfl)
    obCommit := of_decide_eq_true (ex_at e 13 (f := fun K => decide (PySem.W.mroIn K (He.ga K "Commit") (.type "object") = some true)) rfl)
    ccCommit := He.eqO_ok (ex_at e 14 (f := fun K => He.eqO (PySem.W.findIn K (.ref (He.ga K "Commit")) "__class__") (some (some (.builtin "object.__class__")))) rfl)
    ccG := He.eqO_ok (ex_at e 15 (f := fun K => He.eqO (PySem.W.specialIn K (.builtin "object.__class__") "__get__") (some (some (.builtin "getset_descriptor.__get__")))) rfl)
    ccT := of_decide_eq_true (ex_at e 16 (f := fun K => decide (PySem.W.takesIn K (.builtin "object.__class__") = some true)) rfl)
    iTreeBlob := of_decide_eq_true (ex_at e 17 (f := fun K => decide (PySem.W.kitOne K (.ref (He.ga K "Tree")) (.ref (He.ga K "Blob")) = some false)) rfl)
    iTreeTree := of_decide_eq_true (ex_at e 18 (f := fun K => decide (PySem.W.kitOne K (.ref (He.ga K "Tree")) (.ref (He.ga K "Tree")) = some true)) rfl)
    iCommitBlob := of_decide_eq_true (ex_at e 19 (f := fun K => decide (PySem.W.kitOne K (.ref (He.ga K "Commit")) (.ref (He.ga K "Blob")) = some false)) rfl)
    iCommitTree := of_decide_eq_true (ex_at e 20 (f := fun K => decide (PySem.W.kitOne K (.ref (He.ga K "Commit")) (.ref (He.ga K "Tree")) = some false)) rfl)
    iCommitCommit := of_decide_eq_true (ex_at e 21 (f := fun K => decide (PySem.W.kitOne K (.ref (He.ga K "Commit")) (.ref (He.ga K "Commit")) = some true)) rfl)
    }, rfl, fun s u => FunD.bindsA (ps := ["_law_script"]) F_law (fun _ _ _ _ _ _ us hl => match us, hl with | [_], _ => rfl) s [u] rfl⟩
end K65

set_option maxHeartbeats 200000
/-! K65Plan: plans over a finite list, their least depth; plain Lean. -/
namespace K65
section
variable {α : Type} [DecidableEq α]

/-- a plan: a leaf, or a test with two plans -/
inductive Tree (α : Type) where
  | leaf (x : α)
  | node (n : α) (b g : Tree α)

def Tree.depth : Tree α → Nat
  | .leaf _ => 0
  | .node _ b g => 1 + max b.depth g.depth

variable (R : α → α → Bool)
def badOf (S : List α) (n : α) : List α := S.filter (R n)
def goodOf (S : List α) (n : α) : List α := S.filter fun x => !R n x

/-- n can be tested: it does not reach all -/
def IsTest (S : List α) (n : α) : Prop := n ∈ S ∧ (badOf R S n).length ≠ S.length

inductive Plan : List α → Tree α → Prop
  | leaf (x : α) : Plan [x] (.leaf x)
  | node (S : List α) (n : α) (b g : Tree α) : IsTest R S n → Plan (badOf R S n) b → Plan (goodOf R S n) g → Plan S (.node n b g)

/-- the least depth -/
def IsMin (S : List α) (d : Nat) : Prop := (∃ t, Plan R S t ∧ t.depth = d) ∧ ∀ t, Plan R S t → d ≤ t.depth

variable {R}
theorem IsMin.inj {S : List α} {d e : Nat} (h : IsMin R S d) (h' : IsMin R S e) : d = e := by
  obtain ⟨⟨t, p, rfl⟩, l⟩ := h
  obtain ⟨⟨u, q, rfl⟩, m⟩ := h'
  exact Nat.le_antisymm (l u q) (m t p)
theorem len_split (S : List α) (n : α) : (badOf R S n).length + (goodOf R S n).length = S.length := by
  unfold badOf goodOf
  induction S with
  | nil => rfl
  | cons a r ih =>
    rw [List.filter_cons, List.filter_cons, List.length_cons]
    cases h : R n a <;> simp [h] <;> omega
theorem good_pos {S : List α} {n : α} (h : IsTest R S n) : 0 < (goodOf R S n).length := by
  have e := len_split (R := R) S n
  have := h.2
  have : (badOf R S n).length ≤ S.length := List.length_filter_le ..
  omega
theorem bad_pos {S : List α} {n : α} (rf : ∀ x, x ∈ S → R x x = true) (h : n ∈ S) : 0 < (badOf R S n).length :=
  List.length_pos_of_mem (List.mem_filter.mpr ⟨h, rf n h⟩)
theorem mem_bad {S : List α} {n x : α} : x ∈ badOf R S n ↔ x ∈ S ∧ R n x = true := List.mem_filter
theorem mem_good {S : List α} {n x : α} : x ∈ goodOf R S n ↔ x ∈ S ∧ R n x = false := by
  unfold goodOf
  rw [List.mem_filter]
  simp
theorem isMin_one (x : α) : IsMin R [x] 0 := ⟨⟨_, .leaf x, rfl⟩, fun _ _ => Nat.zero_le _⟩
theorem Plan.one {S : List α} {t : Tree α} (p : Plan R S t) (rf : ∀ x, x ∈ S → R x x = true) (h : S.length = 1) : ∃ x, S = [x] ∧ t = .leaf x := by
  cases p with
  | leaf x => exact ⟨x, rfl, rfl⟩
  | node S n b g ht pb pg =>
    have h1 := good_pos ht
    have h2 := bad_pos rf ht.1
    have := len_split (R := R) S n
    omega
/-- one step of the search for the least depth -/
theorem isMin_step {S : List α} {n : α} {d d1 d2 : Nat} (hlen : S.length ≠ 1) (ht : IsTest R S n) (h1 : IsMin R (badOf R S n) d1) (h2 : IsMin R (goodOf R S n) d2) (hd : d = 1 + max d1 d2)
    (hl : ∀ m, IsTest R S m → ∃ e1 e2, IsMin R (badOf R S m) e1 ∧ IsMin R (goodOf R S m) e2 ∧ d ≤ 1 + max e1 e2) : IsMin R S d := by
  obtain ⟨⟨t1, p1, e1⟩, l1⟩ := h1
  obtain ⟨⟨t2, p2, e2⟩, l2⟩ := h2
  refine ⟨⟨.node n t1 t2, .node S n t1 t2 ht p1 p2, ?_⟩, fun t p => ?_⟩
  · show 1 + max t1.depth t2.depth = d
    omega
  · cases p with
    | leaf x => exact absurd rfl hlen
    | node S m b g hm pb pg =>
      obtain ⟨a1, a2, m1, m2, le⟩ := hl m hm
      have := m1.2 b pb
      have := m2.2 g pg
      show d ≤ 1 + max b.depth g.depth
      omega
/-- a set of two or more has a test -/
theorem exists_test {S : List α} (nd : S.Nodup) (as : ∀ x y, x ∈ S → y ∈ S → R x y = true → R y x = true → x = y) (h : 2 ≤ S.length) : ∃ n, IsTest R S n := by
  match S, nd, as, h with
  | a :: b :: r, nd, as, _ =>
    have hne : a ≠ b := fun e => by
      rw [e] at nd
      exact (List.nodup_cons.mp nd).1 (List.mem_cons_self)
    by_cases ha : (badOf R (a :: b :: r) a).length = (a :: b :: r).length
    · refine ⟨b, List.mem_cons_of_mem _ List.mem_cons_self, fun hb => hne ?_⟩
      have fa := List.length_filter_eq_length_iff.mp ha
      have fb := List.length_filter_eq_length_iff.mp hb
      exact as a b (by simp) (by simp) (fa b (by simp)) (fb a (by simp))
    · exact ⟨a, List.mem_cons_self, ha⟩
theorem isMin_pos {S : List α} {d : Nat} (h : IsMin R S d) (h2 : 2 ≤ S.length) : 1 ≤ d := by
  obtain ⟨⟨t, p, rfl⟩, _⟩ := h
  cases p with
  | leaf x => simp at h2
  | node S n b g ht pb pg =>
    show 1 ≤ 1 + _
    omega
theorem Plan.nonempty {S : List α} {t : Tree α} (p : Plan R S t) : 0 < S.length := by
  cases p with
  | leaf x => exact Nat.one_pos
  | node S n b g ht pb pg => exact List.length_pos_of_mem ht.1

/-! ### a plan leads to each -/
def walk (R : α → α → Bool) (x : α) : Tree α → Nat × α
  | .leaf y => (0, y)
  | .node n b g => let r := if R n x then walk R x b else walk R x g; (1 + r.1, r.2)
theorem walk_leaf (R : α → α → Bool) (x y : α) : walk R x (.leaf y) = (0, y) := rfl
theorem walk_node (R : α → α → Bool) (x n : α) (b g : Tree α) : walk R x (.node n b g) = (1 + (if R n x then walk R x b else walk R x g).1, (if R n x then walk R x b else walk R x g).2) := rfl
theorem walk_ends {S : List α} {t : Tree α} (p : Plan R S t) : ∀ x, x ∈ S → (walk R x t).2 = x ∧ (walk R x t).1 ≤ t.depth := by
  induction p with
  | leaf y =>
    intro x hx
    have : x = y := by simpa using hx
    subst this
    exact ⟨rfl, Nat.le_refl _⟩
  | node S n b g ht pb pg ib ig =>
    intro x hx
    rw [walk_node]
    show (if R n x then walk R x b else walk R x g).2 = x ∧ 1 + (if R n x then walk R x b else walk R x g).1 ≤ 1 + max b.depth g.depth
    cases e : R n x with
    | true =>
      obtain ⟨h1, h2⟩ := ib x (mem_bad.mpr ⟨hx, e⟩)
      rw [if_pos rfl]
      exact ⟨h1, by omega⟩
    | false =>
      obtain ⟨h1, h2⟩ := ig x (mem_good.mpr ⟨hx, e⟩)
      rw [if_neg (by simp)]
      exact ⟨h1, by omega⟩
theorem walk_most {S : List α} {t : Tree α} (p : Plan R S t) : ∃ x, x ∈ S ∧ (walk R x t).1 = t.depth := by
  induction p with
  | leaf y => exact ⟨y, List.mem_cons_self, rfl⟩
  | node S n b g ht pb pg ib ig =>
    by_cases h : g.depth ≤ b.depth
    · obtain ⟨x, hx, e⟩ := ib
      refine ⟨x, (mem_bad.mp hx).1, ?_⟩
      rw [walk_node, (mem_bad.mp hx).2]
      show 1 + (walk R x b).1 = 1 + max b.depth g.depth
      omega
    · obtain ⟨x, hx, e⟩ := ig
      refine ⟨x, (mem_good.mp hx).1, ?_⟩
      rw [walk_node, (mem_good.mp hx).2]
      show 1 + (walk R x g).1 = 1 + max b.depth g.depth
      omega

/-! ### lines -/
theorem plan_low {S : List α} {t : Tree α} (p : Plan R S t) : S.length ≤ 2 ^ t.depth := by
  induction p with
  | leaf y => exact Nat.le_refl _
  | node S n b g ht pb pg ib ig =>
    have e := len_split (R := R) S n
    show S.length ≤ 2 ^ (1 + max b.depth g.depth)
    have h1 : 2 ^ b.depth ≤ 2 ^ max b.depth g.depth := Nat.pow_le_pow_right (by decide) (Nat.le_max_left ..)
    have h2 : 2 ^ g.depth ≤ 2 ^ max b.depth g.depth := Nat.pow_le_pow_right (by decide) (Nat.le_max_right ..)
    rw [Nat.pow_add]
    omega
/-- S is a chain, ranked by f -/
structure Chain (R : α → α → Bool) (f : α → Nat) (S : List α) : Prop where
  nd : S.Nodup
  ch : ∀ x y, x ∈ S → y ∈ S → R x y = decide (f y ≤ f x)
  inj : ∀ x y, x ∈ S → y ∈ S → f x = f y → x = y
theorem Chain.filter {f : α → Nat} {S : List α} (c : Chain R f S) (p : α → Bool) : Chain R f (S.filter p) :=
  ⟨c.nd.filter _, fun x y hx hy => c.ch x y (List.mem_filter.mp hx).1 (List.mem_filter.mp hy).1, fun x y hx hy => c.inj x y (List.mem_filter.mp hx).1 (List.mem_filter.mp hy).1⟩
theorem exists_max (f : α → Nat) : ∀ (S : List α), S ≠ [] → ∃ m, m ∈ S ∧ ∀ x, x ∈ S → f x ≤ f m
  | [], h => absurd rfl h
  | [a], _ => ⟨a, by simp, fun x hx => by rw [List.mem_singleton.mp hx]; exact Nat.le_refl _⟩
  | a :: b :: r, _ => by
    obtain ⟨m, hm, h⟩ := exists_max f (b :: r) (by simp)
    by_cases e : f a ≤ f m
    · exact ⟨m, List.mem_cons_of_mem _ hm, fun x hx => (List.mem_cons.mp hx).elim (fun z => z ▸ e) (h x)⟩
    · exact ⟨a, List.mem_cons_self, fun x hx => (List.mem_cons.mp hx).elim (fun z => z ▸ Nat.le_refl _) fun z => Nat.le_trans (h x z) (by omega)⟩
theorem filter_ne_len {S : List α} (nd : S.Nodup) {m : α} (hm : m ∈ S) : (S.filter fun x => decide (x ≠ m)).length + 1 = S.length := by
  induction S with
  | nil => simp at hm
  | cons a r ih =>
    obtain ⟨h1, h2⟩ := List.nodup_cons.mp nd
    rw [List.filter_cons]
    by_cases e : a = m
    · subst e
      have : r.filter (fun x => decide (x ≠ a)) = r := List.filter_eq_self.mpr fun x hx => decide_eq_true fun z => h1 (z ▸ hx)
      rw [this]
      simp
    · have hm' : m ∈ r := (List.mem_cons.mp hm).resolve_left fun z => e z.symm
      have := ih h2 hm'
      simp only [ne_eq, e, not_false_iff, decide_true, if_true, List.length_cons]
      simp only [ne_eq] at this
      omega
/-- in a chain each rank is there -/
theorem chain_rank {f : α → Nat} : ∀ (k : Nat) (S : List α), S.length = k → Chain R f S → ∀ j, 1 ≤ j → j ≤ k → ∃ n, n ∈ S ∧ (badOf R S n).length = j := by
  intro k
  induction k with
  | zero => intro S _ _ j h1 h2; omega
  | succ k ih =>
    intro S hS c j h1 h2
    obtain ⟨m, hm, hmax⟩ := exists_max f S (fun e => by rw [e] at hS; simp at hS)
    by_cases hj : j = k + 1
    · refine ⟨m, hm, ?_⟩
      have : badOf R S m = S := List.filter_eq_self.mpr fun x hx => by
        rw [c.ch m x hm hx]
        exact decide_eq_true (hmax x hx)
      rw [this, hS, hj]
    · have hl := filter_ne_len c.nd hm
      obtain ⟨n, hn, e⟩ := ih (S.filter fun x => decide (x ≠ m)) (by omega) (c.filter _) j h1 (by omega)
      obtain ⟨hn1, hn2⟩ := List.mem_filter.mp hn
      have hnm : n ≠ m := of_decide_eq_true hn2
      refine ⟨n, hn1, ?_⟩
      rw [← e]
      unfold badOf
      rw [List.filter_filter]
      congr 1
      refine List.filter_congr fun x hx => ?_
      by_cases ex : x = m
      · subst ex
        have : R n x = false := by
          rw [c.ch n x hn1 hx]
          refine decide_eq_false fun z => hnm (c.inj n x hn1 hx ?_)
          have := hmax n hn1
          omega
        rw [this]
        simp
      · simp [ex]
theorem chain_high {f : α → Nat} : ∀ (d : Nat) (S : List α), 1 ≤ S.length → S.length ≤ 2 ^ d → Chain R f S → ∃ t, Plan R S t ∧ t.depth ≤ d := by
  intro d
  induction d with
  | zero =>
    intro S h1 h2 c
    obtain ⟨x, rfl⟩ := List.length_eq_one_iff.mp (show S.length = 1 by simp at h2; omega)
    exact ⟨_, .leaf x, Nat.le_refl _⟩
  | succ d ih =>
    intro S h1 h2 c
    by_cases h : S.length = 1
    · obtain ⟨x, rfl⟩ := List.length_eq_one_iff.mp h
      exact ⟨_, .leaf x, Nat.zero_le _⟩
    · rw [Nat.pow_succ] at h2
      obtain ⟨n, hn, e⟩ := chain_rank S.length S rfl c ((S.length + 1) / 2) (by omega) (by omega)
      have es := len_split (R := R) S n
      have ht : IsTest R S n := ⟨hn, by omega⟩
      obtain ⟨t1, p1, l1⟩ := ih (badOf R S n) (by omega) (by omega) (c.filter _)
      obtain ⟨t2, p2, l2⟩ := ih (goodOf R S n) (by omega) (by omega) (c.filter _)
      exact ⟨_, .node S n t1 t2 ht p1 p2, by show 1 + max t1.depth t2.depth ≤ d + 1; omega⟩
/-- the least d with 2 ^ d from n on -/
def IsLog (n d : Nat) : Prop := n ≤ 2 ^ d ∧ ∀ e, n ≤ 2 ^ e → d ≤ e
theorem IsLog.inj {n d e : Nat} (h : IsLog n d) (h' : IsLog n e) : d = e := Nat.le_antisymm (h.2 e h'.1) (h'.2 d h.1)
theorem chain_min {f : α → Nat} {S : List α} {d : Nat} (c : Chain R f S) (h : IsMin R S d) : IsLog S.length d := by
  obtain ⟨⟨t, p, e⟩, l⟩ := h
  refine ⟨e ▸ plan_low p, fun k hk => ?_⟩
  obtain ⟨u, q, le⟩ := chain_high k S p.nonempty hk c
  exact Nat.le_trans (l u q) le

/-! ### commits without parents, and one that reaches all -/
theorem roots_depth {h : α} {S : List α} {t : Tree α} (p : Plan R S t) : S.Nodup → (∀ x y, x ∈ S → y ∈ S → R x y = (decide (x = y) || decide (x = h))) → t.depth + 1 = S.length := by
  induction p with
  | leaf y => intro _ _; rfl
  | node S n b g ht pb pg ib ig =>
    intro nd hr
    have hn : n ≠ h := fun e => ht.2 (by
      have : badOf R S n = S := List.filter_eq_self.mpr fun x hx => by rw [hr n x ht.1 hx, e]; simp
      rw [this])
    have hb : badOf R S n = S.filter fun x => decide (x = n) := List.filter_congr fun x hx => by
      rw [hr n x ht.1 hx]
      simp only [hn, decide_false, Bool.or_false]
      exact decide_eq_decide.mpr ⟨Eq.symm, Eq.symm⟩
    have hl : (badOf R S n).length = 1 := by
      have e1 := filter_ne_len nd ht.1
      have e2 := len_split (R := fun a x => decide (x = a)) S n
      have e3 : (goodOf (fun a x => decide (x = a)) S n) = S.filter fun x => decide (x ≠ n) := List.filter_congr fun x _ => by simp
      rw [e3] at e2
      have e4 : badOf (fun a x => decide (x = a)) S n = badOf R S n := hb.symm
      rw [e4] at e2
      omega
    have i1 := ib (nd.filter _) fun x y hx hy => hr x y (mem_bad.mp hx).1 (mem_bad.mp hy).1
    have i2 := ig (nd.filter _) fun x y hx hy => hr x y (mem_good.mp hx).1 (mem_good.mp hy).1
    have := len_split (R := R) S n
    show 1 + max b.depth g.depth + 1 = S.length
    omega
theorem roots_min {h : α} {S : List α} {d : Nat} (nd : S.Nodup) (hr : ∀ x y, x ∈ S → y ∈ S → R x y = (decide (x = y) || decide (x = h))) (m : IsMin R S d) : d + 1 = S.length := by
  obtain ⟨⟨t, p, e⟩, _⟩ := m
  rw [← e]
  exact roots_depth p nd hr
end
end K65

set_option maxHeartbeats 200000
/-! K65Hex: f'{n:016x}' of a natural number. -/
namespace K65
open PySem PySem.Spec PyProof.Rows Builtin Builtin.Float

/-- the sixteen signs (or more) of a number in base sixteen -/
def hexL (n : Nat) : List Nat := List.replicate (16 - (Nat.toDigits 16 n).length) 48 ++ (Nat.toDigits 16 n).map Char.toNat
def hex16 (n : Nat) : Str := ⟨(hexL n).toArray⟩
abbrev sp16 : Str := Str.ofString "016x"
def fs16 : FormatSpec := { fill := 48, align := 61, width := some 16, type := some 120 }
theorem parse16 : parseFormatSpec sp16.cps.toList "int" 62 = .ok fs16 := by rfl

section
variable {prog : Program} {w : World} {A : Around} {E : Value → Shared → Prop} {s : Shared}
theorem wp_if_pos {α : Type} {M : Model} {c : Prop} {dc : Decidable c} {x y : Sem α} {Q : α → Shared → Prop} (hc : c) (h : wpAny M A x Q E s) : wpAny M A (if c then x else y) Q E s := by rw [if_pos hc]; exact h
theorem wp_if_neg {α : Type} {M : Model} {c : Prop} {dc : Decidable c} {x y : Sem α} {Q : α → Shared → Prop} (hc : ¬ c) (h : wpAny M A y Q E s) : wpAny M A (if c then x else y) Q E s := by rw [if_neg hc]; exact h
theorem formatField_hex {n : Nat} {t : Tok} {Q : Value → Shared → Prop} (hz : (hex16 n).length ≤ sizeLine)
    (h : Q (.str (hex16 n) (s.toks + 1)) { s with toks := s.toks + 1 + 1 }) : wpAny (model prog w) A (formatField (.int (n : Int) t) sp16) Q E s := by
  show wpAny _ _ (holding [.int (n : Int) t] (pyFormat (.int (n : Int) t) sp16)) Q E s
  refine wpAny_holding ?_
  unfold pyFormat
  refine wpAny_bind (wpAny_mkStr ?_ (by decide))
  refine wpAny_bind (m := callSpecial? (.int (n : Int) t) (Str.ofString "__format__") [.str sp16 s.toks]) (wpAny_callSpecial?_slot (name := Str.ofString "__format__") (typeIs_int _ _ t) F.slot_int_format ?_)
  refine wpAny_call (codeAny_call_builtin F.slot_int_format.plain F.entry_int_format (F.slot_int_format.check _ _ _ _ _ _ _ _ (typeIs_int _ _ t) (F.args_int_format_2 _ _) ?_))
  unfold Builtin.«int.__format__»
  simp only [selfAndOne, noKeywords, Int.intOfSelf, asInt?, asStr?, List.isEmpty_nil, if_true, pure_bind, bind_pure, bind_assoc, Bool.false_eq_true, if_false,
    show (Value.str sp16 s.toks == Value.none) = false from rfl, show (sp16.length == 0) = false from rfl, show (((sp16.cps.toList.drop 1).any (· ≥ 128) || (sp16.cps.getD 0 0 ≥ 128 && !([60, 62, 61, 94] : List Nat).contains (sp16.cps.getD 1 0))) = false) by decide]
  refine wpAny_bind (wpAny_typeNameOf (T := "str") (typeIs_str _ _ _) (by decide) fun _ => ?_)
  refine wpAny_bind (wpAny_typeNameOfCut_int ?_)
  simp only [parse16]
  refine wp_if_pos ?c1 ?_
  case c1 => decide
  show wpAny _ _ (retStr _) _ _ _
  have key : ∀ y : Str, y = hex16 n → wpAny (model prog w) A.in1 (retStr y)
      (fun fin s' => match fin with
        | .done f => (match (Except.ok f : Result) with
          | .ok (.ret v) => wpAny (model prog w) A (do if ← isInstance v (.type "str") then pure v else (do rule "format.no-str"; let t ← typeNameOf v; raiseErrorMade "TypeError" (toString "__format__ must return a str, not " ++ toString t))) Q E s'
          | .ok _ => False
          | .error e => E e s')
        | .again c' => c'.quiet = true ∧ codeAny (model prog w) A c' (fun r s' => match r with
          | .ok (.ret v) => wpAny (model prog w) A (do if ← isInstance v (.type "str") then pure v else (do rule "format.no-str"; let t ← typeNameOf v; raiseErrorMade "TypeError" (toString "__format__ must return a str, not " ++ toString t))) Q E s'
          | .ok _ => False
          | .error e => E e s') s') (fun e s' => E e s') { s with toks := s.toks + 1 } := fun y hy => by
    subst hy
    unfold retStr
    refine wpAny_bind (wpAny_mkStr (wpAny_pure ?_) hz)
    dsimp only
    exact wpAny_bind (wpAny_isInstance (typeIs_str _ _ _) isSubtype_str_str (wpAny_pure h))
  refine key _ ?_
  have hd : (decide ((n : Int) < 0)) = false := decide_eq_false (by omega)
  rw [hd]
  have hm : ∀ m : List Nat, m ≠ [] → (⟨(List.replicate 0 48 ++ ([] : List Nat) ++ [] ++ List.replicate (((16 : Nat) : Int) - (((0 : Nat) : Int) + ((0 : Nat) : Int) + ((0 : Nat) : Int)) - ((if m.isEmpty = true then [] else List.replicate ((((16 : Nat) : Int) - (((0 : Nat) : Int) + ((0 : Nat) : Int) + ((0 : Nat) : Int))).toNat - m.length) 48 ++ m).length : Int)).toNat 48 ++
      (if m.isEmpty = true then [] else List.replicate ((((16 : Nat) : Int) - (((0 : Nat) : Int) + ((0 : Nat) : Int) + ((0 : Nat) : Int))).toNat - m.length) 48 ++ m) ++ [] ++ List.replicate 0 48).toArray⟩ : Str) = ⟨(List.replicate (16 - m.length) 48 ++ m).toArray⟩ := fun m hm => by
    have e : m.isEmpty = false := by cases m with | nil => exact absurd rfl hm | cons a r => rfl
    simp only [e, Bool.false_eq_true, if_false]
    have e2 : ((((16 : Nat) : Int) - (((0 : Nat) : Int) + ((0 : Nat) : Int) + ((0 : Nat) : Int))).toNat - m.length) = 16 - m.length := by omega
    rw [e2]
    have e3 : (((16 : Nat) : Int) - (((0 : Nat) : Int) + ((0 : Nat) : Int) + ((0 : Nat) : Int)) - ((List.replicate (16 - m.length) 48 ++ m).length : Int)).toNat = 0 := by
      rw [List.length_append, List.length_replicate]
      omega
    rw [e3]
    simp
  have hne : (Nat.toDigits 16 n).map Char.toNat ≠ [] := fun e => by
    have := List.map_eq_nil_iff.mp e
    exact Nat.toDigits_ne_nil this
  have hl : ((Nat.toDigits 16 n).map Char.toNat).length = (Nat.toDigits 16 n).length := List.length_map ..
  refine Eq.trans ?_ (Eq.trans (hm ((Nat.toDigits 16 n).map Char.toNat) hne) ?_)
  · rfl
  · unfold hex16 hexL
    rw [hl]
end
end K65

namespace L2
open PySem PySem.Spec PyProof.Rows
section
variable {X : Cx}
/-- {e:016x} of a natural number -/
theorem pe_fmtHex {e : Expr} {te : TE} {k : Nat} {p1 p2 p3 : Pos} (he : PE X e te) :
    PE X (.FormattedValue e (-1) (some (.JoinedStr [.Constant (.str "016x") k p1] p2)) p3) (fun σ H Q => te σ H fun x H1 => ∃ n : Nat, x = .int (n : Int) ∧ (K65.hex16 n).length ≤ sizeLine ∧ Q (.str (K65.hex16 n)) H1) := by
  refine ⟨fun pins s σ H Q I h => ?_⟩
  refine PySem.wpAny_FormattedValue_spec (thn (he.run pins s σ H _ I h) fun v s1 hv => ?_)
  obtain ⟨x, H1, I1, r1, n, rfl, hz, q⟩ := hv
  obtain ⟨t, rfl⟩ := r1
  refine PySem.wpAny_JoinedStr_one (Calls.Constant_str ?_)
  exact ⟨_, _, rfl, K65.formatField_hex hz ⟨.str (K65.hex16 n), H1, (I1.tok _).tok _, ⟨_, rfl⟩, q⟩⟩
/-- x.encode() of an ascii text: bytes that are its signs' own numbers -/
def rEnc : V → List V → Hp → VK → Prop := fun x xs H Q => ∃ z : Str, x = .str z ∧ xs = [] ∧ PySem.W.KSb.Asc z ∧ z.length ≤ 16777216 ∧ ∀ c : Array UInt8, PySem.W.KBw.bInts c = PySem.W.KSb.codes z → Q (.byt c) H
theorem mt_encode : MtR X "str.encode" rEnc := by
  intro pins s σ H x xs v us Q I rx rv h
  obtain ⟨z, rfl, rfl, ha, hz, q⟩ := h
  cases rv
  obtain ⟨t, rfl⟩ := rx
  exact PySem.W.KSb.encode_K ha hz fun c t' k e _ _ => ⟨.byt c, H, I.tok k, ⟨t', rfl⟩, q c e⟩
end
end L2

set_option maxHeartbeats 4000000
/-! K65Own: x in o, x not in o, o[i], o != o of own classes. -/
namespace L2
open PySem PySem.Spec PyProof.Rows
section
variable {X : Cx} {CX : CXT} {k : Nat} {C g : Addr} {fd : FuncData} {ps : List Str} {sp : Sp} {E : XK}
/-- a callee of values runs at another depth -/
theorem run_fnAt {A : Around} {pins : List (Addr × Obj)} {σ : St} {H : Hp} {s : Shared} {Q : VK} {us : List Value} {vs : List V} (F : FnOk X.prog X.w X.K X.mg X.base CX k g fd ps sp) (hr : Room k A) (hf : A.frames = X.A.frames) (hb : Binds X.K fd ps []) (hx : Passes CX X E)
    (I : Inv X pins σ H s) (r : Vals vs us) (h : sp vs H Q E) : wpAny (model X.prog X.w) A (call (.ref g) us) (EP X pins σ Q) X.xe s := by
  have hl : us.length = ps.length := by rw [← r.length]; exact F.len _ _ _ _ h
  have e0 : Env0 X.prog X.w X.K X.mg X.base A X.stack s H := by
    have e := I.env0
    exact ⟨by rw [hf]; exact e.frames, e.mod, e.bs, e.bsz, e.funs, e.frf, e.hok, e.bare⟩
  refine wpAny_call (codeAny_mono (F.run A X.stack s H ⟨us, []⟩ us vs Q E hr e0 (by
    have := hb s us I.kIn (by simpa using hl)
    simpa using this) r h) fun r s' hq => ?_)
  cases r with
  | error e => exact hx pins σ H s e s' I hq
  | ok fl =>
    cases fl with
    | ret w => exact I.after hq
    | next => exact False.elim hq
    | brk => exact False.elim hq
    | cont => exact False.elim hq
/-- x in o: o's own __contains__, which gives a bool -/
def rOwnIn (C : Addr) (sp : Sp) (E : XK) (neg : Bool) : R2 := fun x y H Q => ∃ a dx fs, y = .ref a ∧ H a = some (.ins C dx fs) ∧ sp [.ref a, x] H (fun v H' => ∃ b, v = .bl b ∧ Q (.bl (if neg then !b else b)) H') E
theorem op_ownIn (hs : PySem.W.findIn X.K (.ref C) "__contains__" = some (some (.ref g))) (hf : PySem.W.isFn X.K (.ref g) = true) (F : FnOk X.prog X.w X.K X.mg X.base CX k g fd ps sp) (hr : Room k X.A) (hb : Binds X.K fd ps []) (hx : Passes CX X E) : OpR X (compareOp .In) (rOwnIn C sp E false) := by
  intro pins s σ H x y v u Q I rx ry h
  obtain ⟨a, dx, fs, rfl, ha, q⟩ := h
  cases (show u = Value.ref a from ry)
  obtain ⟨mA, J, _⟩ := ins_get I.hok ha
  obtain ⟨od, J, _⟩ := J.look
  obtain ⟨m, hF⟩ := I.fr
  refine PySem.W.in_K hF I.ok.mod.kin J hs hf (thn (run_fnAt (us := [.ref a, v]) (vs := [.ref a, x]) F hr rfl hb hx I (.cons rfl (.cons rx .nil)) q) fun w s' z => ?_)
  obtain ⟨z', H', I', rz, b, rfl, qz⟩ := z
  cases rz
  exact wpAny_truthy_bool ⟨.bl b, H', I', rfl, qz⟩
theorem op_ownNotIn (hs : PySem.W.findIn X.K (.ref C) "__contains__" = some (some (.ref g))) (hf : PySem.W.isFn X.K (.ref g) = true) (F : FnOk X.prog X.w X.K X.mg X.base CX k g fd ps sp) (hr : Room k X.A) (hb : Binds X.K fd ps []) (hx : Passes CX X E) : OpR X (compareOp .NotIn) (rOwnIn C sp E true) := by
  intro pins s σ H x y v u Q I rx ry h
  obtain ⟨a, dx, fs, rfl, ha, q⟩ := h
  cases (show u = Value.ref a from ry)
  obtain ⟨mA, J, _⟩ := ins_get I.hok ha
  obtain ⟨od, J, _⟩ := J.look
  obtain ⟨m, hF⟩ := I.fr
  refine PySem.W.notIn_K hF I.ok.mod.kin J hs hf (thn (run_fnAt (us := [.ref a, v]) (vs := [.ref a, x]) F hr rfl hb hx I (.cons rfl (.cons rx .nil)) q) fun w s' z => ?_)
  obtain ⟨z', H', I', rz, b, rfl, qz⟩ := z
  cases rz
  exact wpAny_truthy_bool ⟨.bl (!b), H', I', rfl, qz⟩
/-- o[i]: o's own __getitem__ -/
def tOwnIx (C : Addr) (sp : Sp) (E : XK) (ta tb : TE) : TE := fun σ H Q => ta σ H fun x H1 => tb σ H1 fun y H2 => ∃ a dx fs, x = .ref a ∧ H2 a = some (.ins C dx fs) ∧ sp [.ref a, y] H2 Q E
theorem pe_ownIx {a b : Expr} {ta tb : TE} {pos : Pos} (hs : PySem.W.findIn X.K (.ref C) "__getitem__" = some (some (.ref g))) (hf : PySem.W.isFn X.K (.ref g) = true) (hfn : PySem.W.fnIn X.K g = true) (F : FnOk X.prog X.w X.K X.mg X.base CX k g fd ps sp) (hr : Room (k + 1) X.A) (hb : Binds X.K fd ps []) (hx : Passes CX X E)
    (ha : PE X a ta) (he : PE X b tb) (hsl : ∀ ov iv, subscripted b true ov iv = runValue (.builtin "lifetime.subscript" ⟨[ov, iv], []⟩) := by intro _ _; with_unfolding_all rfl) : PE X (.Subscript a b pos) (tOwnIx C sp E ta tb) := by
  refine ⟨fun pins s σ H Q I h => ?_⟩
  refine Subscript_ (binT ha he I h fun v u s2 x y H2 I2 rx ry q => ?_)
  obtain ⟨p, dx, fs, rfl, hp, q⟩ := q
  cases (show v = Value.ref p from rx)
  obtain ⟨mA, J, _⟩ := ins_get I2.hok hp
  obtain ⟨od, J, _⟩ := J.look
  obtain ⟨m, hF⟩ := I2.fr
  exact PySem.W.sub_K hF I2.ok.mod.kin J hs hfn hf (run_fnAt (us := [.ref p, u]) (vs := [.ref p, y]) F hr.in1 rfl hb hx I2 (.cons rfl (.cons ry .nil)) q) (hsl _ _)

/-- o != p of one own class with an own __eq__ and no own __ne__ -/
def rOwnNe (C : Addr) (sp : Sp) (E : XK) : R2 := fun x y H Q => ∃ a dx fs b dy gs, x = .ref a ∧ y = .ref b ∧ H a = some (.ins C dx fs) ∧ H b = some (.ins C dy gs) ∧ sp [.ref a, .ref b] H (fun v H' => ∃ c, v = .bl c ∧ Q (.bl (!c)) H') E
theorem op_ownNe (hn : PySem.W.findIn X.K (.ref C) "__ne__" = some (some (.builtin "object.__ne__"))) (ho : PySem.W.mroIn X.K C (.type "object") = some true) (hs : PySem.W.findIn X.K (.ref C) "__eq__" = some (some (.ref g))) (hf : PySem.W.isFn X.K (.ref g) = true) (F : FnOk X.prog X.w X.K X.mg X.base CX k g fd ps sp)
    (hr : Room (k + 1) X.A) (hb : Binds X.K fd ps []) (hx : Passes CX X E) : OpR X (compareOp .NotEq) (rOwnNe C sp E) := by
  intro pins s σ H x y v u Q I rx ry h
  obtain ⟨a, dx, fs, b, dy, gs, rfl, rfl, ha, hb', q⟩ := h
  cases (show v = Value.ref a from rx)
  cases (show u = Value.ref b from ry)
  obtain ⟨mA, J, _⟩ := ins_get I.hok ha
  obtain ⟨mB, J', _⟩ := ins_get I.hok hb'
  obtain ⟨od, J, _⟩ := J.look
  obtain ⟨od', J', _⟩ := J'.look
  have X0 := I.kIn
  show wpAny (model X.prog X.w) X.A (richCompare .NotEq (.ref a) (.ref b)) (EP X pins σ Q) X.xe s
  unfold richCompare
  simp only [oneThing_ref]
  refine wpAny_holding (wpAny_bind (wpAny_cRoomFor hr.units0 ?_))
  rw [cmpInfo_NotEq]
  dsimp only
  refine wpAny_bind (J.type.here (wpAny_bind (J'.type.here ?_)))
  rw [show (Value.ref C != Value.ref C) = false from by simp]
  simp only [Bool.false_eq_true, if_false]
  refine wpAny_bind (wpAny_pure ?_)
  simp only [Bool.false_eq_true, if_false]
  have key : wpAny (model X.prog X.w) X.A (tryCompare (.ref a) "__ne__" (.ref b)) (fun r s' => ∃ v, r = some v ∧ EP X pins σ Q v s') X.xe s := by
    simp only [tryCompare]
    refine wpAny_bind ?_
    simp only [callSpecialIfBound?, bindSpecialIfBound?]
    refine wpAny_holding (wpAny_bind (wpAny_bind (wpAny_bind (J.type.here ((PySem.W.looks_findIn X0 hn).here ?_)))))
    simp only [PySem.F.cmp_object.ne.bind]
    have fin : wpAny (model X.prog X.w) X.A (call (.builtin "object.__ne__") [.ref a, .ref b]) (fun v s' => ∃ c, v = .bool c ∧ EP X pins σ Q v s') X.xe s := by
      refine wpAny_call (codeAny_call_builtin PySem.F.cmp_object.ne.plain PySem.F.cmpEntry_ne (PySem.W.check_slot PySem.F.cmpKind_ne PySem.F.cmpSplit_ne (J.type.andThen (PySem.W.looks_mroIn X0 ho)) (PySem.F.cmpArgs_ne _ _) ?_))
      have step : wpAny (model X.prog X.w) X.A.in1 (callSpecialIfBound? (.ref a) (Str.ofString "__eq__") [.ref b]) (fun r s' => ∃ c, r = some (.bool c) ∧ EP X pins σ Q (.bool (!c)) s') X.xe s := by
        refine PySem.W.ifBound_K X0 J hs hf (thn (run_fnAt (us := [.ref a, .ref b]) (vs := [.ref a, .ref b]) F hr.in1 rfl hb hx I (.cons rfl (.cons rfl .nil)) q) fun w s' z => ?_)
        obtain ⟨z', H', I', rz, c, rfl, qz⟩ := z
        cases rz
        exact ⟨c, rfl, .bl (!c), H', I', rfl, qz⟩
      show wpAny (model X.prog X.w) X.A.in1 (Builtin.«object.__ne__» ⟨[.ref a, .ref b], []⟩) _ _ _
      unfold Builtin.«object.__ne__»
      repeat (first
        | with_reducible refine wpAny_cRoomFor (Room.units0 hr.in1) ?_
        | (refine wpAny_bind (m := callSpecialIfBound? (.ref a) (Str.ofString "__eq__") [.ref b]) (thn step fun r s' hr' => ?_))
        | wp_step)
      obtain ⟨c, rfl, hq⟩ := hr'
      exact wpAny_bind (wpAny_truthy_bool (wpAny_pure ⟨_, rfl, hq⟩))
    have fin2 : wpAny (model X.prog X.w) X.A (call (.builtin "object.__ne__") ([.ref a] ++ [.ref b]) >>= fun v => pure (some v)) (fun r s' => ∃ c, r = some (.bool c) ∧ EP X pins σ Q (.bool c) s') X.xe s :=
      wpAny_bind (wpAny_mono fin (fun v s' h' => wpAny_pure (by obtain ⟨c, rfl, q⟩ := h'; exact ⟨c, rfl, q⟩)) fun _ _ h' => h')
    have fin3 : wpAny (model X.prog X.w) X.A (call (.builtin "object.__ne__") ([.ref a] ++ [.ref b]) >>= fun v => pure (some v)) (fun r s' => wpAny (model X.prog X.w) X.A (match r with | some .notImplemented => pure none | none => pure none | some x => pure (some x)) (fun r s' => ∃ v, r = some v ∧ EP X pins σ Q v s') X.xe s') X.xe s :=
      thn fin2 fun r s' h' => by
        obtain ⟨c, rfl, q⟩ := h'
        exact wpAny_pure ⟨_, rfl, q⟩
    refine wpAny_bind (wpAny_askSetting (wpAny_ite ?_))
    split
    · exact wpAny_bind (wpAny_pure (wpAny_pure (by exact fin3)))
    · exact wpAny_tryCatch (wpAny_bind (wpAny_pure (wpAny_pure (by exact fin3))))
  refine wpAny_bind (thn key fun r s' z => ?_)
  obtain ⟨v, rfl, hq⟩ := z
  exact wpAny_pure hq
end
end L2

set_option maxHeartbeats 2000000
/-! K65Min: min of a list of alike data; sorted of alike data (lists). -/
namespace K65
open PySem PySem.W PySem.SeqAt PyProof.Rows
theorem le_total : TotalLe (dataLe false (fun d : PyData => d)) := sortLe_total (listOrd itemOrd) false fun d => keyToks d
theorem minD_least : ∀ (xs : List PyData) (x : PyData), (minD x xs = x ∨ minD x xs ∈ xs) ∧ dataLt x (minD x xs) = false ∧ ∀ y, y ∈ xs → dataLt y (minD x xs) = false := by
  have tr : ∀ a b c : PyData, dataLt b a = false → dataLt c b = false → dataLt c a = false := fun a b c h1 h2 => by
    have e := le_total.trans a b c (show (!dataLt b a) = true by rw [h1]; rfl) (show (!dataLt c b) = true by rw [h2]; rfl)
    simpa using (show (!dataLt c a) = true from e)
  have rf : ∀ a : PyData, dataLt a a = false := fun a => lex_irrefl _
  have as : ∀ a b : PyData, dataLt a b = true → dataLt b a = false := fun a b h => by
    have e := le_total.total a b
    rcases e with e | e
    · simpa using (show (!dataLt b a) = true from e)
    · have e : (!dataLt a b) = true := e
      rw [h] at e
      cases e
  intro xs
  induction xs with
  | nil => intro x; exact ⟨.inl rfl, rf x, fun y h => nomatch h⟩
  | cons z r ih =>
    intro x
    have e : minD x (z :: r) = minD (if dataLt z x then z else x) r := rfl
    rw [e]
    cases h : dataLt z x with
    | true =>
      obtain ⟨h1, h2, h3⟩ := ih z
      rw [if_pos rfl]
      refine ⟨.inr (h1.elim (fun q => by rw [q]; exact List.mem_cons_self) fun q => List.mem_cons_of_mem _ q), ?_, fun y hy => ?_⟩
      · exact tr _ _ _ h2 (as _ _ h)
      · rcases List.mem_cons.mp hy with rfl | hy
        · exact h2
        · exact h3 y hy
    | false =>
      obtain ⟨h1, h2, h3⟩ := ih x
      rw [if_neg (by simp)]
      refine ⟨h1.elim .inl fun q => .inr (List.mem_cons_of_mem _ q), h2, fun y hy => ?_⟩
      rcases List.mem_cons.mp hy with rfl | hy
      · exact tr _ _ _ h2 h
      · exact h3 y hy
theorem lt_is (a b : Int) (x y : Str) : dataLt (.tuple [.int a, .str x]) (.tuple [.int b, .str y]) = decide (a < b ∨ a = b ∧ x.cps.toList < y.cps.toList) := by
  rw [dataLt_pair (by simp [alike]) (by simp [alike]), dataLt_int, dataLt_str]
  simp only [PyData.eqv, beq_iff_eq]
  by_cases h1 : a = b
  · by_cases h2 : x = y
    · subst h2
      simp [h1, List.lt_irrefl]
    · simp [h1, h2]
  · simp [h1]
theorem lt_iis (a a' b b' : Int) (x y : Str) : dataLt (.tuple [.int a, .int a', .str x]) (.tuple [.int b, .int b', .str y]) = decide (a < b ∨ a = b ∧ (a' < b' ∨ a' = b' ∧ x.cps.toList < y.cps.toList)) := by
  rw [dataLt_tuple, dataLt_cons (by simp [alike])]
  have e := lt_is a' b' x y
  rw [dataLt_tuple] at e
  rw [e, dataLt_int]
  simp only [PyData.eqv, beq_iff_eq]
  by_cases h1 : a = b <;> simp [h1]
end K65
namespace L2
open PySem PySem.Spec PyProof.Rows PySem.W
section
variable {X : Cx}
theorem DpAll.get {K : PySem.W.Frag} {H : Hp} : ∀ {xs : List V} {ds : List PyData} {i : Nat} {v : V}, DpAll K H xs ds → xs[i]? = some v → ∃ d, ds[i]? = some d ∧ Dp K H v d
  | _, _, _, _, .nil, h => by simp at h
  | _, _, 0, _, .cons a _, h => by simp at h; subst h; exact ⟨_, rfl, a⟩
  | _, _, i + 1, _, .cons _ r, h => by
    obtain ⟨d, h1, h2⟩ := r.get (i := i) (by simpa using h)
    exact ⟨d, by simpa using h1, h2⟩
theorem DpAll.length {K : PySem.W.Frag} {H : Hp} : ∀ {xs : List V} {ds : List PyData}, DpAll K H xs ds → xs.length = ds.length
  | _, _, .nil => rfl
  | _, _, .cons _ r => congrArg (· + 1) r.length
/-- min(xs), xs a list of alike data: the item that is the first of the least -/
def rMinD (K : PySem.W.Frag) : List V → Hp → VK → Prop := fun vs H Q => ∃ (a : Addr) (xs : List V) (d : PyData) (ds : List PyData), vs = [V.ref a] ∧ SqL K H a xs ∧ DpAll K H xs (d :: ds) ∧ AlikeAll (d :: ds) ∧ PyData.depthAll (d :: ds) ≤ 8 ∧
  ∀ (i : Nat) (v : V), xs[i]? = some v → (d :: ds)[i]? = some (minD d ds) → Q v H
theorem cr_minD (hc : X.calm = true) (hu : X.A.units + 64 < cLine) : CallR X (.builtin "min") (rMinD X.K) := by
  intro pins s σ H vs us Q I r h
  obtain ⟨a, xs, d, ds, rfl, hs, hp, ha, hz, q⟩ := h
  obtain ⟨its, rv, hl, _⟩ := I.list hs
  rw [Vals.ref1 r]
  obtain ⟨as, hr⟩ := Dp.readsAll I (d :: ds) xs its hp rv
  refine PySem.W.min_list_data (I.ok.hd hc) hl.isList (as := as) (x := d) (xs := ds) (by simpa using hr) ha (by omega) fun i v h' tk bs hv hd hk => ?_
  have hi : i < its.length := by
    have := Array.getElem?_eq_some_iff.mp hv
    obtain ⟨z, _⟩ := this
    simpa using z
  have hv' : its[i]? = some v := by simpa using hv
  have hxl : i < xs.length := by rw [rv.length]; exact hi
  obtain ⟨y, hy⟩ : ∃ y, xs[i]? = some y := ⟨_, List.getElem?_eq_getElem hxl⟩
  obtain ⟨u, hu1, ru⟩ := rv.get hy
  rw [hv'] at hu1
  cases hu1
  obtain ⟨e, he, pe⟩ := hp.get hy
  obtain ⟨cs, rc⟩ := Dp.reads I e y v pe ru
  have rc' : Reads h' v e cs := PySem.W.reads_keeps hk rc
  have hm : minD d ds ∈ d :: ds := by
    rcases (K65.minD_least ds d).1 with q | q
    · rw [q]; exact List.mem_cons_self
    · exact List.mem_cons_of_mem _ q
  have he' : e ∈ d :: ds := List.mem_of_getElem? he
  have e1 : e = minD d ds := PySem.W.alike_unique e (minD d ds) v cs bs (ha.1 _ he' _ hm) rc' hd
  exact ⟨y, H, I.kept hk, ru, q i y hy (e1 ▸ he)⟩
end
end L2

set_option maxHeartbeats 2000000
/-! K65Ext: xs.extend(t), t a tuple. -/
namespace PySem
open Sem (wp)
open Builtin
namespace AutoSeq1
theorem list_extend_tup (l : Addr) (items : Array Value) (n : Nat) (b : Addr) (dd : Option Addr) (sl : Array (Option Value)) (items2 : Array Value) (n2 : Nat) (hs0 : ¬(!items.isEmpty && Builtin.List.listTooLong (items.size + items2.size)) = true) (hs1 : items.size ≤ sizeLine) (hs2 : items.size + items2.size ≤ sizeLine + 1) :
    Meets (Builtin.«list.extend» ⟨[.ref l, .ref b], []⟩) (fun _ R s => s.heap.get? l = some { cls := .type "list", dict := none, data := .seq items n, slots := #[] } ∧ s.heap.get? b = some { cls := .type "tuple", dict := dd, data := .seq items2 n2, slots := sl } ∧ R (.ok (.ret Value.none)) { s with heap := s.heap.update l (Obj.mapSeq fun x => x ++ items2), toks := s.toks }) :=
  .of_wp fun prog w A R s h => by
    obtain ⟨hp, g, d, tk, os⟩ := s; obtain ⟨hl, hb, h⟩ := h; have f1 := idx_int; have f2 := sub_tuple_tuple; have f3 := sub_list_list; have f4 := sub_tuple_list; have f5 := sub_list_tuple;
    have hz' : (items ++ items2).size ≤ sizeLine + 1 := by rw [Array.size_append]; exact hs2
    wp_walk using (wpAny_updateSeq hl rfl (hz := hs1) (_hz' := hz')), wpAny_loadPart' hl, wpAny_loadPart' hb; exact ⟨_, rfl, h⟩
end AutoSeq1
end PySem
namespace L2
open PySem PySem.Spec PyProof.Rows
section
variable {X : Cx}
/-- xs.extend(t), t a tuple -/
def rExtT (K : PySem.W.Frag) : V → List V → Hp → VK → Prop := fun x vs H Q => ∃ l b xs zs, x = .ref l ∧ vs = [.ref b] ∧ H l = some (.lst xs) ∧ SqT K H b zs ∧ xs.length + zs.length ≤ sizeLine ∧ Q .non (upd H l (.lst (xs ++ zs)))
theorem mt_extT : MtM X "list.extend" (rExtT X.K) := by
  intro pins s σ H x vs v us Q I rx rv h
  obtain ⟨l, b, xs, zs, rfl, rfl, hH, hB, hz, q⟩ := h
  cases rx
  obtain ⟨u, rfl, ru⟩ := rv.one
  cases ru
  obtain ⟨z, its, n, r, hl, e⟩ := I.lstM hH
  obtain ⟨its2, r2, ⟨o, ho, hc, n2, hd⟩, _⟩ := I.tuple hB
  have hl2 := r2.length
  have hsz : its.toArray.size + its2.toArray.size ≤ sizeLine := by rw [List.size_toArray, List.size_toArray]; omega
  have hlong : ¬ (!its.toArray.isEmpty && Builtin.List.listTooLong (its.toArray.size + its2.toArray.size)) = true := by
    rw [notLongL hsz, Bool.and_false]
    exact Bool.false_ne_true
  obtain ⟨c, dd, dt, sl⟩ := o
  have hc : c = .type "tuple" := hc
  have hd : dt = .seq its2.toArray n2 := hd
  subst hc hd
  refine call_meets F.slot_list_extend ⟨_, e, rfl⟩ F.entry_list_extend (F.args_list_extend_2 _ _)
    (AutoSeq1.list_extend_tup l its.toArray n b dd sl its2.toArray n2 hlong (by rw [List.size_toArray]; omega) (by omega)) ⟨e, ho, ?_⟩
  refine ⟨.non, _, I.lset (its' := its ++ its2) hH e (by simp) (r.append r2) ?_, rfl, q⟩
  rw [List.length_append]
  omega
end
end L2

set_option maxHeartbeats 2000000
/-! K65Upd: d.update(e), two dicts of ints and texts. -/
namespace L2
open PySem PySem.Spec PyProof.Rows
section
variable {X : Cx}
def rUpd : V → List V → Hp → VK → Prop := fun x vs H Q => ∃ (a b : Addr) (ks ms : List (Key × V)), x = .ref a ∧ vs = [.ref b] ∧ a ≠ b ∧ H a = some (.dK ks) ∧ Rd H b (.dK ms) ∧ ks.length + ms.length ≤ sizeLine ∧ Q .non (upd H a (.dK (mergeK ks ms)))
theorem mt_upd : MtR X "dict.update" rUpd := by
  intro pins s σ H x vs v us Q I rx rv h
  obtain ⟨a, b, ks, ms, rfl, rfl, hab, ha, hb, hz, q⟩ := h
  obtain rfl : v = Value.ref a := rx
  obtain ⟨u, rfl, ru⟩ := rv.one
  cases ru
  obtain ⟨z, hd, vs, rel, dd⟩ := dk_of I.hok ha
  obtain ⟨z2, hd2, vs2, rel2, dd2⟩ := dk_rd I.hok hb
  refine call_meetsIn PySem.F.slot_dict_update dd.typeIs PySem.F.entry_dict_update (PySem.F.args_dict_update_2 _ _) (meets_dict_update (mixKind X.prog X.w) a b hab hd2) ⟨vs, vs2, dd, dd2, by rw [← Paired.length rel, ← Paired.length rel2]; exact hz, fun h' dd' _ hs => ?_⟩
  have he : ∃ q, h'.get? a = some q := let ⟨q, _, _, hq, _⟩ := dd'; ⟨q, hq⟩
  have rm : KV (mergeK ks ms) (merged vs vs2) := KV.merge rel2 rel
  refine ⟨.non, upd H a (.dK (mergeK ks ms)), d_write (t' := s.toks) I (by rw [ha]; exact True.intro) hs he (dk_new ?_ hd rm dd'), rfl, q⟩
  have := merged_length_le vs vs2
  rw [Paired.length rm]
  rw [Paired.length rel, Paired.length rel2] at hz
  omega
end
end L2

set_option maxHeartbeats 200000
/-! K65Rules: small rules and words of our own. -/
namespace K65
open PySem L2
/-! ### attributes -/
theorem putF_new {f : Str} {v : V} : ∀ {fs : List (Str × V)}, (∀ p ∈ fs, ¬ p.1 = f) → putF f v fs = fs ++ [(f, v)]
  | [], _ => rfl
  | (g, x) :: r, h => by
    show (if g = f then (g, v) :: r else (g, x) :: putF f v r) = _
    rw [if_neg (h (g, x) List.mem_cons_self), putF_new fun p hp => h p (List.mem_cons_of_mem _ hp)]
    rfl
theorem lk0 {k : Str} {v : V} {r : List (Str × V)} : ((k, v) :: r).lookup k = some v := by simp [List.lookup]
theorem lkS {k k' : Str} {v : V} {r : List (Str × V)} (h : (k == k') = false) : ((k', v) :: r).lookup k = r.lookup k := by simp [List.lookup, h]
theorem lkN {k : Str} : ([] : List (Str × V)).lookup k = none := rfl
/-! ### heaps -/
theorem same_new {H : Hp} {p : Addr} {o : HO} (h : H p = none) : Same H (upd H p o) := fun b u e => by
  rw [upd_ne (ne_of_none e h)]
  exact e
/-- what stood ahead of a new object stands though that object is written again -/
theorem same_mut {H H' : Hp} {p : Addr} {o : HO} (s : Same H H') (h : H p = none) : Same H (upd H' p o) := fun b u e => by
  rw [upd_ne (ne_of_none e h)]
  exact s b u e
theorem same_step {H H' : Hp} {p : Addr} {o : HO} (s : Same H H') (h : H' p = none) : Same H (upd H' p o) := s.trans (same_new h)
/-- a lock set and taken away again -/
theorem same_unlock {H H' : Hp} {d : Addr} {od : Obj} {u : HO} (hd : H d = some u) (s : Same (upd H d (.frz od u)) H') : Same H (upd H' d u) := fun b o e => by
  by_cases hb : b = d
  · subst hb
    rw [upd_same]
    rw [hd] at e
    exact e
  · rw [upd_ne hb]
    exact s b o (by rw [upd_ne hb]; exact e)
theorem sqt_same {K : PySem.W.Frag} {H H' : Hp} {a : Addr} {xs : List V} (e : Same H H') (h : SqT K H a xs) : SqT K H' a xs := by
  rcases h with (h | ⟨o, h⟩) | h
  · exact .inl (.inl (e _ _ h))
  · exact .inl (.inr ⟨o, e _ _ h⟩)
  · exact .inr h
theorem rd_same {H H' : Hp} {a : Addr} {u : HO} (e : Same H H') (h : Rd H a u) : Rd H' a u := by
  rcases h with h | ⟨o, h⟩
  · exact .inl (e _ _ h)
  · exact .inr ⟨o, e _ _ h⟩
/-! ### values of tests -/
theorem bT {p : Prop} [Decidable p] (h : p) : V.bl (decide p) = V.bl true := congrArg V.bl (decide_eq_true h)
theorem bF {p : Prop} [Decidable p] (h : ¬ p) : V.bl (decide p) = V.bl false := congrArg V.bl (decide_eq_false h)
theorem qT {p : Prop} [Decidable p] {Q : VK} {H : Hp} (h : p) (k : Q (.bl true) H) : Q (.bl (decide p)) H := by
  rw [decide_eq_true h]
  exact k
theorem qF {p : Prop} [Decidable p] {Q : VK} {H : Hp} (h : ¬ p) (k : Q (.bl false) H) : Q (.bl (decide p)) H := by
  rw [decide_eq_false h]
  exact k
/-- an element that is kept without a test -/
theorem lcY {te : TE} {σ : L2.St} {H : Hp} {Q : V → Hp → Prop} {R : Hp → Prop} (h : te σ H Q) : tYes σ H (fun b H3 => if b = true then te σ H3 Q else R H3) := iteT (B := R H) h
end K65
namespace L2
open PySem PySem.Spec PyProof.Rows
section
variable {X : Cx}
/-- an expression that is never reached -/
def tNo : TE := fun _ _ _ => False
theorem pe_never {e : Expr} : PE X e tNo := ⟨fun _ _ _ _ _ _ h => h.elim⟩
/-- a thing that nobody writes any more is frozen -/
def tFrz (te : TE) : TE := fun σ H Q => te σ H fun v H1 => ∃ d u, v = .ref d ∧ H1 d = some u ∧ Mut (some u) ∧ ∀ od, Q (.ref d) (upd H1 d (.frz od u))
theorem pe_frz {e : Expr} {te : TE} (h : PE X e te) : PE X e (tFrz te) := by
  refine ⟨fun pins s σ H Q I hw => ?_⟩
  refine thn (h.run pins s σ H _ I hw) fun v s1 ⟨x, H1, I1, r, d, u, ex, hd, mu, q⟩ => ?_
  subst ex
  obtain ⟨od, I2⟩ := I1.lock hd mu
  exact ⟨.ref d, _, I2, r, q od⟩
end
end L2

set_option maxHeartbeats 200000
/-! K65Words: forkhaul.words. -/
namespace K65
open PySem L2
section
variable {P : Program} {w : World} {K : PySem.W.Frag} {mg : Str → Option Value} {base : Heap}
/-- is_whole of an int -/
def spWhole : Sp := fun vs H Q _ => ∃ i, vs = [.int i] ∧ Q (.bl true) H
theorem sc_is_whole : FnScope ["thing"] ["thing"] (defScope s_is_whole) := ⟨rfl, rfl, rfl, by decide +kernel, rfl, by decide +kernel, by decide +kernel⟩
theorem ok_is_whole (T : W K mg) : FnOk P w K mg base CX0 1 T.a_is_whole T.d_is_whole ["thing"] spWhole := by
  refine T.F_is_whole.ok sc_is_whole (fun vs H Q E h => ?_) (fun cdv A outer s H vs Q E hr h => ?_)
  · obtain ⟨i, rfl, _⟩ := h
    rfl
  · obtain ⟨i, rfl, k⟩ := h
    refine ⟨_, pss_one (ps_ret (pe_and (pe_callB call_isi (by rfl) T.z_isinstance (by decide +kernel) (pa_cons (pv 0) (pa_cons (pe_bltn (v := .ty "int") (by rfl) T.z_int (by decide +kernel) rfl) pa_nil)))
      (pe_one (pe_not (pe_callB call_isi (by rfl) T.z_isinstance (by decide +kernel) (pa_cons (pv 0) (pa_cons (pe_bltn (v := .ty "bool") (by rfl) T.z_bool (by decide +kernel) rfl) pa_nil))))))), ?_⟩
    refine ⟨_, rfl, _, _, _, _, true, rfl, .ty "int", .base (.int i), kit_ty (by decide +kernel), true, rfl, iteT ?_⟩
    exact ⟨_, rfl, _, _, _, _, false, rfl, .ty "bool", .base (.int i), kit_ty (by decide +kernel), false, rfl, k⟩
/-- all([sign in signs for sign in text]), each sign is -/
def spOnly : Sp := fun vs H Q _ => ∃ x z : Str, vs = [.str x, .str z] ∧ x.length ≤ 10000 ∧ (∀ c ∈ x.cps.toList, c ∈ z.cps.toList) ∧ ∀ H', Same H H' → Q (.bl true) H'
theorem sc_has_only : FnScope ["text", "signs", "sign"] ["text", "signs"] (defScope s_has_only) := ⟨rfl, rfl, rfl, by decide +kernel, rfl, by decide +kernel, by decide +kernel⟩
theorem ok_has_only (T : W K mg) : FnOk P w K mg base CX0 1 T.a_has_only T.d_has_only ["text", "signs"] spOnly := by
  refine T.F_has_only.ok sc_has_only (fun vs H Q E h => ?_) (fun cdv A outer s H vs Q E hr h => ?_)
  · obtain ⟨x, z, rfl, _⟩ := h
    rfl
  · obtain ⟨x, z, rfl, hz, hc, k⟩ := h
    refine ⟨_, pss_one (ps_ret (pe_callB (cr_all rfl) (by rfl) T.z_all (by decide +kernel) (pa_cons
      (pe_lc (own := [("sign", 2)]) (g := gName 2) (tt := tYes) rfl sc_has_only.nd (pi_str (pv 0)) (blkOk_by (N := ["text", "signs", "sign"]) (sc := defScope s_has_only) (by decide +kernel))
        (fun _ _ _ _ _ => pg_name (i := 2) sc_has_only.nd rfl (Or.inl rfl)) (fun _ _ _ _ _ => pts_nil) (fun _ _ _ _ _ => pe_cmpR op_in_sign (pv 2) (pv 1) rfl)) pa_nil))), ?_⟩
    refine ⟨_, rfl, x, rfl, fun D hD => lc_it walk_str (fun i H' => i ≤ x.cps.size ∧ Same H H' ∧ H' D = some (.lst (List.replicate i (.bl true)))) ⟨Nat.zero_le _, fun b o e => by rw [upd_ne (ne_of_none e hD)]; exact e, upd_same⟩ (fun _ _ _ _ => trivial) ?_ ?_⟩
    · rintro i v H1 H2 hi ⟨_, s1, h1⟩ ⟨rfl, c, hx, rfl⟩
      have hm : c ∈ z.cps.toList := hc c (Array.mem_toList_iff.mpr (Array.mem_of_getElem? hx))
      refine ⟨rfl, lcY ⟨_, rfl, _, rfl, c, z, rfl, rfl, _, h1, ?_, hi, fun b o e => ?_, ?_⟩⟩
      · rw [List.length_replicate]
        have : x.cps.size = x.length := rfl
        exact Nat.lt_of_lt_of_le (by omega : i < 10001) (by decide)
      · rw [upd_ne (ne_of_none e hD)]
        exact s1 b o e
      · rw [upd_same, decide_eq_true hm, List.replicate_succ']
    · rintro H1 ⟨_, s1, h1⟩
      refine ⟨D, List.replicate x.cps.size true, rfl, SqL.of (by rw [List.map_replicate]; exact h1), ?_⟩
      rw [List.all_eq_true.mpr fun b hb => by rw [List.eq_of_mem_replicate hb]; rfl]
      exact k H1 s1
end
end K65

set_option maxHeartbeats 200000
/-! K65Words2: forkhaul.words, the rest. -/
namespace K65
open PySem L2
/-- an id: 16 signs of HEX -/
def IsId (x : Str) : Prop := x.length = 16 ∧ ∀ c ∈ x.cps.toList, c ∈ ("0123456789abcdef" : Str).cps.toList
section
variable {P : Program} {w : World} {K : PySem.W.Frag} {mg : Str → Option Value} {base : Heap}
def spCount : Sp := fun vs H Q _ => ∃ i : Int, vs = [.int i, .int 0] ∧ 0 ≤ i ∧ Q (.bl true) H
theorem sc_is_count : FnScope ["thing", "least"] ["thing", "least"] (defScope s_is_count) := ⟨rfl, rfl, rfl, by decide +kernel, rfl, by decide +kernel, by decide +kernel⟩
theorem bi1 {K : PySem.W.Frag} {st : Stmt} {x q : Str} {f : Addr} {fd : FuncData} {p : Str} (F : Fun K x q st f fd)
    (h : ∀ (kV doc pm : Value) (an : Option Addr) (cdv ct : Value) (us : List Value), us.length = 1 → bindArgs (PySem.W.fnOf x q (defArgs st) (defBody st) (defScope st) .none kV doc pm an cdv ct) ⟨us, []⟩ = pure ([p].zip us)) : Binds K fd [p] [] := F.binds h
theorem ok_is_count (T : W K mg) : FnOk P w K mg base CX0 2 T.a_is_count T.d_is_count ["thing", "least"] spCount := by
  have G : FnOk P w K mg base CX0 1 T.a_is_whole T.d_is_whole ["thing"] spWhole := ok_is_whole T
  have b := T.F_is_whole.binds (ps := ["thing"]) fun _ _ _ _ _ _ us hl => match us, hl with | [_], _ => rfl
  refine T.F_is_count.ok sc_is_count (fun vs H Q E h => ?_) (fun cdv A outer s H vs Q E hr h => ?_)
  · obtain ⟨i, rfl, _⟩ := h
    rfl
  · obtain ⟨i, rfl, h0, k⟩ := h
    refine ⟨_, pss_one (ps_ret (pe_and (pe_call G hr rfl T.g_is_whole T.F_is_whole.kp b .nil pass0 (pa_cons (pv 0) pa_nil)) (pe_one (pe_cmpR op_ge (pv 0) (pv 1) (nomark _))))), ?_⟩
    refine ⟨_, rfl, i, rfl, true, rfl, iteT ⟨_, rfl, _, rfl, _, _, rfl, rfl, ?_⟩⟩
    exact qT (Q := Q) h0 k
def spTime : Sp := fun vs H Q _ => ∃ i : Int, vs = [.int i] ∧ 0 ≤ i ∧ i ≤ 1000 ∧ Q (.bl true) H
theorem sc_is_time : FnScope ["thing"] ["thing"] (defScope s_is_time) := ⟨rfl, rfl, rfl, by decide +kernel, rfl, by decide +kernel, by decide +kernel⟩
theorem ok_is_time (T : W K mg) : FnOk P w K mg base CX0 3 T.a_is_time T.d_is_time ["thing"] spTime := by
  have G : FnOk P w K mg base CX0 2 T.a_is_count T.d_is_count ["thing", "least"] spCount := ok_is_count T
  obtain ⟨ds, hd, b⟩ := T.F_is_count.binds1 (ps := ["thing", "least"]) 1 0 (by simp) rfl fun _ _ _ _ _ _ _ us its h1 h2 => match us, its, h1, h2 with | [_], [_], _, _ => ⟨_, rfl, rfl⟩
  obtain ⟨t, v⟩ := T.v_MOST_TIME
  refine T.F_is_time.ok sc_is_time (fun vs H Q E h => ?_) (fun cdv A outer s H vs Q E hr h => ?_)
  · obtain ⟨i, rfl, _⟩ := h
    rfl
  · obtain ⟨i, rfl, h0, h1, k⟩ := h
    refine ⟨_, pss_one (ps_ret (pe_and (pe_call G hr rfl T.g_is_count T.F_is_count.kp b hd pass0 (pa_cons (pv 0) pa_nil)) (pe_one (pe_cmpR op_le (pv 0) (pe_glob (v := .int 1000000000000) rfl v ⟨_, rfl⟩) (nomark _))))), ?_⟩
    refine ⟨_, rfl, i, rfl, h0, true, rfl, iteT ⟨_, rfl, _, _, rfl, rfl, ?_⟩⟩
    exact qT (Q := Q) (by omega) k
def spId : Sp := fun vs H Q _ => ∃ x : Str, vs = [.str x] ∧ IsId x ∧ ∀ H', Same H H' → Q (.bl true) H'
theorem sc_is_id : FnScope ["thing"] ["thing"] (defScope s_is_id) := ⟨rfl, rfl, rfl, by decide +kernel, rfl, by decide +kernel, by decide +kernel⟩
theorem ok_is_id (T : W K mg) : FnOk P w K mg base CX0 2 T.a_is_id T.d_is_id ["thing"] spId := by
  have G : FnOk P w K mg base CX0 1 T.a_has_only T.d_has_only ["text", "signs"] spOnly := ok_has_only T
  have b := T.F_has_only.binds (ps := ["text", "signs"]) fun _ _ _ _ _ _ us hl => match us, hl with | [_, _], _ => rfl
  obtain ⟨t, v⟩ := T.v_HEX
  obtain ⟨t2, v2⟩ := T.v_ID_LENGTH
  refine T.F_is_id.ok sc_is_id (fun vs H Q E h => ?_) (fun cdv A outer s H vs Q E hr h => ?_)
  · obtain ⟨i, rfl, _⟩ := h
    rfl
  · obtain ⟨x, rfl, ⟨h0, h1⟩, k⟩ := h
    refine ⟨_, pss_one (ps_ret (pe_and (pe_callB call_isi (by rfl) T.z_isinstance (by decide +kernel) (pa_cons (pv 0) (pa_cons (pe_bltn (v := .ty "str") (by rfl) T.z_str (by decide +kernel) rfl) pa_nil)))
      (pe_and (pe_cmpR op_eq (pe_callB call_len_str (by rfl) T.z_len PySem.boot_len (pa_cons (pv 0) pa_nil)) (pe_glob (v := .int 16) rfl v2 ⟨_, rfl⟩) (nomark _))
      (pe_one (pe_call G hr rfl T.g_has_only T.F_has_only.kp b .nil pass0 (pa_cons (pv 0) (pa_cons (pe_glob (v := .str _) rfl v ⟨_, rfl⟩) pa_nil))))))), ?_⟩
    refine ⟨_, rfl, _, _, _, _, true, rfl, .ty "str", .base (.str x), kit_ty (by decide +kernel), true, rfl, iteT ?_⟩
    refine ⟨_, rfl, x, rfl, by rw [h0]; decide, rfl, _, rfl, ?_⟩
    rw [show decide (V.int (x.length : Int) = V.int 16) = true from decide_eq_true (by rw [h0]; rfl)]
    exact iteT ⟨_, rfl, x, _, rfl, by rw [h0]; decide, h1, k⟩
def spAuthor : Sp := fun vs H Q _ => ∃ x : Str, vs = [.str x] ∧ 1 ≤ x.length ∧ x.length ≤ 12 ∧ (∀ c ∈ x.cps.toList, c ∈ ("abcdefghijklmnopqrstuvwxyz" : Str).cps.toList) ∧ ∀ H', Same H H' → Q (.bl true) H'
theorem sc_is_author : FnScope ["thing"] ["thing"] (defScope s_is_author) := ⟨rfl, rfl, rfl, by decide +kernel, rfl, by decide +kernel, by decide +kernel⟩
theorem ok_is_author (T : W K mg) : FnOk P w K mg base CX0 2 T.a_is_author T.d_is_author ["thing"] spAuthor := by
  have G : FnOk P w K mg base CX0 1 T.a_has_only T.d_has_only ["text", "signs"] spOnly := ok_has_only T
  have b := T.F_has_only.binds (ps := ["text", "signs"]) fun _ _ _ _ _ _ us hl => match us, hl with | [_, _], _ => rfl
  obtain ⟨t, v⟩ := T.v_SMALL
  obtain ⟨t2, v2⟩ := T.v_MOST_SEGMENT
  refine T.F_is_author.ok sc_is_author (fun vs H Q E h => ?_) (fun cdv A outer s H vs Q E hr h => ?_)
  · obtain ⟨i, rfl, _⟩ := h
    rfl
  · obtain ⟨x, rfl, h0, h1, h2, k⟩ := h
    refine ⟨_, pss_one (ps_ret (pe_and (pe_callB call_isi (by rfl) T.z_isinstance (by decide +kernel) (pa_cons (pv 0) (pa_cons (pe_bltn (v := .ty "str") (by rfl) T.z_str (by decide +kernel) rfl) pa_nil)))
      (pe_and (pe_chain op_le op_le pe_int (pe_callB call_len_str (by rfl) T.z_len PySem.boot_len (pa_cons (pv 0) pa_nil)) (pe_glob (v := .int 12) rfl v2 ⟨_, rfl⟩))
      (pe_one (pe_call G hr rfl T.g_has_only T.F_has_only.kp b .nil pass0 (pa_cons (pv 0) (pa_cons (pe_glob (v := .str _) rfl v ⟨_, rfl⟩) pa_nil))))))), ?_⟩
    refine ⟨_, rfl, _, _, _, _, true, rfl, .ty "str", .base (.str x), kit_ty (by decide +kernel), true, rfl, iteT ?_⟩
    refine ⟨_, rfl, x, rfl, Nat.le_trans h1 (by decide), _, _, rfl, rfl, true, ?_, iteT ⟨_, _, rfl, rfl, true, ?_, iteT ?_⟩⟩
    · exact bT (show (1 : Int) ≤ (x.length : Int) by omega)
    · exact bT (show (x.length : Int) ≤ 12 by omega)
    · exact ⟨_, rfl, x, _, rfl, by omega, h2, k⟩
end
end K65

set_option maxHeartbeats 200000
/-! K65Words3: is_text, are_ids. -/
namespace K65
open PySem L2
theorem one_lt (a b : Nat) : ([a] < [b]) ↔ a < b := by
  simp [List.cons_lt_cons_iff]
section
variable {P : Program} {w : World} {K : PySem.W.Frag} {mg : Str → Option Value} {base : Heap}
/-- is_text of a short text of plain signs -/
def spText : Sp := fun vs H Q _ => ∃ x : Str, vs = [.str x, .int 200] ∧ x.length ≤ 200 ∧ (∀ c ∈ x.cps.toList, 32 ≤ c ∧ c ≤ 126) ∧ ∀ H', Same H H' → Q (.bl true) H'
theorem sc_is_text : FnScope ["thing", "most", "sign"] ["thing", "most"] (defScope s_is_text) := ⟨rfl, rfl, rfl, by decide +kernel, rfl, by decide +kernel, by decide +kernel⟩
theorem ok_is_text (T : W K mg) : FnOk P w K mg base CX0 1 T.a_is_text T.d_is_text ["thing", "most"] spText := by
  refine T.F_is_text.ok sc_is_text (fun vs H Q E h => ?_) (fun cdv A outer s H vs Q E hr h => ?_)
  · obtain ⟨x, rfl, _⟩ := h
    rfl
  · obtain ⟨x, rfl, hz, hc, k⟩ := h
    refine ⟨_, pss_cons (ps_if (PW.pt (pw_or (pt_not (pt_val (pe_callB call_isi (by rfl) T.z_isinstance (by decide +kernel) (pa_cons (pv 0) (pa_cons (pe_bltn (v := .ty "str") (by rfl) T.z_str (by decide +kernel) rfl) pa_nil)))))
        (pw_or1 (pt_cmpR op_gt (pe_callB call_len_str (by rfl) T.z_len PySem.boot_len (pa_cons (pv 0) pa_nil)) (pv 1) (nomark _))))) (pss_one (ps_ret pe_bl)) pss_nil)
      (pss_one (ps_ret (pe_callB (cr_all rfl) (by rfl) T.z_all (by decide +kernel) (pa_cons
      (pe_lc (own := [("sign", 2)]) (g := gName 2) (tt := tYes) rfl sc_is_text.nd (pi_str (pv 0)) (blkOk_by (N := ["thing", "most", "sign"]) (sc := defScope s_is_text) (by decide +kernel))
        (fun _ _ _ _ _ => pg_name (i := 2) sc_is_text.nd rfl (Or.inl rfl)) (fun _ _ _ _ _ => pts_nil)
        (fun _ _ _ _ _ => pe_or (pe_chain op_le_str op_le_str pe_str (pv 2) pe_str) (pe_one (pe_cmpR op_eq (pv 2) pe_str (nomark _))))) pa_nil)))), ?_⟩
    refine ⟨_, rfl, _, _, _, _, true, rfl, .ty "str", .base (.str x), kit_ty (by decide +kernel), true, rfl, iteF ?_⟩
    refine ⟨_, rfl, x, rfl, Nat.le_trans hz (by decide), _, rfl, _, _, rfl, rfl, _, rfl, ?_⟩
    rw [show decide ((200 : Int) < (x.length : Int)) = false from decide_eq_false (by omega)]
    refine iteF ⟨_, rfl, x, rfl, fun D hD => lc_it walk_str (fun i H' => i ≤ x.cps.size ∧ Same H H' ∧ H' D = some (.lst (List.replicate i (.bl true)))) ⟨Nat.zero_le _, fun b o e => by rw [upd_ne (ne_of_none e hD)]; exact e, upd_same⟩ (fun _ _ _ _ => trivial) ?_ ?_⟩
    · rintro i v H1 H2 hi ⟨_, s1, h1⟩ ⟨rfl, c, hx, rfl⟩
      obtain ⟨m1, m2⟩ := hc c (Array.mem_toList_iff.mpr (Array.mem_of_getElem? hx))
      have e1 : (!decide ((⟨#[c]⟩ : Str).cps.toList < (" " : Str).cps.toList)) = true := by
        have q : ¬ ((⟨#[c]⟩ : Str).cps.toList < (" " : Str).cps.toList) := by
          rw [show (" " : Str).cps.toList = [32] by decide +kernel]
          show ¬ ([c] < [32])
          rw [one_lt]
          omega
        rw [decide_eq_false q]
        rfl
      have e2 : (!decide (("~" : Str).cps.toList < (⟨#[c]⟩ : Str).cps.toList)) = true := by
        have q : ¬ (("~" : Str).cps.toList < (⟨#[c]⟩ : Str).cps.toList) := by
          rw [show ("~" : Str).cps.toList = [126] by decide +kernel]
          show ¬ ([126] < [c])
          rw [one_lt]
          omega
        rw [decide_eq_false q]
        rfl
      refine ⟨rfl, lcY ⟨_, rfl, _, _, rfl, rfl, true, congrArg V.bl e1, iteT ⟨_, _, rfl, rfl, _, congrArg V.bl e2, iteT ⟨_, h1, ?_, hi, fun b o e => ?_, ?_⟩⟩⟩⟩
      · rw [List.length_replicate]
        have : x.cps.size = x.length := rfl
        exact Nat.lt_of_lt_of_le (by omega : i < 10001) (by decide)
      · rw [upd_ne (ne_of_none e hD)]
        exact s1 b o e
      · rw [upd_same, List.replicate_succ']
    · rintro H1 ⟨_, s1, h1⟩
      refine ⟨D, List.replicate x.cps.size true, rfl, SqL.of (by rw [List.map_replicate]; exact h1), ?_⟩
      rw [List.all_eq_true.mpr fun b hb => by rw [List.eq_of_mem_replicate hb]; rfl]
      exact k H1 s1
/-- are_ids of a tuple of ids -/
def spIds (K : PySem.W.Frag) : Sp := fun vs H Q _ => ∃ (a : Addr) (xs : List Str), vs = [.ref a] ∧ TyX K H (.ref a) (.type "tuple") ∧ SqT K H a (xs.map V.str) ∧ xs.length ≤ 1000 ∧ (∀ x ∈ xs, IsId x) ∧ ∀ H', Same H H' → Q (.bl true) H'
theorem sc_are_ids : FnScope ["thing", "one"] ["thing"] (defScope s_are_ids) := ⟨rfl, rfl, rfl, by decide +kernel, rfl, by decide +kernel, by decide +kernel⟩
theorem ok_are_ids (T : W K mg) : FnOk P w K mg base CX0 3 T.a_are_ids T.d_are_ids ["thing"] (spIds K) := by
  have G : FnOk P w K mg base CX0 2 T.a_is_id T.d_is_id ["thing"] spId := ok_is_id T
  have b := T.F_is_id.binds (ps := ["thing"]) fun _ _ _ _ _ _ us hl => match us, hl with | [_], _ => rfl
  refine T.F_are_ids.ok sc_are_ids (fun vs H Q E h => ?_) (fun cdv A outer s H vs Q E hr h => ?_)
  · obtain ⟨a, xs, rfl, _⟩ := h
    rfl
  · obtain ⟨a, xs, rfl, ty, ht, hz, hi, k⟩ := h
    refine ⟨_, pss_one (ps_ret (pe_and (pe_callB call_isi (by rfl) T.z_isinstance (by decide +kernel) (pa_cons (pv 0) (pa_cons (pe_bltn (v := .ty "tuple") (by rfl) T.z_tuple (by decide +kernel) rfl) pa_nil)))
      (pe_one (pe_callB (cr_all rfl) (by rfl) T.z_all (by decide +kernel) (pa_cons
      (pe_lc (own := [("one", 1)]) (g := gName 1) (tt := tYes) rfl sc_are_ids.nd (pi_tup (pv 0)) (blkOk_by (N := ["thing", "one"]) (sc := defScope s_are_ids) (by decide +kernel))
        (fun _ _ _ _ _ => pg_name (i := 1) sc_are_ids.nd rfl (Or.inl rfl)) (fun _ _ _ _ _ => pts_nil)
        (fun _ _ _ _ _ => pe_call G hr rfl T.g_is_id T.F_is_id.kp b .nil pass0 (pa_cons (pv 1) pa_nil))) pa_nil))))), ?_⟩
    refine ⟨_, rfl, _, _, _, _, true, rfl, .ty "tuple", ty, kit_ty (by decide +kernel), true, rfl, iteT ?_⟩
    refine ⟨_, rfl, a, rfl, ⟨_, ht⟩, fun D hD => lc_tup (K := K) (a := a) (xs := xs.map V.str) (fun i H' => i ≤ xs.length ∧ Same H H' ∧ H' D = some (.lst (List.replicate i (.bl true)))) ⟨Nat.zero_le _, fun b o e => by rw [upd_ne (ne_of_none e hD)]; exact e, upd_same⟩ (fun i H' _ q => sqt_same q.2.1 ht) ?_ ?_⟩
    · rintro i v H1 hv ⟨_, s1, h1⟩
      rw [List.getElem?_map] at hv
      obtain ⟨x, hx, rfl⟩ := Option.map_eq_some_iff.mp hv
      have hl : i < xs.length := (List.getElem?_eq_some_iff.mp hx).1
      refine ⟨rfl, lcY ⟨_, rfl, x, rfl, hi x (List.mem_of_getElem? hx), fun H2 s2 => ⟨_, s2 _ _ h1, ?_, hl, fun b o e => ?_, ?_⟩⟩⟩
      · rw [List.length_replicate]
        exact Nat.lt_of_lt_of_le (by omega : i < 10001) (by decide)
      · rw [upd_ne (ne_of_none e hD)]
        exact s2 _ _ (s1 b o e)
      · rw [upd_same, List.replicate_succ']
    · rintro H1 ⟨_, s1, h1⟩
      rw [List.length_map] at h1
      refine ⟨D, List.replicate xs.length true, rfl, SqL.of (by rw [List.map_replicate]; exact h1), ?_⟩
      rw [List.all_eq_true.mpr fun b hb => by rw [List.eq_of_mem_replicate hb]; rfl]
      exact k H1 s1
end
end K65

set_option maxHeartbeats 200000
/-! K65Obj: forkhaul.objects: the empty tree, commits. -/
namespace K65
open PySem L2
section
variable {P : Program} {w : World} {K : PySem.W.Frag} {mg : Str → Option Value} {base : Heap}
/-- the empty tree stands at a -/
def TreeAt (T : W K mg) (H : Hp) (a : Addr) : Prop := ∃ dx t, H a = some (.ins T.CTree dx [("held", .ref t)]) ∧ H t = some (.tup [])
/-- what a commit is made of -/
structure Cm where
  tree : Str
  ps : List Str
  au : Str
  tm : Int
  ms : Str
/-- a commit stands at a -/
def CommitAt (T : W K mg) (H : Hp) (a : Addr) (c : Cm) : Prop := ∃ dx t p, H a = some (.ins T.CCommit dx [("held", .ref t)]) ∧ H t = some (.tup [.str c.tree, .ref p, .str c.au, .int c.tm, .str c.ms]) ∧ SqT K H p (c.ps.map V.str)
theorem TreeAt.same {T : W K mg} {H H' : Hp} {a : Addr} (h : TreeAt T H a) (s : Same H H') : TreeAt T H' a := let ⟨dx, t, h1, h2⟩ := h; ⟨dx, t, s _ _ h1, s _ _ h2⟩
theorem CommitAt.same {T : W K mg} {H H' : Hp} {a : Addr} {c : Cm} (h : CommitAt T H a c) (s : Same H H') : CommitAt T H' a c := let ⟨dx, t, p, h1, h2, h3⟩ := h; ⟨dx, t, p, s _ _ h1, s _ _ h2, sqt_same s h3⟩
theorem ty_tree (T : W K mg) {H : Hp} {a : Addr} (h : TreeAt T H a) : TyX K H (.ref a) (.ref T.CTree) := let ⟨_, _, h1, _⟩ := h; .base (.ins h1 T.clTree T.ccTree T.ccG T.ccT T.obTree)
theorem ty_commit (T : W K mg) {H : Hp} {a : Addr} {c : Cm} (h : CommitAt T H a c) : TyX K H (.ref a) (.ref T.CCommit) := let ⟨_, _, _, h1, _⟩ := h; .base (.ins h1 T.clCommit T.ccCommit T.ccG T.ccT T.obCommit)

/-! ### Tree({}) -/
def spTreeInit (T : W K mg) : Sp := fun vs H Q _ => ∃ p dx d, vs = [.ref p, .ref d] ∧ H p = some (.ins T.CTree dx []) ∧ H d = some (.dK []) ∧ ∀ H', TreeAt T H' p → (∀ b o, H b = some o → b ≠ p → H' b = some o) → Q .non H'
theorem sc_tinit : FnScope ["self", "entries", "name", "entry"] ["self", "entries"] (defScope s_Tree_DinitD) := ⟨rfl, rfl, rfl, by decide +kernel, rfl, by decide +kernel, by decide +kernel⟩
theorem ok_tinit (T : W K mg) : FnOk P w K mg base CX0 1 T.a_Tree_DinitD T.d_Tree_DinitD ["self", "entries"] (spTreeInit T) := by
  obtain ⟨t, v⟩ := T.v_MOST_ENTRIES
  refine T.F_Tree_DinitD.ok sc_tinit (fun vs H Q E h => ?_) (fun cdv A outer s H vs Q E hr h => ?_)
  · obtain ⟨p, dx, d, rfl, _⟩ := h
    rfl
  · obtain ⟨p, dx, d, rfl, hp, hd, k⟩ := h
    have npd : p ≠ d := ne_of hp hd (by intro z; cases z)
    refine ⟨_, pss_cons (ps_if (PW.pt (pw_or (pt_not (pt_val (pe_callB call_isi (by rfl) T.z_isinstance (by decide +kernel) (pa_cons (pv 1) (pa_cons (pe_bltn (v := .ty "dict") (by rfl) T.z_dict (by decide +kernel) rfl) pa_nil)))))
        (pw_or1 (pt_cmpR op_gt (pe_callB call_lenD (by rfl) T.z_len PySem.boot_len (pa_cons (pv 1) pa_nil)) (pe_glob (v := .int 30) rfl v ⟨_, rfl⟩) (nomark _))))) (pss_one ps_never) pss_nil)
      (pss_cons (ps_if (pt_not (pt_val (pe_callB (cr_all rfl) (by rfl) T.z_all (by decide +kernel) (pa_cons (pe_lock
          (pe_lc (own := [("name", 2), ("entry", 3)]) (g := gTup K 2 (gCons (gName 2) (gCons (gName 3) gNil))) (tt := tYes) rfl sc_tinit.nd (pi_items (pv 1)) (blkOk_by (N := ["self", "entries", "name", "entry"]) (sc := defScope s_Tree_DinitD) (by decide +kernel))
            (fun _ _ _ _ _ => pg_tup rfl (pgs_cons (pg_name (i := 2) sc_tinit.nd rfl (Or.inl rfl)) (pgs_cons (pg_name (i := 3) sc_tinit.nd rfl (Or.inl rfl)) pgs_nil)))
            (fun _ _ _ _ _ => pts_nil) (fun _ _ _ _ _ => pe_never))) pa_nil)))) (pss_one ps_never) pss_nil)
      (pss_one (ps_fld (pv 0) (pe_callTy call_tuple_of (by rfl) T.z_tuple (by decide +kernel) (pa_cons
          (pe_lc (own := [("name", 2)]) (g := gName 2) (tt := tYes) rfl sc_tinit.nd (pi_list (pe_callB (call_sortedD rfl) (by rfl) T.z_sorted (by decide +kernel) (pa_cons (pv 1) pa_nil)))
            (blkOk_by (N := ["self", "entries", "name", "entry"]) (sc := defScope s_Tree_DinitD) (by decide +kernel))
            (fun _ _ _ _ _ => pg_name (i := 2) sc_tinit.nd rfl (Or.inl rfl)) (fun _ _ _ _ _ => pts_nil) (fun _ _ _ _ _ => pe_never)) pa_nil)) rfl))), ?_⟩
    -- if not isinstance(entries, dict) or len(entries) > MOST_ENTRIES
    refine ⟨_, rfl, _, _, _, _, true, rfl, .ty "dict", .base (.dK hd), kit_ty (by decide +kernel), true, rfl, iteF ?_⟩
    refine ⟨_, rfl, d, [], rfl, hd, _, _, rfl, rfl, _, rfl, iteF ?_⟩
    -- if not all([..])
    refine ⟨d, _, hd, trivial, fun od => ⟨_, rfl, d, od, [], rfl, upd_same, fun D hD => lc_it walk_items (fun i H' => Same (upd H d (.frz od (.dK []))) H' ∧ H' D = some (.lst [])) ⟨same_new hD, upd_same⟩ (fun i H' _ q => q.1 _ _ upd_same) (fun i _ _ _ hi => absurd hi (Nat.not_lt_zero _)) ?_⟩⟩
    rintro H1 ⟨s1, h1⟩
    have nDd : D ≠ d := fun e => by rw [e, upd_same] at hD; cases hD
    refine ⟨s1 _ _ upd_same, D, [], rfl, SqL.of (by rw [upd_ne nDd]; exact h1), true, rfl, iteF ?_⟩
    have s2 : Same H (upd H1 d (.dK [])) := same_unlock hd s1
    -- self.held = tuple([..])
    refine ⟨_, rfl, d, [], [], rfl, .inl upd_same, rfl, by decide, fun ys p1 hp1 _ hn1 => ?_⟩
    cases List.Perm.eq_nil hp1
    refine ⟨p1, rfl, ⟨_, SqL.of upd_same⟩, fun D2 hD2 => lc_list (K := K) (a := p1) (xs := []) (fun i H' => Same (upd (upd H1 d (.dK [])) p1 (.lst [])) H' ∧ H' D2 = some (.lst [])) ⟨same_new hD2, upd_same⟩ (fun i H' _ q => SqL.of (q.1 _ _ upd_same)) (fun i x H' hx => by simp at hx) ?_⟩
    rintro H2 ⟨s3, h2⟩
    refine ⟨D2, [], rfl, .inl ⟨SqL.of h2, fun t ht => ?_⟩⟩
    have s4 : Same H (upd H2 t (.tup [])) := ((s2.trans (same_new hn1)).trans s3).trans (same_new ht)
    refine ⟨_, rfl, p, T.CTree, dx, [], rfl, s4 _ _ hp, T.clTree, T.nTree_held, (by show 0 < 1000; decide), ?_⟩
    have ntp : t ≠ p := (ne_of_none ((s2.trans (same_new hn1)).trans s3 _ _ hp) ht).symm
    exact k _ ⟨dx, t, upd_same, by rw [upd_ne ntp, upd_same]⟩ fun b o e hb => by
      rw [upd_ne hb]
      exact s4 _ _ e
end
end K65

set_option maxHeartbeats 200000
/-! K65Codes: Tree.entries, is_object, Commit's properties, encode_tree, encode_commit. -/
namespace K65
open PySem L2
section
variable {P : Program} {w : World} {K : PySem.W.Frag} {mg : Str → Option Value} {base : Heap}
/-! ### Tree.entries of the empty tree -/
def spEntries (T : W K mg) : Sp := fun vs H Q _ => ∃ a, vs = [.ref a] ∧ TreeAt T H a ∧ ∀ H' D, Same H H' → H D = none → H' D = some (.dK []) → Q (.ref D) H'
theorem sc_entries : FnScope ["self", "name", "kind", "target"] ["self"] (defScope s_Tree_entries) := ⟨rfl, rfl, rfl, by decide +kernel, rfl, by decide +kernel, by decide +kernel⟩
theorem ok_entries (T : W K mg) : FnOk P w K mg base CX0 1 T.a_Tree_entries T.d_Tree_entries ["self"] (spEntries T) := by
  refine T.F_Tree_entries.ok sc_entries (fun vs H Q E h => ?_) (fun cdv A outer s H vs Q E hr h => ?_)
  · obtain ⟨a, rfl, _⟩ := h
    rfl
  · obtain ⟨a, rfl, ⟨dx, t, h1, h2⟩, k⟩ := h
    refine ⟨_, pss_one (ps_ret (pe_dc (own := [("name", 1), ("kind", 2), ("target", 3)]) (g := gTup K 3 (gCons (gName 1) (gCons (gName 2) (gCons (gName 3) gNil)))) (tt := tYes) rfl sc_entries.nd (pi_tup (pe_fld (pv 0) rfl)) (blkOk_by (N := ["self", "name", "kind", "target"]) (sc := defScope s_Tree_entries) (by decide +kernel))
        (fun _ _ _ _ _ => pg_tup rfl (pgs_cons (pg_name (i := 1) sc_entries.nd rfl (Or.inl rfl)) (pgs_cons (pg_name (i := 2) sc_entries.nd rfl (Or.inl rfl)) (pgs_cons (pg_name (i := 3) sc_entries.nd rfl (Or.inl rfl)) pgs_nil))))
        (fun _ _ _ _ _ => pts_nil) (fun _ _ _ _ _ => pe_never) (fun _ _ _ _ _ => pe_never))), ?_⟩
    refine ⟨_, rfl, a, T.CTree, dx, _, _, rfl, h1, T.clTree, T.nTree_held, rfl, t, rfl, ⟨_, .inl (.inl h2)⟩, fun D hD => dc_tup (K := K) (a := t) (xs := []) (fun _ H' => Same H H' ∧ H' D = some (.dK [])) ⟨same_new hD, upd_same⟩ (fun _ H' _ q => .inl (.inl (q.1 _ _ h2))) (fun i x H' hx => by simp at hx) fun H' q => k H' D q.1 hD q.2⟩
/-! ### is_object -/
def spObj (T : W K mg) : Sp := fun vs H Q _ => ∃ a, vs = [.ref a] ∧ (TreeAt T H a ∨ ∃ c, CommitAt T H a c) ∧ ∀ H', Same H H' → Q (.bl true) H'
theorem sc_is_object : FnScope ["thing"] ["thing"] (defScope s_is_object) := ⟨rfl, rfl, rfl, by decide +kernel, rfl, by decide +kernel, by decide +kernel⟩
theorem ok_is_object (T : W K mg) : FnOk P w K mg base CX0 1 T.a_is_object T.d_is_object ["thing"] (spObj T) := by
  refine T.F_is_object.ok sc_is_object (fun vs H Q E h => ?_) (fun cdv A outer s H vs Q E hr h => ?_)
  · obtain ⟨a, rfl, _⟩ := h
    rfl
  · obtain ⟨a, rfl, h1, k⟩ := h
    refine ⟨_, pss_one (ps_ret (pe_callB call_isiT (by rfl) T.z_isinstance (by decide +kernel) (pa_cons (pv 0) (pa_cons (pe_tup (pa_cons (pe_glob (v := .ref T.CBlob) rfl T.gCBlob rfl) (pa_cons (pe_glob (v := .ref T.CTree) rfl T.gCTree rfl)
      (pa_cons (pe_glob (v := .ref T.CCommit) rfl T.gCCommit rfl) (pa_cons (pe_glob (v := .ref T.CTag) rfl T.gCTag rfl) pa_nil))))) pa_nil)))), ?_⟩
    refine ⟨_, rfl, (by show 4 ≤ sizeLine; decide), fun t ht => ?_⟩
    have s1 : Same H (upd H t (.tup [.ref T.CBlob, .ref T.CTree, .ref T.CCommit, .ref T.CTag])) := same_new ht
    rcases h1 with h1 | ⟨c, h1⟩
    · exact ⟨_, t, _, _, [.ref T.CBlob, .ref T.CTree, .ref T.CCommit, .ref T.CTag], true, rfl, upd_same, .cons (.own _) (.cons (.own _) (.cons (.own _) (.cons (.own _) .nil))), ty_tree T (h1.same s1),
        kitAny_cons T.iTreeBlob (fun _ => kitAny_cons T.iTreeTree (fun e => by cases e) fun _ => rfl) (fun e => by cases e), k _ s1⟩
    · exact ⟨_, t, _, _, [.ref T.CBlob, .ref T.CTree, .ref T.CCommit, .ref T.CTag], true, rfl, upd_same, .cons (.own _) (.cons (.own _) (.cons (.own _) (.cons (.own _) .nil))), ty_commit T (h1.same s1),
        kitAny_cons T.iCommitBlob (fun _ => kitAny_cons T.iCommitTree (fun _ => kitAny_cons T.iCommitCommit (fun e => by cases e) fun _ => rfl) (fun e => by cases e)) (fun e => by cases e), k _ s1⟩
/-! ### the properties of a commit -/
/-- item j of what a commit holds -/
def spProp (T : W K mg) (j : Nat) : Sp := fun vs H Q _ => ∃ a dx t items v, vs = [.ref a] ∧ H a = some (.ins T.CCommit dx [("held", .ref t)]) ∧ H t = some (.tup items) ∧ items[j]? = some v ∧ Q v H
theorem sc_tree : FnScope ["self"] ["self"] (defScope s_Commit_tree) := ⟨rfl, rfl, rfl, by decide +kernel, rfl, by decide +kernel, by decide +kernel⟩
theorem ok_tree (T : W K mg) : FnOk P w K mg base CX0 1 T.a_Commit_tree T.d_Commit_tree ["self"] (spProp T 0) := by
  refine T.F_Commit_tree.ok sc_tree (fun vs H Q E h => ?_) (fun cdv A outer s H vs Q E hr h => ?_)
  · obtain ⟨a, _, _, _, _, rfl, _⟩ := h
    rfl
  · obtain ⟨a, dx, t, items, v, rfl, h1, h2, hv, k⟩ := h
    exact ⟨_, pss_one (ps_ret (pe_ix ix_tup (pe_fld (pv 0) rfl) pe_int (fun _ _ => rfl))), _, rfl, a, T.CCommit, dx, _, _, rfl, h1, T.clCommit, T.nCommit_held, rfl, t, _, _, v, rfl, rfl, .inl (.inl h2), atI_nat hv, k⟩
theorem sc_parents : FnScope ["self"] ["self"] (defScope s_Commit_parents) := ⟨rfl, rfl, rfl, by decide +kernel, rfl, by decide +kernel, by decide +kernel⟩
theorem ok_parents (T : W K mg) : FnOk P w K mg base CX0 1 T.a_Commit_parents T.d_Commit_parents ["self"] (spProp T 1) := by
  refine T.F_Commit_parents.ok sc_parents (fun vs H Q E h => ?_) (fun cdv A outer s H vs Q E hr h => ?_)
  · obtain ⟨a, _, _, _, _, rfl, _⟩ := h
    rfl
  · obtain ⟨a, dx, t, items, v, rfl, h1, h2, hv, k⟩ := h
    exact ⟨_, pss_one (ps_ret (pe_ix ix_tup (pe_fld (pv 0) rfl) pe_int (fun _ _ => rfl))), _, rfl, a, T.CCommit, dx, _, _, rfl, h1, T.clCommit, T.nCommit_held, rfl, t, _, _, v, rfl, rfl, .inl (.inl h2), atI_nat hv, k⟩
theorem sc_author : FnScope ["self"] ["self"] (defScope s_Commit_author) := ⟨rfl, rfl, rfl, by decide +kernel, rfl, by decide +kernel, by decide +kernel⟩
theorem ok_author (T : W K mg) : FnOk P w K mg base CX0 1 T.a_Commit_author T.d_Commit_author ["self"] (spProp T 2) := by
  refine T.F_Commit_author.ok sc_author (fun vs H Q E h => ?_) (fun cdv A outer s H vs Q E hr h => ?_)
  · obtain ⟨a, _, _, _, _, rfl, _⟩ := h
    rfl
  · obtain ⟨a, dx, t, items, v, rfl, h1, h2, hv, k⟩ := h
    exact ⟨_, pss_one (ps_ret (pe_ix ix_tup (pe_fld (pv 0) rfl) pe_int (fun _ _ => rfl))), _, rfl, a, T.CCommit, dx, _, _, rfl, h1, T.clCommit, T.nCommit_held, rfl, t, _, _, v, rfl, rfl, .inl (.inl h2), atI_nat hv, k⟩
theorem sc_time : FnScope ["self"] ["self"] (defScope s_Commit_time) := ⟨rfl, rfl, rfl, by decide +kernel, rfl, by decide +kernel, by decide +kernel⟩
theorem ok_time (T : W K mg) : FnOk P w K mg base CX0 1 T.a_Commit_time T.d_Commit_time ["self"] (spProp T 3) := by
  refine T.F_Commit_time.ok sc_time (fun vs H Q E h => ?_) (fun cdv A outer s H vs Q E hr h => ?_)
  · obtain ⟨a, _, _, _, _, rfl, _⟩ := h
    rfl
  · obtain ⟨a, dx, t, items, v, rfl, h1, h2, hv, k⟩ := h
    exact ⟨_, pss_one (ps_ret (pe_ix ix_tup (pe_fld (pv 0) rfl) pe_int (fun _ _ => rfl))), _, rfl, a, T.CCommit, dx, _, _, rfl, h1, T.clCommit, T.nCommit_held, rfl, t, _, _, v, rfl, rfl, .inl (.inl h2), atI_nat hv, k⟩
theorem sc_message : FnScope ["self"] ["self"] (defScope s_Commit_message) := ⟨rfl, rfl, rfl, by decide +kernel, rfl, by decide +kernel, by decide +kernel⟩
theorem ok_message (T : W K mg) : FnOk P w K mg base CX0 1 T.a_Commit_message T.d_Commit_message ["self"] (spProp T 4) := by
  refine T.F_Commit_message.ok sc_message (fun vs H Q E h => ?_) (fun cdv A outer s H vs Q E hr h => ?_)
  · obtain ⟨a, _, _, _, _, rfl, _⟩ := h
    rfl
  · obtain ⟨a, dx, t, items, v, rfl, h1, h2, hv, k⟩ := h
    exact ⟨_, pss_one (ps_ret (pe_ix ix_tup (pe_fld (pv 0) rfl) pe_int (fun _ _ => rfl))), _, rfl, a, T.CCommit, dx, _, _, rfl, h1, T.clCommit, T.nCommit_held, rfl, t, _, _, v, rfl, rfl, .inl (.inl h2), atI_nat hv, k⟩
end
end K65

set_option maxHeartbeats 200000
/-! K65Comp: a comprehension that keeps all: the list of the kept, mapped. -/
namespace K65
open PySem L2
theorem take_snoc {α : Type} {xs : List α} {i : Nat} {a : α} (h : xs[i]? = some a) : xs.take (i + 1) = xs.take i ++ [a] := by
  rw [List.take_add_one, h]
  rfl
theorem flt {α : Type} (xs : List α) : (xs.filter fun _ => true) = xs := List.filter_eq_self.mpr fun _ _ => rfl
section
variable {α : Type} {J : It} {n : Nat} {G : Hp → Prop} {Y : Nat → Hp → V → Hp → Prop} {g : TG} {tt : TT} {te : TE} {vs : List Nat} {σ : L2.St} {H1 : Hp} {D : Addr} {Qd : Hp → Prop}
/-- what each turn owes -/
abbrev TurnOk (xs : List α) (v : α → V) (p : α → Bool) (f : α → V) (g : TG) (tt : TT) (te : TE) (vs : List Nat) (σ : L2.St) (H1 : Hp) : Prop :=
  ∀ a ∈ xs, ∀ (H' : Hp) (A : V → Hp → Prop) (C : Hp → Prop), Same H1 H' → (p a = true → ∀ H4, Same H' H4 → A (f a) H4) → (p a = false → ∀ H4, Same H' H4 → C H4) →
    g (v a) (wipe σ vs) H' fun σ2 H2 => wipe σ2 vs = wipe σ vs ∧ tt σ2 H2 fun b H3 => if b = true then te σ2 H3 A else C H3
theorem lc_fm (w : Walk J n G Y) (xs : List α) (v : α → V) (p : α → Bool) (f : α → V) (hn : n = xs.length) (hz : xs.length ≤ sizeLine) (hD : H1 D = none)
    (hY : ∀ i H x H', i < n → Y i H x H' → H' = H ∧ ∃ a, xs[i]? = some a ∧ x = v a) (hG : ∀ H', Same H1 H' → G H') (hs : TurnOk xs v p f g tt te vs σ H1)
    (hd : ∀ H', Same H1 H' → H' D = some (.lst ((xs.filter p).map f)) → Qd H') :
    ∃ W : Nat → Nat → Hp → Prop, (∃ m, W 0 m (upd H1 D (.lst []))) ∧ ∀ i m H, W i m H →
      (J.stop i H ∧ Qd H) ∨ (J.go i H ∧ ∃ Nx : Hp → Prop, (∀ H', Nx H' → ∃ m', m' < m ∧ W (i + 1) m' H') ∧ ∀ x H', J.yld i H x H' → g x (wipe σ vs) H' fun σ2 H2 => wipe σ2 vs = wipe σ vs ∧ tt σ2 H2 fun b H3 =>
        if b = true then te σ2 H3 fun y H4 => ∃ acc, H4 D = some (.lst acc) ∧ acc.length < sizeLine ∧ Nx (upd H4 D (.lst (acc ++ [y]))) else Nx H3) := by
  refine lc_it w (fun i H' => Same H1 H' ∧ H' D = some (.lst (((xs.take i).filter p).map f))) ⟨same_new hD, upd_same⟩ (fun _ _ _ q => hG _ q.1) ?_ (fun H' q => ?_)
  · rintro i x H' H2 hi ⟨s1, h1⟩ y
    obtain ⟨rfl, a, ha, rfl⟩ := hY i H' x H2 hi y
    have hl : (((xs.take i).filter p).map f).length < sizeLine := by
      rw [List.length_map]
      refine Nat.lt_of_le_of_lt (List.length_filter_le _ _) ?_
      rw [List.length_take]
      omega
    refine hs a (List.mem_of_getElem? ha) H2 _ _ s1 (fun hp H4 s2 => ⟨_, s2 _ _ h1, hl, ?_, ?_⟩) (fun hp H4 s2 => ⟨s1.trans s2, ?_⟩)
    · exact same_mut (s1.trans s2) hD
    · rw [upd_same, take_snoc ha, List.filter_append, List.filter_cons, if_pos hp, List.map_append]
      rfl
    · rw [s2 _ _ h1, take_snoc ha, List.filter_append, List.filter_cons, if_neg (by rw [hp]; exact Bool.false_ne_true), List.filter_nil, List.append_nil]
  · obtain ⟨s1, h1⟩ := q
    rw [hn, List.take_length] at h1
    exact hd H' s1 h1
theorem lc_fmT {K : PySem.W.Frag} {a : Addr} (xs : List α) (v : α → V) (p : α → Bool) (f : α → V) (ht : SqT K H1 a (xs.map v)) (hz : xs.length ≤ sizeLine) (hD : H1 D = none) (hs : TurnOk xs v p f g tt te vs σ H1)
    (hd : ∀ H', Same H1 H' → H' D = some (.lst ((xs.filter p).map f)) → Qd H') :
    ∃ W : Nat → Nat → Hp → Prop, (∃ m, W 0 m (upd H1 D (.lst []))) ∧ ∀ i m H, W i m H →
      ((Itt K a).stop i H ∧ Qd H) ∨ ((Itt K a).go i H ∧ ∃ Nx : Hp → Prop, (∀ H', Nx H' → ∃ m', m' < m ∧ W (i + 1) m' H') ∧ ∀ x H', (Itt K a).yld i H x H' → g x (wipe σ vs) H' fun σ2 H2 => wipe σ2 vs = wipe σ vs ∧ tt σ2 H2 fun b H3 =>
        if b = true then te σ2 H3 fun y H4 => ∃ acc, H4 D = some (.lst acc) ∧ acc.length < sizeLine ∧ Nx (upd H4 D (.lst (acc ++ [y]))) else Nx H3) :=
  lc_fm (walk_tup (xs := xs.map v)) xs v p f (List.length_map ..) hz hD (fun i H x H' hi y => ⟨y.1, by
    have q := y.2
    rw [List.getElem?_map] at q
    obtain ⟨b, h1, h2⟩ := Option.map_eq_some_iff.mp q
    exact ⟨b, h1, h2.symm⟩⟩) (fun H' s => sqt_same s ht) hs hd
theorem lc_fmL {K : PySem.W.Frag} {a : Addr} (xs : List α) (v : α → V) (p : α → Bool) (f : α → V) (ht : SqL K H1 a (xs.map v)) (hz : xs.length ≤ sizeLine) (hD : H1 D = none) (hs : TurnOk xs v p f g tt te vs σ H1)
    (hd : ∀ H', Same H1 H' → H' D = some (.lst ((xs.filter p).map f)) → Qd H') :
    ∃ W : Nat → Nat → Hp → Prop, (∃ m, W 0 m (upd H1 D (.lst []))) ∧ ∀ i m H, W i m H →
      ((Itl K a).stop i H ∧ Qd H) ∨ ((Itl K a).go i H ∧ ∃ Nx : Hp → Prop, (∀ H', Nx H' → ∃ m', m' < m ∧ W (i + 1) m' H') ∧ ∀ x H', (Itl K a).yld i H x H' → g x (wipe σ vs) H' fun σ2 H2 => wipe σ2 vs = wipe σ vs ∧ tt σ2 H2 fun b H3 =>
        if b = true then te σ2 H3 fun y H4 => ∃ acc, H4 D = some (.lst acc) ∧ acc.length < sizeLine ∧ Nx (upd H4 D (.lst (acc ++ [y]))) else Nx H3) :=
  lc_fm (walk_list (xs := xs.map v)) xs v p f (List.length_map ..) hz hD (fun i H x H' hi y => ⟨y.1, by
    have q := y.2
    rw [List.getElem?_map] at q
    obtain ⟨b, h1, h2⟩ := Option.map_eq_some_iff.mp q
    exact ⟨b, h1, h2.symm⟩⟩) (fun H' s => s.seq ht) hs hd
theorem lc_fmK {o : Obj} {d : Addr} (xs : List (Key × V)) (v : Key × V → V) (hv : ∀ kv, v kv = kV kv.1) (p : Key × V → Bool) (f : Key × V → V) (ht : H1 d = some (.frz o (.dK xs))) (hz : xs.length ≤ sizeLine) (hD : H1 D = none) (hs : TurnOk xs v p f g tt te vs σ H1)
    (hd : ∀ H', Same H1 H' → H' D = some (.lst ((xs.filter p).map f)) → Qd H') :
    ∃ W : Nat → Nat → Hp → Prop, (∃ m, W 0 m (upd H1 D (.lst []))) ∧ ∀ i m H, W i m H →
      ((Itk d o xs).stop i H ∧ Qd H) ∨ ((Itk d o xs).go i H ∧ ∃ Nx : Hp → Prop, (∀ H', Nx H' → ∃ m', m' < m ∧ W (i + 1) m' H') ∧ ∀ x H', (Itk d o xs).yld i H x H' → g x (wipe σ vs) H' fun σ2 H2 => wipe σ2 vs = wipe σ vs ∧ tt σ2 H2 fun b H3 =>
        if b = true then te σ2 H3 fun y H4 => ∃ acc, H4 D = some (.lst acc) ∧ acc.length < sizeLine ∧ Nx (upd H4 D (.lst (acc ++ [y]))) else Nx H3) :=
  lc_fm (walk_keys (kvs := xs)) xs v p f rfl hz hD (fun i H x H' hi y => ⟨y.1, by
    obtain ⟨_, k, u, h1, h2⟩ := y
    exact ⟨(k, u), h1, by rw [hv, h2]⟩⟩) (fun H' s => s _ _ ht) hs hd
theorem lc_fmR (m : Nat) (p : Nat → Bool) (f : Nat → V) (hz : m ≤ sizeLine) (hD : H1 D = none) (hs : TurnOk (List.range m) (fun i => .int (0 + (i : Nat))) p f g tt te vs σ H1)
    (hd : ∀ H', Same H1 H' → H' D = some (.lst (((List.range m).filter p).map f)) → Qd H') :
    ∃ W : Nat → Nat → Hp → Prop, (∃ m, W 0 m (upd H1 D (.lst []))) ∧ ∀ i m' H, W i m' H →
      ((Itr 0 m).stop i H ∧ Qd H) ∨ ((Itr 0 m).go i H ∧ ∃ Nx : Hp → Prop, (∀ H', Nx H' → ∃ m'', m'' < m' ∧ W (i + 1) m'' H') ∧ ∀ x H', (Itr 0 m).yld i H x H' → g x (wipe σ vs) H' fun σ2 H2 => wipe σ2 vs = wipe σ vs ∧ tt σ2 H2 fun b H3 =>
        if b = true then te σ2 H3 fun y H4 => ∃ acc, H4 D = some (.lst acc) ∧ acc.length < sizeLine ∧ Nx (upd H4 D (.lst (acc ++ [y]))) else Nx H3) :=
  lc_fm (walk_range (lo := 0) (n := m)) (List.range m) _ p f (List.length_range ..).symm (by rw [List.length_range]; exact hz) hD (fun i H x H' hi y => ⟨y.1, i, by rw [List.getElem?_range hi], y.2⟩) (fun _ _ => trivial) hs hd
end
end K65
namespace L2
open PySem PySem.Spec PyProof.Rows
section
variable {X : Cx}
/-- f'..', by name -/
def tJoin (ts : List TE) : TE := fun σ H Q => tJs ts Str.empty σ H fun out H1 => Q (.str out) H1
theorem pe_fj {v1 v2 : Expr} {rest : List Expr} {ts : List TE} {pos : Pos} (h : PJ X (v1 :: v2 :: rest) ts) : PE X (.JoinedStr (v1 :: v2 :: rest) pos) (tJoin ts) := pe_joined h
end
section
variable {P : Program} {w : World} {K : PySem.W.Frag} {mg : Str → Option Value} {base : Heap} {x qual : Str} {params : Arguments} {body : List Stmt} {scope : Scope} {dvs : List V} {kws : List (Str × V)} {f : Addr} {fd : FuncData}
/-- a def with defaults that lets nothing out -/
theorem FunD.okN {N ps : List Str} {k : Nat} {sp : Sp} (F : FunD K x qual params body scope dvs kws f fd) (S : FnScope N ps scope) (len : ∀ vs H Q E, sp vs H Q E → vs.length = ps.length)
    (hbody : ∀ (cdv : Value) (A : Around) (outer : List Env) (s : Shared) (H : Hp) (vs : List V) (Q : VK) (E : XK), Room k (A.deeper (envOfC qual scope s.heap.objs.size f cdv)) → sp vs H Q E →
      ∃ t, PSs (cxOf CX0 P w K mg base N qual scope f cdv A outer s H E).nox body t ∧ t { nx := fun _ H' => Q .non H', rt := Q } (start N vs) H) : FnOk P w K mg base CX0 (k + 1) f fd ps sp :=
  F.ok S len fun cdv A outer s H vs Q E hr h => let ⟨t, h1, q⟩ := hbody cdv A outer s H vs Q E hr h; ⟨t, h1.nox, q⟩
end
end L2

set_option maxHeartbeats 200000
/-! K65Enc: forkhaul.codes. -/
namespace K65
open PySem L2
/-! ### the texts -/
@[reducible] def lineTree (x : Str) : Str := Str.empty ++ "tree " ++ x ++ "\n"
@[reducible] def lineParent (x : Str) : Str := Str.empty ++ "parent " ++ x ++ "\n"
@[reducible] def lineAuthor (x : Str) (t : Int) : Str := Str.empty ++ "author " ++ x ++ "\ntime " ++ (toString t : Str) ++ "\n\n"
def clines (c : Cm) : List Str := [("commit\n" : Str), lineTree c.tree] ++ c.ps.map lineParent ++ [lineAuthor c.au c.tm]
def ctext (c : Cm) : Str := Txt.join "" (clines c) ++ c.ms
/-- a commit within the bounds -/
structure OkC (c : Cm) : Prop where
  tree : IsId c.tree
  ps : ∀ x ∈ c.ps, IsId x
  nps : c.ps.length ≤ 6
  nd : c.ps.Nodup
  au1 : 1 ≤ c.au.length
  au2 : c.au.length ≤ 12
  au3 : ∀ x ∈ c.au.cps.toList, x ∈ ("abcdefghijklmnopqrstuvwxyz" : Str).cps.toList
  tm0 : 0 ≤ c.tm
  tm1 : c.tm ≤ 1000
  ms1 : c.ms.length ≤ 200
  ms2 : ∀ x ∈ c.ms.cps.toList, 32 ≤ x ∧ x ≤ 126
theorem asc_mem {x z : Str} (hz : PySem.W.KSb.Asc z) (h : ∀ c ∈ x.cps.toList, c ∈ z.cps.toList) : PySem.W.KSb.Asc x := fun c hc => hz c (h c hc)
theorem asc_id {x : Str} (h : IsId x) : PySem.W.KSb.Asc x := asc_mem (PySem.W.KSb.asc_of (by decide +kernel)) h.2
theorem asc_join {a : Str} (ha : PySem.W.KSb.Asc a) : ∀ {ys : List Str}, (∀ y ∈ ys, PySem.W.KSb.Asc y) → PySem.W.KSb.Asc (Txt.join a ys) := by
  have key : ∀ ys : List Str, (∀ y ∈ ys, PySem.W.KSb.Asc y) → PySem.W.KSb.Asc (Str.join a ys) := by
    intro ys
    induction ys with
    | nil => intro _ c hc; cases hc
    | cons x r ih =>
      intro h
      cases r with
      | nil => exact h x List.mem_cons_self
      | cons z r => exact PySem.W.KSb.asc_app (PySem.W.KSb.asc_app (h x List.mem_cons_self) ha) (ih fun y hy => h y (List.mem_cons_of_mem _ hy))
  intro ys h
  rw [TL.join_eq]
  exact key ys h
theorem len_join {a : Str} : ∀ {ys : List Str} {m : Nat}, (∀ y ∈ ys, y.length ≤ m) → (Txt.join a ys).length ≤ ys.length * (m + a.length) := by
  have key : ∀ (ys : List Str) (m : Nat), (∀ y ∈ ys, y.length ≤ m) → (Str.join a ys).length ≤ ys.length * (m + a.length) := by
    intro ys m
    induction ys with
    | nil => intro _; exact Nat.zero_le _
    | cons x r ih =>
      intro h
      cases r with
      | nil =>
        have := h x List.mem_cons_self
        show x.length ≤ 1 * (m + a.length)
        omega
      | cons z r =>
        have h1 := h x List.mem_cons_self
        have h2 := ih fun y hy => h y (List.mem_cons_of_mem _ hy)
        show (x ++ a ++ Str.join a (z :: r)).length ≤ ((z :: r).length + 1) * (m + a.length)
        rw [Str.length_append, Str.length_append, Nat.add_mul]
        omega
  intro ys m h
  rw [TL.join_eq]
  exact key ys m h
theorem sum_le {l : List Nat} {m : Nat} (h : ∀ x ∈ l, x ≤ m) : l.sum ≤ l.length * m := by
  induction l with
  | nil => exact Nat.zero_le _
  | cons a r ih =>
    have h1 := h a List.mem_cons_self
    have h2 := ih fun x hx => h x (List.mem_cons_of_mem _ hx)
    rw [List.sum_cons, List.length_cons, Nat.add_mul]
    omega
theorem len_num {t : Int} (h0 : 0 ≤ t) (h1 : t ≤ 1000) : (toString t : Str).length ≤ 4 := by
  obtain ⟨n, rfl⟩ := Int.eq_ofNat_of_zero_le h0
  have h2 : n < 1001 := by omega
  have key : ∀ n : Fin 1001, (toString ((n.val : Nat) : Int) : Str).length ≤ 4 := by decide +kernel
  exact key ⟨n, h2⟩
theorem len_lit (x : Str) (n : Nat) (h : x.length = n) : x.length = n := h
theorem len_tree {x : Str} (h : IsId x) : (lineTree x).length ≤ 100 := by
  unfold lineTree
  rw [Str.length_append, Str.length_append, Str.length_append, h.1]
  decide
theorem len_parent {x : Str} (h : IsId x) : (lineParent x).length ≤ 100 := by
  unfold lineParent
  rw [Str.length_append, Str.length_append, Str.length_append, h.1]
  decide
theorem len_author {x : Str} {t : Int} (h : x.length ≤ 12) (h0 : 0 ≤ t) (h1 : t ≤ 1000) : (lineAuthor x t).length ≤ 100 := by
  unfold lineAuthor
  have := len_num h0 h1
  rw [Str.length_append, Str.length_append, Str.length_append, Str.length_append, Str.length_append]
  have e1 : (Str.empty).length = 0 := rfl
  have e2 : ("author " : Str).length = 7 := by decide
  have e3 : ("\ntime " : Str).length = 6 := by decide
  have e4 : ("\n\n" : Str).length = 2 := by decide
  omega
theorem lines_le {c : Cm} (o : OkC c) : ∀ y ∈ clines c, y.length ≤ 100 := by
  intro y hy
  unfold clines at hy
  simp only [List.mem_append, List.mem_cons, List.not_mem_nil, or_false, List.mem_map] at hy
  rcases hy with ((rfl | rfl) | ⟨x, hx, rfl⟩) | rfl
  · decide
  · exact len_tree o.tree
  · exact len_parent (o.ps x hx)
  · exact len_author o.au2 o.tm0 o.tm1
theorem len_ctext {c : Cm} (o : OkC c) : (ctext c).length ≤ 2000 := by
  unfold ctext
  have h1 := len_join (a := "") (lines_le o)
  have h2 := o.ms1
  have h3 := o.nps
  have e : (clines c).length = 3 + c.ps.length := by
    unfold clines
    simp only [List.length_append, List.length_cons, List.length_nil, List.length_map]
    omega
  rw [e] at h1
  have e2 : ("" : Str).length = 0 := rfl
  rw [e2] at h1
  rw [Str.length_append]
  omega
theorem asc_ctext {c : Cm} (o : OkC c) : PySem.W.KSb.Asc (ctext c) := by
  refine PySem.W.KSb.asc_app (asc_join (fun c hc => by cases hc) fun y hy => ?_) fun x hx => Nat.lt_of_le_of_lt (o.ms2 x hx).2 (by decide)
  unfold clines at hy
  simp only [List.mem_append, List.mem_cons, List.not_mem_nil, or_false, List.mem_map] at hy
  rcases hy with ((rfl | rfl) | ⟨x, hx, rfl⟩) | rfl
  · exact PySem.W.KSb.asc_of (by decide +kernel)
  · exact PySem.W.KSb.asc_app (PySem.W.KSb.asc_app (PySem.W.KSb.asc_app PySem.W.KSb.asc_empty (PySem.W.KSb.asc_of (by decide +kernel))) (asc_id o.tree)) (PySem.W.KSb.asc_of (by decide +kernel))
  · exact PySem.W.KSb.asc_app (PySem.W.KSb.asc_app (PySem.W.KSb.asc_app PySem.W.KSb.asc_empty (PySem.W.KSb.asc_of (by decide +kernel))) (asc_id (o.ps x hx))) (PySem.W.KSb.asc_of (by decide +kernel))
  · exact PySem.W.KSb.asc_app (PySem.W.KSb.asc_app (PySem.W.KSb.asc_app (PySem.W.KSb.asc_app (PySem.W.KSb.asc_app PySem.W.KSb.asc_empty (PySem.W.KSb.asc_of (by decide +kernel))) (asc_mem (PySem.W.KSb.asc_of (by decide +kernel)) o.au3)) (PySem.W.KSb.asc_of (by decide +kernel))) (PySem.W.KSb.asc_num c.tm)) (PySem.W.KSb.asc_of (by decide +kernel))
/-! ### the hash -/
def hashStep (n b : Int) : Int := (n * 1000003 + b + 1) % 2305843009213693951
def hashN (ks : List Int) : Int := ks.foldl hashStep 7
theorem hashStep_ok (n b : Int) : 0 ≤ hashStep n b ∧ hashStep n b < 2305843009213693951 := ⟨Int.emod_nonneg _ (by decide), Int.emod_lt_of_pos _ (by decide)⟩
theorem fold_ok : ∀ (ks : List Int) (n : Int), 0 ≤ n ∧ n < 2305843009213693951 → 0 ≤ ks.foldl hashStep n ∧ ks.foldl hashStep n < 2305843009213693951
  | [], _, h => h
  | k :: r, n, _ => fold_ok r (hashStep n k) (hashStep_ok n k)
theorem hashN_ok (ks : List Int) : 0 ≤ hashN ks ∧ hashN ks < 2305843009213693951 := fold_ok ks 7 ⟨by decide, by decide⟩
/-- the id of a text -/
def idOf (x : Str) : Str := hex16 (hashN (PySem.W.KSb.codes x)).toNat
end K65

set_option maxHeartbeats 200000
/-! K65Enc2: forkhaul.codes, the defs. -/
namespace K65
open PySem L2
section
variable {P : Program} {w : World} {K : PySem.W.Frag} {mg : Str → Option Value} {base : Heap}
def spEncTree (T : W K mg) : Sp := fun vs H Q _ => ∃ a, vs = [.ref a] ∧ TreeAt T H a ∧ ∀ H', Same H H' → Q (.str "tree\n") H'
theorem sc_encode_tree : FnScope ["tree", "lines", "name", "kind", "target"] ["tree"] (defScope s_encode_tree) := ⟨rfl, rfl, rfl, by decide +kernel, rfl, by decide +kernel, by decide +kernel⟩
theorem ok_encode_tree (T : W K mg) : FnOk P w K mg base CX0 3 T.a_encode_tree T.d_encode_tree ["tree"] (spEncTree T) := by
  have G : FnOk P w K mg base CX0 1 T.a_Tree_entries T.d_Tree_entries ["self"] (spEntries T) := ok_entries T
  have b := T.F_Tree_entries.binds (ps := ["self"]) fun _ _ _ _ _ _ us hl => match us, hl with | [_], _ => rfl
  refine T.F_encode_tree.ok sc_encode_tree (fun vs H Q E h => ?_) (fun cdv A outer s H vs Q E hr h => ?_)
  · obtain ⟨a, rfl, _⟩ := h
    rfl
  · obtain ⟨a, rfl, h1, k⟩ := h
    refine ⟨_, pss_cons (ps_set (i := 1) sc_encode_tree.nd rfl (Or.inl rfl) (pe_lst (pa_cons pe_str pa_nil)))
      (pss_cons (ps_for PassesOwn.never rfl (pi_items (pe_frz (pe_prop (pv 0) T.clTree T.P_Tree_entries G hr b .nil pass0 rfl)))
        (pg_tup rfl (pgs_cons (pg_name (i := 2) sc_encode_tree.nd rfl (Or.inl rfl)) (pgs_cons (pg_tup rfl (pgs_cons (pg_name (i := 3) sc_encode_tree.nd rfl (Or.inl rfl)) (pgs_cons (pg_name (i := 4) sc_encode_tree.nd rfl (Or.inl rfl)) pgs_nil))) pgs_nil)))
        pss_never)
      (pss_one (ps_ret (pe_join pe_str (pv 1))))), ?_⟩
    refine ⟨(by show 1 ≤ sizeLine; decide), fun l hl => ?_⟩
    have s1 : Same H (upd H l (.lst [.str "tree\n"])) := same_new hl
    obtain ⟨dx, t, h2, h3⟩ := id h1
    refine ⟨_, rfl, a, dx, _, rfl, s1 _ _ h2, a, rfl, h1.same s1, fun H' D s2 hD hd => ⟨D, _, rfl, hd, trivial, fun od => ⟨D, od, [], rfl, upd_same, ?_⟩⟩⟩
    have nDl : l ≠ D := ne_of_none upd_same hD
    refine for_it walk_items (fun _ σ H2 => σ = [some (.ref a), some (.ref l), none, none, none] ∧ H2 = upd H' D (.frz od (.dK []))) ⟨rfl, rfl⟩ (fun _ _ _ _ q => by rw [q.2]; exact upd_same) (fun i _ _ _ _ hi => absurd hi (Nat.not_lt_zero _)) ?_
    rintro σ H2 ⟨rfl, rfl⟩
    refine ⟨⟨_, rfl⟩, _, rfl, _, l, ["tree\n"], rfl, rfl, .inl (SqL.of (by rw [upd_ne nDl]; exact s2 _ _ upd_same)), (by decide), ?_⟩
    refine k _ fun b o e => ?_
    rw [upd_ne (ne_of_none (s1 _ _ e) hD)]
    exact s2 _ _ (s1 _ _ e)
def spEncCommit (T : W K mg) : Sp := fun vs H Q _ => ∃ a c, vs = [.ref a] ∧ CommitAt T H a c ∧ OkC c ∧ ∀ H', Same H H' → Q (.str (ctext c)) H'
theorem sc_encode_commit : FnScope ["commit", "lines", "one"] ["commit"] (defScope s_encode_commit) := ⟨rfl, rfl, rfl, by decide +kernel, rfl, by decide +kernel, by decide +kernel⟩
theorem ok_encode_commit (T : W K mg) : FnOk P w K mg base CX0 3 T.a_encode_commit T.d_encode_commit ["commit"] (spEncCommit T) := by
  have b0 := T.F_Commit_tree.binds (ps := ["self"]) fun _ _ _ _ _ _ us hl => match us, hl with | [_], _ => rfl
  have b1 := T.F_Commit_parents.binds (ps := ["self"]) fun _ _ _ _ _ _ us hl => match us, hl with | [_], _ => rfl
  have b2 := T.F_Commit_author.binds (ps := ["self"]) fun _ _ _ _ _ _ us hl => match us, hl with | [_], _ => rfl
  have b3 := T.F_Commit_time.binds (ps := ["self"]) fun _ _ _ _ _ _ us hl => match us, hl with | [_], _ => rfl
  have b4 := T.F_Commit_message.binds (ps := ["self"]) fun _ _ _ _ _ _ us hl => match us, hl with | [_], _ => rfl
  refine T.F_encode_commit.ok sc_encode_commit (fun vs H Q E h => ?_) (fun cdv A outer s H vs Q E hr h => ?_)
  · obtain ⟨a, _, rfl, _⟩ := h
    rfl
  · obtain ⟨a, c, rfl, h1, oc, k⟩ := h
    refine ⟨_, pss_cons (ps_set (i := 1) sc_encode_commit.nd rfl (Or.inl rfl) (pe_lst (pa_cons pe_str (pa_cons (pe_fj (.cons pe_str (.cons (pe_fmt (pe_prop (pv 0) T.clCommit T.P_Commit_tree (ok_tree T) hr b0 .nil pass0 rfl)) (.cons pe_str .nil)))) pa_nil))))
      (pss_cons (ps_expr (pe_bm PySem.F.plainAttrs_list PySem.F.slot_list_extend PySem.F.type_list_extend mt_extend (pv 1) (pa_cons
        (pe_lc (own := [("one", 2)]) (g := gName 2) (tt := tYes) rfl sc_encode_commit.nd (pi_tup (pe_prop (pv 0) T.clCommit T.P_Commit_parents (ok_parents T) hr b1 .nil pass0 rfl)) (blkOk_by (N := ["commit", "lines", "one"]) (sc := defScope s_encode_commit) (by decide +kernel))
          (fun _ _ _ _ _ => pg_name (i := 2) sc_encode_commit.nd rfl (Or.inl rfl)) (fun _ _ _ _ _ => pts_nil)
          (fun _ _ _ _ _ => pe_fj (.cons pe_str (.cons (pe_fmt (pv 2)) (.cons pe_str .nil))))) pa_nil)))
      (pss_cons (ps_expr (pe_bm PySem.F.plainAttrs_list PySem.F.slot_list_append PySem.F.type_list_append mt_append (pv 1) (pa_cons
        (pe_fj (.cons pe_str (.cons (pe_fmt (pe_prop (pv 0) T.clCommit T.P_Commit_author (ok_author T) hr b2 .nil pass0 rfl)) (.cons pe_str (.cons (pe_fmt (pe_prop (pv 0) T.clCommit T.P_Commit_time (ok_time T) hr b3 .nil pass0 rfl)) (.cons pe_str .nil)))))) pa_nil)))
      (pss_one (ps_ret (pe_op op_add_str (pe_join pe_str (pv 1)) (pe_prop (pv 0) T.clCommit T.P_Commit_message (ok_message T) hr b4 .nil pass0 rfl)))))), ?_⟩
    obtain ⟨dx, t, p, h2, h3, h4⟩ := id h1
    have z (y : Str) (h : y.length ≤ 100) : y.length ≤ sizeLine := Nat.le_trans h (by decide)
    have l1 := len_tree oc.tree
    have l3 := len_author oc.au2 oc.tm0 oc.tm1
    have l4 := len_num oc.tm0 oc.tm1
    have lt (i : Int) (h0 : 0 ≤ i) (h1 : i ≤ 1000) : i.natAbs.log2 < 1920 := by
      have : i.natAbs < 2 ^ 100 := Nat.lt_of_le_of_lt (show i.natAbs ≤ 1000 by omega) (by decide)
      by_cases h : i.natAbs = 0
      · rw [h]; decide
      · exact Nat.lt_of_lt_of_le ((Nat.log2_lt h).mpr this) (by decide)
    refine ⟨_, rfl, by decide, _, rfl, a, dx, _, rfl, h2, a, dx, t, _, _, rfl, h2, h3, rfl, .inl ⟨c.tree, rfl, by rw [oc.tree.1]; decide, _, rfl, ?_, _, rfl, z _ l1, (by show 2 ≤ sizeLine; decide), fun l hl => ?_⟩⟩
    · rw [Str.length_append, Str.length_append, oc.tree.1]
      decide
    have s1 : Same H (upd H l (.lst [.str "commit\n", .str (lineTree c.tree)])) := same_new hl
    refine ⟨_, rfl, .inl ⟨rfl, _, SqL.of upd_same⟩, _, rfl, a, dx, _, rfl, s1 _ _ h2, a, dx, t, _, _, rfl, s1 _ _ h2, s1 _ _ h3, rfl, p, rfl, ⟨_, sqt_same s1 h4⟩, fun D hD => ?_⟩
    refine lc_fmT (K := K) c.ps V.str (fun _ => true) (fun x => .str (lineParent x)) (sqt_same s1 h4) (Nat.le_trans oc.nps (by decide)) hD (fun x hx H' B C s2 hA hC => ?_) fun H' s2 hd => ?_
    · have l2 := len_parent (oc.ps x hx)
      refine ⟨rfl, lcY ⟨_, rfl, by decide, _, rfl, .inl ⟨x, rfl, by rw [(oc.ps x hx).1]; decide, _, rfl, ?_, _, rfl, z _ l2, hA rfl H' (Same.refl _)⟩⟩⟩
      rw [Str.length_append, Str.length_append, (oc.ps x hx).1]
      decide
    rw [flt] at hd
    have s3 := s1.trans s2
    have nlD : l ≠ D := ne_of_none upd_same hD
    refine ⟨l, D, _, _, rfl, rfl, s2 _ _ upd_same, hd, ?_, ?_⟩
    · have := oc.nps
      rw [List.length_map]
      exact Nat.le_trans (show 2 + c.ps.length ≤ 1000 by omega) (by decide)
    have s4 : Same H (upd H' l (.lst ([.str "commit\n", .str (lineTree c.tree)] ++ c.ps.map fun x => .str (lineParent x)))) := same_mut s3 hl
    refine ⟨_, rfl, .inl ⟨rfl, _, SqL.of upd_same⟩, _, rfl, by decide, _, rfl, a, dx, _, rfl, s4 _ _ h2, a, dx, t, _, _, rfl, s4 _ _ h2, s4 _ _ h3, rfl, .inl ⟨c.au, rfl, Nat.le_trans oc.au2 (by decide), _, rfl, ?_, _, rfl, ?_, _, rfl, a, dx, _, rfl, s4 _ _ h2, a, dx, t, _, _, rfl, s4 _ _ h2, s4 _ _ h3, rfl,
      .inr ⟨c.tm, rfl, lt _ oc.tm0 oc.tm1, _, rfl, ?_, _, rfl, z _ l3, ?_⟩⟩⟩
    · have := oc.au2
      rw [Str.length_append, Str.length_append]
      exact Nat.le_trans (show 0 + 7 + c.au.length ≤ 100 by omega) (by decide)
    · have := oc.au2
      rw [Str.length_append, Str.length_append, Str.length_append]
      exact Nat.le_trans (show 0 + 7 + c.au.length + 6 ≤ 100 by omega) (by decide)
    · have := oc.au2
      rw [Str.length_append, Str.length_append, Str.length_append, Str.length_append]
      exact Nat.le_trans (show 0 + 7 + c.au.length + 6 + (toString c.tm : Str).length ≤ 100 by omega) (by decide)
    refine ⟨l, _, _, rfl, rfl, upd_same, ?_, ?_⟩
    · have := oc.nps
      rw [List.length_append, List.length_map]
      exact Nat.lt_of_le_of_lt (show 2 + c.ps.length ≤ 1000 by omega) (by decide)
    rw [upd_upd]
    have s5 : Same H (upd H' l (.lst ([.str "commit\n", .str (lineTree c.tree)] ++ (c.ps.map fun x => .str (lineParent x)) ++ [.str (lineAuthor c.au c.tm)]))) := same_mut s3 hl
    refine ⟨⟨_, rfl⟩, _, rfl, "", l, clines c, rfl, rfl, .inl (SqL.of ?_), ?_, _, rfl, a, dx, _, rfl, s5 _ _ h2, a, dx, t, _, _, rfl, s5 _ _ h2, s5 _ _ h3, rfl, _, _, rfl, rfl, ?_, k _ s5⟩
    · rw [upd_same]
      unfold clines
      rw [List.map_append, List.map_append, List.map_map]
      rfl
    · have q := sum_le (l := (clines c).map (·.length)) (m := 100) fun x hx => by
        obtain ⟨y, hy, rfl⟩ := List.mem_map.mp hx
        exact lines_le oc y hy
      have e : (clines c).length = 3 + c.ps.length := by
        unfold clines
        simp only [List.length_append, List.length_cons, List.length_nil, List.length_map]
        omega
      have := oc.nps
      rw [List.length_map, e] at q
      rw [e]
      have e2 : ("" : Str).length = 0 := rfl
      rw [e2]
      omega
    · have q := len_ctext oc
      unfold ctext at q
      rw [Str.length_append] at q
      exact Nat.le_trans q (by decide)
end
end K65

set_option maxHeartbeats 200000
/-! K65Enc3: encode, sum_of, id_of. -/
namespace K65
open PySem L2
inductive Ob where
  | tree
  | com (c : Cm)
def Ob.ok : Ob → Prop
  | .tree => True
  | .com c => OkC c
def otext : Ob → Str
  | .tree => "tree\n"
  | .com c => ctext c
def oid (o : Ob) : Str := idOf (otext o)
theorem asc_otext : ∀ {o : Ob}, o.ok → PySem.W.KSb.Asc (otext o)
  | .tree, _ => PySem.W.KSb.asc_of (by decide +kernel)
  | .com _, h => asc_ctext h
theorem len_otext : ∀ {o : Ob}, o.ok → (otext o).length ≤ 2000
  | .tree, _ => by decide
  | .com _, h => len_ctext h
theorem hexL_len {n : Nat} (h : n < 16 ^ 16) : (hexL n).length = 16 := by
  unfold hexL
  rw [List.length_append, List.length_replicate, List.length_map]
  have : (Nat.toDigits 16 n).length ≤ 16 := (Nat.length_toDigits_le_iff (b := 16) (n := n) (by decide) (by decide)).mpr h
  omega
theorem hexDigit : ∀ d : Fin 16, (Nat.digitChar d.val).toNat ∈ ("0123456789abcdef" : Str).cps.toList := by decide +kernel
theorem hexDigits (n : Nat) : ∀ c ∈ (Nat.toDigits 16 n).map Char.toNat, c ∈ ("0123456789abcdef" : Str).cps.toList := by
  induction n using Nat.strongRecOn with
  | _ n ih =>
    rw [Nat.toDigits_eq_if (by decide)]
    by_cases h : n < 16
    · rw [if_pos h]
      intro c hc
      rw [List.map_cons, List.map_nil, List.mem_singleton] at hc
      rw [hc]
      exact hexDigit ⟨n, h⟩
    · rw [if_neg h]
      intro c hc
      rw [List.map_append] at hc
      rcases List.mem_append.mp hc with q | q
      · exact ih (n / 16) (by omega) c q
      · rw [List.map_cons, List.map_nil, List.mem_singleton] at q
        rw [q]
        exact hexDigit ⟨n % 16, by omega⟩
theorem isId_hex {n : Nat} (h : n < 16 ^ 16) : IsId (hex16 n) := by
  refine ⟨?_, fun c hc => ?_⟩
  · show (hexL n).toArray.size = 16
    rw [List.size_toArray, hexL_len h]
  · have hc : c ∈ hexL n := by simpa [hex16] using hc
    unfold hexL at hc
    rcases List.mem_append.mp hc with q | q
    · rw [List.eq_of_mem_replicate q]
      decide +kernel
    · exact hexDigits n c q
theorem isId_idOf (x : Str) : IsId (idOf x) := by
  have h := hashN_ok (PySem.W.KSb.codes x)
  refine isId_hex ?_
  have : (hashN (PySem.W.KSb.codes x)).toNat < 2305843009213693951 := by omega
  exact Nat.lt_of_lt_of_le this (by decide)
section
variable {P : Program} {w : World} {K : PySem.W.Frag} {mg : Str → Option Value} {base : Heap}
/-- an object stands at a -/
def ObjAt (T : W K mg) (H : Hp) (a : Addr) : Ob → Prop
  | .tree => TreeAt T H a
  | .com c => CommitAt T H a c
theorem ObjAt.same {T : W K mg} {H H' : Hp} {a : Addr} : ∀ {o : Ob}, ObjAt T H a o → Same H H' → ObjAt T H' a o
  | .tree, h, s => TreeAt.same h s
  | .com _, h, s => CommitAt.same h s
def spEnc (T : W K mg) : Sp := fun vs H Q _ => ∃ a o, vs = [.ref a] ∧ ObjAt T H a o ∧ o.ok ∧ ∀ H' c, Same H H' → PySem.W.KBw.bInts c = PySem.W.KSb.codes (otext o) → Q (.byt c) H'
theorem sc_encode : FnScope ["thing", "text"] ["thing"] (defScope s_encode) := ⟨rfl, rfl, rfl, by decide +kernel, rfl, by decide +kernel, by decide +kernel⟩
theorem ok_encode (T : W K mg) : FnOk P w K mg base CX0 4 T.a_encode T.d_encode ["thing"] (spEnc T) := by
  have b0 := T.F_is_object.binds (ps := ["thing"]) fun _ _ _ _ _ _ us hl => match us, hl with | [_], _ => rfl
  have b1 := T.F_encode_tree.binds (ps := ["tree"]) fun _ _ _ _ _ _ us hl => match us, hl with | [_], _ => rfl
  have b2 := T.F_encode_commit.binds (ps := ["commit"]) fun _ _ _ _ _ _ us hl => match us, hl with | [_], _ => rfl
  refine T.F_encode.ok sc_encode (fun vs H Q E h => ?_) (fun cdv A outer s H vs Q E hr h => ?_)
  · obtain ⟨a, _, rfl, _⟩ := h
    rfl
  · obtain ⟨a, o, rfl, h1, oc, k⟩ := h
    refine ⟨_, pss_cons (ps_if (pt_not (pt_val (pe_call (ok_is_object T) (hr.mono (by decide)) rfl T.g_is_object T.F_is_object.kp b0 .nil pass0 (pa_cons (pv 0) pa_nil)))) (pss_one ps_never) pss_nil)
      (pss_cons (ps_if (pt_val (pe_callB call_isi (by rfl) T.z_isinstance (by decide +kernel) (pa_cons (pv 0) (pa_cons (pe_glob (v := .ref T.CBlob) rfl T.gCBlob rfl) pa_nil)))) pss_never
        (pss_one (ps_if (pt_val (pe_callB call_isi (by rfl) T.z_isinstance (by decide +kernel) (pa_cons (pv 0) (pa_cons (pe_glob (v := .ref T.CTree) rfl T.gCTree rfl) pa_nil))))
          (pss_one (ps_set (i := 1) sc_encode.nd rfl (Or.inl rfl) (pe_call (ok_encode_tree T) hr rfl T.g_encode_tree T.F_encode_tree.kp b1 .nil pass0 (pa_cons (pv 0) pa_nil))))
          (pss_one (ps_if (pt_val (pe_callB call_isi (by rfl) T.z_isinstance (by decide +kernel) (pa_cons (pv 0) (pa_cons (pe_glob (v := .ref T.CCommit) rfl T.gCCommit rfl) pa_nil))))
            (pss_one (ps_set (i := 1) sc_encode.nd rfl (Or.inl rfl) (pe_call (ok_encode_commit T) hr rfl T.g_encode_commit T.F_encode_commit.kp b2 .nil pass0 (pa_cons (pv 0) pa_nil))))
            pss_never)))))
      (pss_one (ps_ret (pe_bm0 PySem.F.plainAttrs_str PySem.F.slot_str_encode PySem.F.type_str_encode mt_encode (pv 1))))), ?_⟩
    have zl := len_otext oc
    have za := asc_otext oc
    cases o with
    | tree =>
      have h1 : TreeAt T H a := h1
      refine ⟨_, rfl, a, rfl, .inl h1, fun H1 s1 => ⟨true, rfl, iteF ?_⟩⟩
      refine ⟨_, rfl, _, _, _, _, false, rfl, .own _, ty_tree T (h1.same s1), T.iTreeBlob, false, rfl, iteF ?_⟩
      refine ⟨_, rfl, _, _, _, _, true, rfl, .own _, ty_tree T (h1.same s1), T.iTreeTree, true, rfl, iteT ?_⟩
      refine ⟨_, rfl, a, rfl, h1.same s1, fun H2 s2 => ⟨_, rfl, rfl, "tree\n", rfl, rfl, za, Nat.le_trans zl (by decide), fun c hc => k H2 c (s1.trans s2) hc⟩⟩
    | com c =>
      have h1 : CommitAt T H a c := h1
      refine ⟨_, rfl, a, rfl, .inr ⟨c, h1⟩, fun H1 s1 => ⟨true, rfl, iteF ?_⟩⟩
      refine ⟨_, rfl, _, _, _, _, false, rfl, .own _, ty_commit T (h1.same s1), T.iCommitBlob, false, rfl, iteF ?_⟩
      refine ⟨_, rfl, _, _, _, _, false, rfl, .own _, ty_commit T (h1.same s1), T.iCommitTree, false, rfl, iteF ?_⟩
      refine ⟨_, rfl, _, _, _, _, true, rfl, .own _, ty_commit T (h1.same s1), T.iCommitCommit, true, rfl, iteT ?_⟩
      refine ⟨_, rfl, a, c, rfl, h1.same s1, oc, fun H2 s2 => ⟨_, rfl, rfl, ctext c, rfl, rfl, za, Nat.le_trans zl (by decide), fun c' hc => k H2 c' (s1.trans s2) hc⟩⟩
/-! ### sum_of -/
def spSum : Sp := fun vs H Q _ => ∃ c, vs = [.byt c, .bl false] ∧ Q (.str (hex16 (hashN (PySem.W.KBw.bInts c)).toNat)) H
theorem sc_sum_of : FnScope ["data", "short", "number", "modulus", "byte"] ["data", "short"] (defScope s_sum_of) := ⟨rfl, rfl, rfl, by decide +kernel, rfl, by decide +kernel, by decide +kernel⟩
theorem ok_sum_of (T : W K mg) : FnOk P w K mg base CX0 1 T.a_sum_of T.d_sum_of ["data", "short"] spSum := by
  obtain ⟨t1, v1⟩ := T.v_LONG
  obtain ⟨t2, v2⟩ := T.v_SHORT
  obtain ⟨t3, v3⟩ := T.v_FACTOR
  refine T.F_sum_of.okN sc_sum_of (fun vs H Q E h => ?_) (fun cdv A outer s H vs Q E hr h => ?_)
  · obtain ⟨c, rfl, _⟩ := h
    rfl
  · obtain ⟨c, rfl, k⟩ := h
    refine ⟨_, pss_cons (ps_if (pt_not (pt_val (pe_callB call_isi (by rfl) T.z_isinstance (by decide +kernel) (pa_cons (pv 0) (pa_cons (pe_bltn (v := .ty "bytes") (by rfl) T.z_bytes (by decide +kernel) rfl) pa_nil))))) (pss_one ps_never) pss_nil)
      (pss_cons (ps_set (i := 2) sc_sum_of.nd rfl (Or.inl rfl) pe_int)
      (pss_cons (ps_set (i := 3) sc_sum_of.nd rfl (Or.inl rfl) (pe_ifExp (pt_val (pv 1)) (pe_glob (v := .int 251) rfl v2 ⟨_, rfl⟩) (pe_glob (v := .int 2305843009213693951) rfl v1 ⟨_, rfl⟩)))
      (pss_cons (ps_for PassesOwn.never rfl (pi_byt (pv 0)) (pg_name (i := 4) sc_sum_of.nd rfl (Or.inl rfl))
        (pss_one (ps_set (i := 2) sc_sum_of.nd rfl (Or.inl rfl) (pe_op op_mod (pe_callTy call_int1 (by rfl) T.z_int (by decide +kernel) (pa_cons (pe_op op_add (pe_op op_add (pe_op op_mul (pv 2) (pe_glob (v := .int 1000003) rfl v3 ⟨_, rfl⟩)) (pv 4)) pe_int) pa_nil)) (pv 3)))))
      (pss_one (ps_ret (pe_joined1 (pe_fmtHex (pv 2)))))))), ?_⟩
    refine ⟨_, rfl, _, _, _, _, true, rfl, .ty "bytes", .byt c, kit_ty (by decide +kernel), true, rfl, iteF ?_⟩
    refine ⟨_, rfl, false, rfl, iteF ⟨_, rfl, c, rfl, ?_⟩⟩
    refine for_byt (fun i σ H' => H' = H ∧ ∃ b, σ = [some (.byt c), some (.bl false), some (.int (hashN ((PySem.W.KBw.bInts c).take i))), some (.int 2305843009213693951), b]) ⟨rfl, _, rfl⟩ ?_ ?_
    · rintro i y σ H' hy ⟨rfl, b, rfl⟩
      have e : (PySem.W.KBw.bInts c)[i]? = some ((y.toNat : Nat) : Int) := by
        unfold PySem.W.KBw.bInts
        rw [List.getElem?_map, Array.getElem?_toList, hy]
        rfl
      have e2 : hashN ((PySem.W.KBw.bInts c).take (i + 1)) = hashStep (hashN ((PySem.W.KBw.bInts c).take i)) ((y.toNat : Nat) : Int) := by
        rw [take_snoc e]
        unfold hashN
        rw [List.foldl_append]
        rfl
      have q := hashN_ok ((PySem.W.KBw.bInts c).take i)
      refine ⟨_, rfl, _, _, rfl, rfl, .inl ⟨by omega, by omega⟩, _, rfl, _, _, rfl, rfl, _, _, rfl, rfl, .inl ⟨_, rfl, _, rfl, _, _, rfl, rfl, (by show (0 : Int) < 2305843009213693951; decide), ?_⟩⟩
      refine ⟨rfl, some (.int ((y.toNat : Nat) : Int)), ?_⟩
      rw [e2]
      rfl
    · rintro σ H' ⟨rfl, b, rfl⟩
      have e : (PySem.W.KBw.bInts c).take c.size = PySem.W.KBw.bInts c := by
        rw [List.take_of_length_le]
        unfold PySem.W.KBw.bInts
        rw [List.length_map, Array.length_toList]
        exact Nat.le_refl _
      rw [e]
      have q := hashN_ok (PySem.W.KBw.bInts c)
      refine ⟨_, rfl, (hashN (PySem.W.KBw.bInts c)).toNat, by rw [Int.toNat_of_nonneg q.1], ?_, k⟩
      have := (isId_hex (n := (hashN (PySem.W.KBw.bInts c)).toNat) (Nat.lt_of_lt_of_le (show _ < 2305843009213693951 by omega) (by decide))).1
      rw [this]
      decide
/-! ### id_of -/
def spIdOf (T : W K mg) : Sp := fun vs H Q _ => ∃ a o, vs = [.ref a, .bl false] ∧ ObjAt T H a o ∧ o.ok ∧ ∀ H', Same H H' → Q (.str (oid o)) H'
theorem sc_id_of : FnScope ["thing", "short"] ["thing", "short"] (defScope s_id_of) := ⟨rfl, rfl, rfl, by decide +kernel, rfl, by decide +kernel, by decide +kernel⟩
theorem ok_id_of (T : W K mg) : FnOk P w K mg base CX0 5 T.a_id_of T.d_id_of ["thing", "short"] (spIdOf T) := by
  have b0 := T.F_encode.binds (ps := ["thing"]) fun _ _ _ _ _ _ us hl => match us, hl with | [_], _ => rfl
  obtain ⟨mv, b1⟩ := T.F_sum_of.kbinds0 (ps := ["data", "short"]) 1 ["short"] [] (fun us _ ws => us ++ ws) (by simp) (by simp) (fun r _ z => r.append z) fun _ _ _ _ _ _ us mv ws h1 h2 h3 => match us, mv, ws, h1, h2, h3 with | [_], [], [_], _, _, _ => rfl
  refine T.F_id_of.ok sc_id_of (fun vs H Q E h => ?_) (fun cdv A outer s H vs Q E hr h => ?_)
  · obtain ⟨a, _, rfl, _⟩ := h
    rfl
  · obtain ⟨a, o, rfl, h1, oc, k⟩ := h
    refine ⟨_, pss_one (ps_ret (pe_callN (ok_sum_of T) (hr.mono (by decide)) rfl T.g_sum_of T.F_sum_of.kp b1 pass0 (pa_cons (pe_call (ok_encode T) hr rfl T.g_encode T.F_encode.kp b0 .nil pass0 (pa_cons (pv 0) pa_nil)) pa_nil) (pk_cons (pv 1) pk_nil))), ?_⟩
    refine ⟨_, rfl, a, o, rfl, h1, oc, fun H' c s1 hc => ⟨_, rfl, rfl, rfl, c, rfl, ?_⟩⟩
    rw [hc]
    exact k H' s1
end
end K65

set_option maxHeartbeats 2000000
/-! K65Set: sets of texts that can be walked: made by a comprehension or of a tuple; their length; sorted. -/
namespace K65
open PySem PySem.Spec PyProof.Rows L2
/-- the text of a row of the set's table -/
def rowTx (e : Int × Value) : Str := match e.2 with
  | .str x _ => x
  | _ => Str.empty
def TxRow (w : World) (e : Int × Value) : Prop := ∃ x u, e.2 = Value.str x u ∧ e.1 = hashStr w x
/-- a new member behind the others -/
def ins (L : List Str) (k : Str) : List Str := if k ∈ L then L else L ++ [k]
def TxSet (w : World) (h : Heap) (a : Addr) (L : List Str) : Prop :=
  ∃ ob es ep t, h.get? a = some ob ∧ ob.ExactSet ∧ ob.data = .set es ep t ∧ (∀ e ∈ es.toList, TxRow w e) ∧ (es.toList.map rowTx).Perm L ∧ L.Nodup ∧ es.size < scanBound ∧ t.fits es.size = true ∧
    Ris t.place.toList ∧ (w.params.followText "set-order" = true ∨ t.led = true)
section
variable {P : Program} {w : World} {h h' : Heap} {a : Addr} {L : List Str}
theorem TxSet.keep (R : TxSet w h a L) (k : ∀ o, h.get? a = some o → h'.get? a = some o) : TxSet w h' a L :=
  let ⟨ob, es, ep, t, at_, rest⟩ := R
  ⟨ob, es, ep, t, k ob at_, rest⟩
theorem row_is (k : Str) (u : Tok) : (strKind P w).is k (.str k u) = true := by
  show Value.isStrOf k (.str k u) = true
  simp [Value.isStrOf]
theorem rows_elems {l : List (Int × Value)} (g : ∀ e ∈ l, TxRow w e) : ElemsOf (strKind P w) l := fun e he => by
  obtain ⟨x, u, e1, e2⟩ := g e he
  refine ⟨⟨x, ?_, e2⟩, ?_⟩
  · rw [e1]
    exact row_is x u
  · rw [e1]
    rfl
theorem row_key {e : Int × Value} (g : TxRow w e) (k : Str) : (strKind P w).is k e.2 = true ↔ rowTx e = k := by
  obtain ⟨x, u, e1, _⟩ := g
  have er : rowTx e = x := by
    unfold rowTx
    rw [e1]
  rw [er, e1]
  refine ⟨fun q => ?_, fun q => q ▸ row_is x u⟩
  obtain ⟨u', eq⟩ := Value.isStrOf_shape (x := k) (v := .str x u) q
  injection eq with eq1
theorem rows_has {l : List (Int × Value)} (g : ∀ e ∈ l, TxRow w e) (k : Str) : k ∈ l.map rowTx ↔ ∃ e ∈ l, (strKind P w).is k e.2 = true :=
  ⟨fun m => let ⟨e, he, q⟩ := List.mem_map.mp m; ⟨e, he, (row_key (g e he) k).mpr q⟩, fun ⟨e, he, q⟩ => List.mem_map.mpr ⟨e, he, (row_key (P := P) (g e he) k).mp q⟩⟩
theorem TxSet.of (R : TxSet w h a L) : ∃ S, h.SetOf (strKind P w) a S L.length := by
  obtain ⟨ob, es, ep, t, at_, ex, dat, g, pm, nd, bnd, fit, _⟩ := R
  refine ⟨fun k => decide (k ∈ L), ob, es, ep, t, at_, ex, dat, rows_elems g, fun k => ?_, bnd, fit, ?_⟩
  · rw [decide_eq_true_eq, ← pm.mem_iff]
    exact rows_has g k
  · have q := pm.length_eq
    rw [List.length_map, Array.length_toList] at q
    exact q
end
section
variable {P : Program} {w : World} {A : Around} {E : Value → Shared → Prop} {s : Shared} {a : Addr} {L : List Str}
theorem put_there {h : Heap} {o : Obj} {es es' : Array (Int × Value)} {ep : Nat} {t t' : SetTable} (at_ : h.get? a = some o) (dat : o.data = .set es ep t) :
    (h.update a (Obj.putSet es' t')).get? a = some { o with data := .set es' (ep + 1) t' } := by
  have z := Heap.get?_update_self (Obj.putSet es' t') at_ (by rw [putSet_of es' t' dat]; rfl)
  rwa [putSet_of es' t' dat] at z
/-- the end of an adding: the table is laid, and laid anew where it is too full -/
theorem tx_tail {g : Bool → Sem Unit} (gq : ∀ (b : Bool) (u : Shared) (Z : Unit → Shared → Prop), Z () u → wpAny (model P w) A (g b) Z E u)
    {o : Obj} {es : Array (Int × Value)} {ep : Nat} {t : SetTable} (at_ : s.heap.get? a = some o) (ex : o.ExactSet) (dat : o.data = .set es ep t)
    {fs : Array (Int × Value)} {t2 : SetTable} (rows : ∀ e ∈ fs.toList, TxRow w e) (pm : (fs.toList.map rowTx).Perm L) (nd : L.Nodup)
    (bnd : fs.size < scanBound) (fit : t2.fits fs.size = true) (ri : Ris t2.place.toList) (led : w.params.followText "set-order" = true ∨ t2.led = true) {dummy : Bool} {Z : Option Bool → Shared → Prop}
    (done : ∀ h', Heap.SameBut a s.heap h' → TxSet w h' a L → Z (some true) { s with heap := h' }) :
    wpAny (model P w) A (do
        storeSet a fs t2
        if (!dummy && t2.tooFull) = true then do
            g (relayAll t2 fs (SetTable.grown fs.size)).2.2
            storeSet a (relayAll t2 fs (SetTable.grown fs.size)).1 (relayAll t2 fs (SetTable.grown fs.size)).2.1
            pure (some true)
          else pure (some true)) Z E s := by
  refine wpAny_bind (wpAny_storeSet_of at_ dat ?_ (fits_of_scanBound bnd))
  have at1 := put_there (es' := fs) (t' := t2) at_ dat
  have sb1 := Heap.SameBut.update s.heap a (Obj.putSet fs t2)
  split
  · have q1 := relayAll_perm t2 fs (SetTable.grown fs.size)
    have q2 := relayAll_fits t2 fs (SetTable.grown fs.size)
    have q3 := relayAll_ris t2 fs (SetTable.grown fs.size)
    have q4 := relayAll_led t2 fs (SetTable.grown fs.size)
    generalize relayAll t2 fs (SetTable.grown fs.size) = Y at q1 q2 q3 q4 ⊢
    obtain ⟨gs, t3, way⟩ := Y
    dsimp only at q1 q2 q3 q4 ⊢
    have sz : gs.size = fs.size := by
      have z := q1.length_eq
      rwa [Array.length_toList, Array.length_toList] at z
    have bnd2 : gs.size < scanBound := sz ▸ bnd
    refine wpAny_bind (gq _ _ _ ?_)
    refine wpAny_bind (wpAny_storeSet_of at1 rfl ?_ (fits_of_scanBound bnd2))
    have at2 := put_there (es' := gs) (t' := t3) at1 rfl
    refine wpAny_pure (done _ (sb1.trans (Heap.SameBut.update _ a _)) ?_)
    exact ⟨_, gs, _, t3, at2, ex, rfl, fun e he => rows e (q1.mem_iff.mp he), (q1.map rowTx).trans pm, nd, bnd2, q2, q3, led.imp id fun z => q4.trans z⟩
  · exact wpAny_pure (done _ sb1 ⟨_, fs, _, t2, at1, ex, rfl, rows, pm, nd, bnd, fit, ri, led⟩)
theorem tx_hashed {k : Str} {u : Tok} {Z : Bool → Shared → Prop} (R : TxSet w s.heap a L) (room : L.length + 1 < scanBound)
    (done : ∀ h', Heap.SameBut a s.heap h' → TxSet w h' a (ins L k) → Z (!decide (k ∈ L)) { s with heap := h' }) :
    wpAny (model P w) A (setAddHashed a (.str k u) ((strKind P w).hash k)) Z E s := by
  obtain ⟨o, es, ep, t, at_, ex, dat, g, pm, nd, bnd, fit, ri, led⟩ := R
  have isk : (strKind P w).is k (.str k u) = true := row_is k u
  have sc : (Value.str k u).scannable = true := rfl
  have els : ElemsOf (strKind P w) es.toList := rows_elems g
  unfold setAddHashed setAddHashedIn
  refine wpAny_holding (wpAny_bind (wpAny_setState_of at_ dat fit ?_))
  dsimp only
  rw [byScan_of sc bnd els]
  simp only [↓reduceIte]
  unfold setAddByScan
  refine wpAny_bind (wpAny_bind (wpAny_rule (wpAny_bind (wpAny_setScan_of isk at_ dat fit els ?_))))
  cases fi : List.findIdx? (fun e => (strKind P w).is k e.2) es.toList with
  | some j =>
    dsimp only
    obtain ⟨lt, pj, _⟩ := List.findIdx?_eq_some_iff_getElem.mp fi
    have kin : k ∈ L := pm.mem_iff.mp ((rows_has (P := P) (w := w) g k).mpr ⟨es.toList[j], List.getElem_mem lt, pj⟩)
    have z := done s.heap (Heap.SameBut.refl a s.heap) (by unfold ins; rw [if_pos kin]; exact ⟨o, es, ep, t, at_, ex, dat, g, pm, nd, bnd, fit, ri, led⟩)
    rw [decide_eq_true kin] at z
    exact wpAny_pure (wpAny_pure z)
  | none =>
    dsimp only
    have out : ¬ k ∈ L := fun m => by
      obtain ⟨e, he, q⟩ := (rows_has (P := P) (w := w) g k).mp (pm.mem_iff.mpr m)
      have c := List.findIdx?_eq_none_iff.mp fi e he
      rw [q] at c
      cases c
    have way : ∀ (b : Bool) {u' : Shared} {Z' : Unit → Shared → Prop}, Z' () u' → wpAny (model P w) A (match b with | true => rule "set.scan.the-table-gave-way" | false => pure ()) Z' E u' :=
      fun b u' Z' q => by cases b <;> first | exact wpAny_pure q | exact wpAny_rule q
    have p1 := layNew_perm t es ((strKind P w).hash k) (.str k u)
    have p2 := layNew_fits t es ((strKind P w).hash k) (.str k u)
    have p3 := layNew_ris t es ((strKind P w).hash k) (.str k u) ri
    have p4 := layNew_led t es ((strKind P w).hash k) (.str k u)
    generalize layNew t es ((strKind P w).hash k) (.str k u) = Y at p1 p2 p3 p4 ⊢
    obtain ⟨fs, t1, dummy, gave⟩ := Y
    dsimp only at p1 p2 p3 p4 ⊢
    rw [Array.toList_push] at p1
    have eL : ins L k = L ++ [k] := if_neg out
    have pk : (fs.toList.map rowTx).Perm (L ++ [k]) := by
      have z := p1.map rowTx
      rw [List.map_append] at z
      exact z.trans (pm.append_right [k])
    have rows : ∀ e ∈ fs.toList, TxRow w e := fun e he => by
      rcases List.mem_append.mp (p1.mem_iff.mp he) with z | z
      · exact g e z
      · rw [List.mem_singleton.mp z]
        exact ⟨k, u, rfl, rfl⟩
    have nd1 : (L ++ [k]).Nodup := nd_snoc nd out
    have bnd1 : fs.size < scanBound := by
      have z := pk.length_eq
      rw [List.length_map, Array.length_toList, List.length_append, List.length_singleton] at z
      omega
    have led1 : w.params.followText "set-order" = true ∨ t1.led = true := led.imp id fun z => p4.trans z
    have fin : ∀ h', Heap.SameBut a s.heap h' → TxSet w h' a (L ++ [k]) → Z true { s with heap := h' } := fun h' sb r => by
      have z := done h' sb (eL ▸ r)
      rwa [decide_eq_false out] at z
    refine wpAny_bind (way _ ?_)
    split
    · refine wpAny_bind ?_
      rw [hashByValue_scannable 8 sc]
      refine wpAny_pure ?_
      refine tx_tail ?_ at_ ex dat rows pk nd1 bnd1 ?_ ?_ ?_ ?_
      · intro b u' Z' q
        cases b <;> first | exact wpAny_pure q | exact wpAny_rule q
      · first | (split <;> first | exact p2 | exact SetTable.fits_plain_off p2) | exact p2
      · first | (split <;> exact p3) | exact p3
      · first | (split <;> exact led1) | exact led1
      · intro h' sb r
        dsimp only
        exact wpAny_pure (fin h' sb r)
    · refine wpAny_bind (wpAny_pure ?_)
      simp only [↓reduceIte]
      refine tx_tail ?_ at_ ex dat rows pk nd1 bnd1 p2 p3 led1 ?_
      · intro b u' Z' q
        cases b <;> first | exact wpAny_pure q | exact wpAny_rule q
      · intro h' sb r
        dsimp only
        exact wpAny_pure (fin h' sb r)
/-- s.add(k), within -/
theorem tx_setAdd {k : Str} {u : Tok} {Z : Bool → Shared → Prop} (R : TxSet w s.heap a L) (room : L.length + 1 < scanBound)
    (done : ∀ h', Heap.SameBut a s.heap h' → TxSet w h' a (ins L k) → Z (!decide (k ∈ L)) { s with heap := h', toks := s.toks + 1 }) :
    wpAny (model P w) A (setAdd a (.str k u)) Z E s := by
  unfold setAdd
  refine wpAny_holding (wpAny_bind ((strKind P w).pyHash (row_is k u) ?_))
  exact tx_hashed (s := { s with toks := s.toks + 1 }) R room done
/-- found.add(k) -/
theorem tx_add {k : Str} {u : Tok} {Z : Value → Shared → Prop} (R : TxSet w s.heap a L) (room : L.length + 1 < scanBound)
    (done : ∀ h', Heap.SameBut a s.heap h' → TxSet w h' a (ins L k) → Z .none { s with heap := h', toks := s.toks + 1 }) :
    wpAny (model P w) A (call (.builtin "set.add") [.ref a, .str k u]) Z E s := by
  obtain ⟨S, so⟩ := R.of (P := P)
  refine wpAny_call_entry F.slot_set_add so.typeIs F.entry_set_add ?_ (F.args_set_add_2 _ _)
  unfold Builtin.«set.add» Builtin.Frozenset.oneOther
  simp only [List.isEmpty_nil, bind_assoc]
  unfold Builtin.Frozenset.addrOf
  refine wpAny_bind (wpAny_pure ?_)
  try dsimp only
  refine wpAny_bind (wpAny_pure ?_)
  try dsimp only
  refine wpAny_bind (tx_setAdd R room fun h' sb r => ?_)
  show wpAny _ _ (ret Value.none) _ _ _
  exact wpAny_pure ⟨_, rfl, done h' sb r⟩
theorem tx_fresh {h : Heap} (w : World) : TxSet w (h.push { cls := .type "set", dict := none, data := .set #[] 0 (.fresh 0 0 (!w.params.followText "set-order")) }) h.objs.size [] := by
  refine ⟨_, #[], 0, _, Heap.get?_push_size _ rfl, ⟨rfl, rfl, rfl⟩, rfl, (fun e he => by cases he), .refl _, .nil, by decide, rfl, .nil, ?_⟩
  show _ ∨ (!w.params.followText "set-order") = true
  cases w.params.followText "set-order"
  · exact .inr rfl
  · exact .inl rfl
end
/-- as a tracked thing -/
def TxSetO (w : World) (a : Addr) (L : List Str) : HO := .ext fun h => TxSet w h a L
theorem txo_new {w : World} {P : Program} {H : Hp} {h : Heap} {a : Addr} {L : List Str} (R : TxSet w h a L) : ObjOk P w H h a (TxSetO w a L) :=
  have ⟨o, _, _, _, at_, _⟩ := R
  ⟨R, ⟨o, at_⟩, fun _ _ p k => TxSet.keep p k⟩
theorem txo_get {X : Cx} {pins : List (Addr × Obj)} {σ : L2.St} {H : Hp} {s : Shared} {a : Addr} {L : List Str} (I : Inv X pins σ H s) (ha : H a = some (TxSetO X.w a L)) : TxSet X.w s.heap a L := (I.hok a _ ha).1
end K65

set_option maxHeartbeats 2000000
/-! K65Set2: the comprehension of a set of texts; its length; set(a tuple of texts); sorted. -/
namespace K65
open PySem PySem.Spec PyProof.Rows L2
section
variable {X : Cx}
theorem addTx_ok {pins : List (Addr × Obj)} {σ : L2.St} {H : Hp} {s : Shared} {E : Value → Shared → Prop} {D : Addr} {L : List Str} {k : Str} {u : Tok} {Q : Value → Shared → Prop} (I : Inv X pins σ H s) (at_ : H D = some (TxSetO X.w D L)) (room : L.length + 1 < scanBound)
    (h : ∀ s', Inv X pins σ (upd H D (TxSetO X.w D (ins L k))) s' → Q .none s') : wpAny (model X.prog X.w) X.A (call (.builtin "set.add") [.ref D, .str k u]) Q E s := by
  refine tx_add (txo_get I at_) room fun h' sb fresh => ?_
  have there : ∃ o, h'.get? D = some o := by
    have ⟨o, _, _, _, z, _⟩ := fresh
    exact ⟨o, z⟩
  exact h _ (I.write (e := D) (t' := s.toks + 1) (by rw [at_]; trivial) (.inl rfl) (fun b o nb e => (sb.2 b nb).trans e) there (txo_new fresh))
/-- {elt for target in iter if ..}, elt a text: D the new set -/
def tSx (w : World) (wi : TI) (g : TG) (tt : TT) (te : TE) (vs : List Nat) : TE := fun σ H Q => wi σ H fun J H1 => ∀ D, H1 D = none → ∃ W : Nat → Nat → Hp → Prop, (∃ m, W 0 m (upd H1 D (TxSetO w D []))) ∧ ∀ i m H, W i m H →
  (J.stop i H ∧ Q (.ref D) H) ∨ (J.go i H ∧ ∃ Nx : Hp → Prop, (∀ H', Nx H' → ∃ m', m' < m ∧ W (i + 1) m' H') ∧ ∀ x H', J.yld i H x H' → g x (wipe σ vs) H' fun σ2 H2 => wipe σ2 vs = wipe σ vs ∧ tt σ2 H2 fun b H3 =>
    if b = true then te σ2 H3 fun y H4 => ∃ (k : Str) (L : List Str), y = .str k ∧ H4 D = some (TxSetO w D L) ∧ L.length + 1 < scanBound ∧ Nx (upd H4 D (TxSetO w D (ins L k))) else Nx H3)
abbrev newS (w : World) : Obj := { cls := .type "set", dict := none, data := .set #[] 0 (.fresh 0 0 (!w.params.followText "set-order")) }
theorem sx_core {pins : List (Addr × Obj)} {s : Shared} {σ : L2.St} {H : Hp} {Q : VK} {elt tg iter : Expr} {ifs : List Expr} {sc : Scope} {own : List (PySem.Str × Nat)} {pos pos' : Pos} {wi : TI} {g : TG} {tt : TT} {te : TE} {use : Option (Value → Sem Unit)} {Qf : Value → Shared → Prop}
    (calm : X.calm = true) (nd : X.N.Nodup) (I : Inv X pins σ H s) (hi : PI X tg iter wi) (blk : BlkOk X.N X.env.scope sc own)
    (hg : ∀ (s : Shared) (H : Hp) (C : Addr) (cl : List (PySem.Str × Addr)) (fp : List Addr), PG (X.blk s H sc (compEnvC sc cl C X.env) fp) tg g) (ht : ∀ (s : Shared) (H : Hp) (C : Addr) (cl : List (PySem.Str × Addr)) (fp : List Addr), PTs (X.blk s H sc (compEnvC sc cl C X.env) fp) ifs tt)
    (he : ∀ (s : Shared) (H : Hp) (C : Addr) (cl : List (PySem.Str × Addr)) (fp : List Addr), PE (X.blk s H sc (compEnvC sc cl C X.env) fp) elt te) (fold : ∀ x, foldedSetIterable iter X.env x = pure x)
    (h : tSx X.w wi g tt te (own.map (·.2)) σ H Q)
    (last : ∀ D C s' m H', Inv X pins σ H' s' → Q (.ref D) H' → s'.heap.Ns C m → FpOk X pins H' C → compPost (model X.prog X.w) X.A X.xe use Qf (.ref D) C (.ok .next) s') :
    wpAny (model X.prog X.w) X.A (comprehension (.SetComp elt [⟨tg, iter, ifs, 0⟩] sc pos) sc X.env pos' (newSet (.type "set")) false (eval iter X.env) use) Qf X.xe s := by
  have frees : ∀ y ∈ sc.names, y.2 = .free → ∃ c, X.env.cells.lookup y.1 = some c := fun y m e => (blk.free y m e).elim (fun z => I.ok.has _ (.inl z)) fun z => I.ok.has _ (.inr z)
  refine wpAny_comprehension_free (use := use) rfl fold (closure_ok frees) blk.kind (fun y m e => by rw [blk.uniq y m, e])
    (thn (hi.run pins s σ H _ I h) fun xv s1 hx => thn hx fun itv s2 q2 => ?_)
  obtain ⟨it, fp, tn, J, H2, e, I2, T, w2, fk, q⟩ := q2
  subst e
  refine PpSet.newSet_ok (newEnv_comp ?_)
  generalize eD : s2.heap.objs.size = D
  have noD : H2 D = none := I2.hok.fresh (Nat.le_of_eq eD)
  obtain ⟨W, ⟨top, wTop⟩, turn⟩ := q D noD
  generalize es3 : ({ s2 with heap := s2.heap.push (newS X.w) } : Shared) = s3
  have I3 : Inv X pins σ (upd H2 D (TxSetO X.w D [])) s3 := by
    rw [← es3]
    refine I2.laid (t' := s2.toks) (fun b o k => Heap.get?_push_of_some _ k) (Nat.le_of_eq eD) ?_
    rw [← eD]
    exact txo_new (tx_fresh X.w)
  have hp3 : s3.heap = s2.heap.push (newS X.w) := by rw [← es3]
  have below : ∀ b ∈ fp, b < s2.heap.objs.size := fun b m => by
    obtain ⟨o, k, _⟩ := T.obj _ _ w2 b m
    exact Heap.lt_size k
  have fk3 : ∀ b ∈ fp, FpOk X pins (upd H2 D (TxSetO X.w D [])) b ∧ b < s3.heap.objs.size := fun b m => by
    have lt := below b m
    refine ⟨⟨?_, (fk b m).2⟩, ?_⟩
    · rw [upd_ne (by rw [← eD]; exact Nat.ne_of_lt lt)]
      exact (fk b m).1
    · rw [hp3, Heap.size_push]
      exact Nat.lt_succ_of_lt lt
  have w3 : tn 0 s3.heap := T.keep _ _ _ w2 fun b _ o k => by
    rw [hp3]
    exact Heap.get?_push_of_some _ k
  have I4 := block_start I3 blk nd fk3
  have rg := hg s3 (upd H2 D (TxSetO X.w D [])) s3.heap.objs.size (cellsFrom (s3.heap.objs.size + 1) sc.names (cloFrom X.env.cells sc.names [])) fp
  have rt := ht s3 (upd H2 D (TxSetO X.w D [])) s3.heap.objs.size (cellsFrom (s3.heap.objs.size + 1) sc.names (cloFrom X.env.cells sc.names [])) fp
  have re := he s3 (upd H2 D (TxSetO X.w D [])) s3.heap.objs.size (cellsFrom (s3.heap.objs.size + 1) sc.names (cloFrom X.env.cells sc.names [])) fp
  show codeAny _ _ (.compStart (.SetComp elt [⟨tg, iter, ifs, 0⟩] sc pos) 0 (.ref it) (.ref D) (compEnvC sc (cellsFrom (s3.heap.objs.size + 1) sc.names (cloFrom X.env.cells sc.names [])) s3.heap.objs.size X.env)) (compPost (model X.prog X.w) X.A X.xe use Qf (.ref D) s3.heap.objs.size) { s3 with heap := pushCells (s3.heap.push { cls := .type "dict", data := .dict #[] }) sc.names }
  have free3 : ∀ b ∈ fp, (upd H2 D (TxSetO X.w D [])) b = none := fun b m => (fk3 b m).1.1
  generalize eCe : compEnvC sc (cellsFrom (s3.heap.objs.size + 1) sc.names (cloFrom X.env.cells sc.names [])) s3.heap.objs.size X.env = ce at I4 rg rt re ⊢
  have loc : ce.locals = s3.heap.objs.size := by
    subst eCe
    rfl
  generalize eH3 : upd H2 D (TxSetO X.w D []) = H3 at I3 I4 rg rt re wTop free3 fk3
  generalize es4 : ({ s3 with heap := pushCells (s3.heap.push { cls := .type "dict", data := .dict #[] }) sc.names } : Shared) = s4 at I4 ⊢
  have w4 : tn 0 s4.heap := T.keep _ _ _ w3 fun b _ o k => by
    rw [← es4]
    exact pushCells_keeps _ _ _ _ (Heap.get?_push_of_some _ k)
  have still : ∀ {σ' : L2.St} {H' : Hp} {s' : Shared}, Inv (X.blk s3 H3 sc ce fp) [] σ' H' s' → (∀ b ∈ fp, H' b = none) → ∀ b ∈ fp, FpOk (X.blk s3 H3 sc ce fp) [] H' b := fun {σ' H' s'} J no b m =>
    ⟨no b m, (J.ok.exf b m).1, J.ok.exfs b m, .inl m, fun x c k => (J.ok.exf b m).2 x c k, fun p hp => absurd (show p ∈ ([] : List (Addr × Obj)) ++ [] from hp) (by simp)⟩
  have loop : codeAny (model X.prog X.w) X.A (.compLoop (.SetComp elt [⟨tg, iter, ifs, 0⟩] sc pos) 0 (.ref it) (.ref D) ce) (compPost (model X.prog X.w) X.A X.xe use Qf (.ref D) s3.heap.objs.size) s4 := by
    refine PpSet.compLoopS_any (fun n u => ∃ i H', Inv (X.blk s3 H3 sc ce fp) [] (wipe σ (own.map (·.2))) H' u ∧ tn i u.heap ∧ (∀ b ∈ fp, H' b = none) ∧ W i n H') ?_ top ⟨0, H3, I4, w4, free3, wTop⟩
    rintro n s5 ⟨i, H5, I5, w5, no5, W5⟩
    rcases turn i n H5 W5 with ⟨stop, fine⟩ | ⟨go, Nx, nxt, step⟩
    · refine thnF (T.done (X.blk s3 H3 sc ce fp) rfl rfl rfl calm i [] s5 _ H5 (fun _ _ => False) I5 (still I5 no5) w5 stop) fun r s6 ⟨er, I6⟩ => ?_
      subst er
      have I7 : Inv X pins σ H5 s6 := I3.call' (ch := fp) I6.os I6.base I6.hok I6.bare fun b m => ⟨(fk3 b m).1.2.2.2.1, (fk3 b m).1.2.1, (fk3 b m).1.2.2.2.2.1, (fk3 b m).1.2.2.2.2.2⟩
      have noC : H5 s3.heap.objs.size = none := loc ▸ (show H5 ce.locals = none from I6.free)
      obtain ⟨m, ns, _⟩ := I6.loc
      exact last D s3.heap.objs.size s6 m H5 I7 fine (loc ▸ (show s6.heap.Ns ce.locals m from ns)) (I3.fpOk (Nat.le_refl _) noC)
    · refine thnF (T.item (X.blk s3 H3 sc ce fp) rfl rfl rfl calm i [] s5 _ H5 (fun _ _ => False) I5 (still I5 no5) w5 go) fun r s6 ⟨u, er, q6⟩ => ?_
      subst er
      refine thnF q6 fun _ s7 ⟨x, H7, I7, rx, yx, w7, no7⟩ => ?_
      refine thnF (rg.run _ s7 _ H7 x u _ (I7.pinned (still I7 no7) (T.obj _ _ w7)) rx (step x H7 yx)) fun _ s8 ⟨σ8, H8, I8, sam, q8⟩ => ?_
      refine thnF (rt.run _ s8 σ8 H8 _ I8 q8) fun b s9 ⟨H9, I9, q9⟩ => ?_
      have over : ∀ {u' : Shared} {H' : Hp}, Inv (X.blk s3 H3 sc ce fp) ([] ++ pinsAt fp s7.heap) σ8 H' u' → Nx H' → ∃ m, m < n ∧ ∃ i H', Inv (X.blk s3 H3 sc ce fp) [] (wipe σ (own.map (·.2))) H' u' ∧ tn i u'.heap ∧ (∀ b ∈ fp, H' b = none) ∧ W i m H' := fun {u' H'} J nx => by
        obtain ⟨m', lt, W'⟩ := nxt H' nx
        have pinned : ∀ b ∈ fp, ∀ o, s7.heap.get? b = some o → u'.heap.get? b = some o ∧ H' b = none := fun b m o k =>
          have z := J.pin (b, o) (List.mem_append_right _ (List.mem_append_right _ (mem_pinsAt m k)))
          ⟨z.1, z.2.1⟩
        refine ⟨m', lt, i + 1, H', (J.unpinned (pins := [])).weak (by rw [← sam, wipe_length]) (fun j v k => ?_), T.keep _ _ _ w7 fun b m o k => (pinned b m o k).1, fun b m => ?_, W'⟩
        · rw [← sam] at k
          exact (wipe_some k).1
        · obtain ⟨o, k, _⟩ := T.obj _ _ w7 b m
          exact (pinned b m o k).2
      cases b with
      | false =>
        simp only [Bool.false_eq_true, if_false] at q9 ⊢
        exact over I9 q9
      | true =>
        simp only [if_true] at q9 ⊢
        refine thnF (re.run _ s9 σ8 H9 _ I9 q9) fun z s10 ⟨yv, H10, I10, ry, k, L, ey, atD, room, nx⟩ => ?_
        subst ey
        obtain ⟨tk, ez⟩ := (show ∃ t, z = Value.str k t from ry)
        subst ez
        exact addTx_ok (X := X.blk s3 H3 sc ce fp) I10 atD room fun s11 I11 => over I11 nx
  exact PpSet.codeAny_compStart_set loop (T.self X.A 0 _ _ _ w4 loop)
/-- the set as a value -/
theorem pe_sx {elt tg iter : Expr} {ifs : List Expr} {sc : Scope} {own : List (PySem.Str × Nat)} {pos : Pos} {wi : TI} {g : TG} {tt : TT} {te : TE} (calm : X.calm = true) (nd : X.N.Nodup) (hi : PI X tg iter wi) (blk : BlkOk X.N X.env.scope sc own)
    (hg : ∀ (s : Shared) (H : Hp) (C : Addr) (cl : List (PySem.Str × Addr)) (fp : List Addr), PG (X.blk s H sc (compEnvC sc cl C X.env) fp) tg g) (ht : ∀ (s : Shared) (H : Hp) (C : Addr) (cl : List (PySem.Str × Addr)) (fp : List Addr), PTs (X.blk s H sc (compEnvC sc cl C X.env) fp) ifs tt)
    (he : ∀ (s : Shared) (H : Hp) (C : Addr) (cl : List (PySem.Str × Addr)) (fp : List Addr), PE (X.blk s H sc (compEnvC sc cl C X.env) fp) elt te) (fold : ∀ x, foldedSetIterable iter X.env x = pure x := by intro _; rfl) :
    PE X (.SetComp elt [⟨tg, iter, ifs, 0⟩] sc pos) (tSx X.w wi g tt te (own.map (·.2))) := by
  refine ⟨fun pins s σ H Q I h => ?_⟩
  rw [PpSet.eval_SetComp]
  refine sx_core calm nd I hi blk hg ht he fold h fun D C s' m H' J q ns f => ⟨m, ns, fun h'' sb => ?_⟩
  obtain ⟨k0, k1, k2, k3, k4, k5⟩ := f
  exact ⟨.ref D, H', J.turned (t' := s'.toks) (fun b o nb k => (sb.2 b nb).trans k) k0 k1 k3 k4 k5, rfl, q⟩
theorem ins_nd {L : List Str} {k : Str} (h : L.Nodup) : (ins L k).Nodup := by
  unfold ins
  split
  · exact h
  · next n => exact nd_snoc h n
/-- all kept, of a tuple of texts that differ: they themselves -/
theorem sx_tup {w : World} {K : PySem.W.Frag} {a : Addr} {xs : List Str} {g : TG} {te : TE} {vs : List Nat} {σ : L2.St} {H1 : Hp} {D : Addr} {Qd : Hp → Prop} (nd : xs.Nodup) (hz : xs.length < 1000) (hD : H1 D = none) (ht : SqT K H1 a (xs.map V.str))
    (hs : ∀ x ∈ xs, ∀ (H' : Hp) (B : V → Hp → Prop) (C : Hp → Prop), Same H1 H' → (∀ H4, Same H' H4 → B (.str x) H4) → g (.str x) (wipe σ vs) H' fun σ2 H2 => wipe σ2 vs = wipe σ vs ∧ tYes σ2 H2 fun b H3 => if b = true then te σ2 H3 B else C H3)
    (hd : ∀ H', Same H1 H' → H' D = some (TxSetO w D xs) → Qd H') :
    ∃ W : Nat → Nat → Hp → Prop, (∃ m, W 0 m (upd H1 D (TxSetO w D []))) ∧ ∀ i m H, W i m H →
      ((Itt K a).stop i H ∧ Qd H) ∨ ((Itt K a).go i H ∧ ∃ Nx : Hp → Prop, (∀ H', Nx H' → ∃ m', m' < m ∧ W (i + 1) m' H') ∧ ∀ x H', (Itt K a).yld i H x H' → g x (wipe σ vs) H' fun σ2 H2 => wipe σ2 vs = wipe σ vs ∧ tYes σ2 H2 fun b H3 =>
        if b = true then te σ2 H3 fun y H4 => ∃ (k : Str) (L : List Str), y = .str k ∧ H4 D = some (TxSetO w D L) ∧ L.length + 1 < scanBound ∧ Nx (upd H4 D (TxSetO w D (ins L k))) else Nx H3) := by
  refine ⟨fun i m H => m = xs.length - i ∧ i ≤ xs.length ∧ (∀ b o, H1 b = some o → H b = some o) ∧ H D = some (TxSetO w D (xs.take i)), ⟨xs.length, by simp, Nat.zero_le _, fun b o e => ?_, upd_same⟩, ?_⟩
  · rw [upd_ne (ne_of_none e hD)]
    exact e
  rintro i m H ⟨rfl, hi, sm, hd'⟩
  have ht' : SqT K H a (xs.map V.str) := by
    rcases ht with (h | ⟨o, h⟩) | h
    · exact .inl (.inl (sm _ _ h))
    · exact .inl (.inr ⟨o, sm _ _ h⟩)
    · exact .inr h
  by_cases lt : i < xs.length
  · refine .inr ⟨⟨xs.map V.str, V.str xs[i], ht', by simp [lt]⟩, fun H' => (∀ b o, H1 b = some o → H' b = some o) ∧ H' D = some (TxSetO w D (xs.take (i + 1))), fun H' p' => ⟨xs.length - (i + 1), by omega, rfl, lt, p'.1, p'.2⟩, fun x H' y => ?_⟩
    obtain ⟨rfl, y⟩ := y
    have ex : x = V.str xs[i] := by
      have z := y _ ht'
      rw [List.getElem?_map, List.getElem?_eq_getElem lt] at z
      exact (Option.some.inj z).symm
    subst ex
    refine hs xs[i] (List.getElem_mem lt) _ _ _ sm fun H4 s4 => ⟨xs[i], xs.take i, rfl, s4 _ _ hd', ?_, fun b o e => ?_, ?_⟩
    · rw [List.length_take]
      exact Nat.lt_of_lt_of_le (by omega : _ < 1001) (by decide)
    · rw [upd_ne (ne_of_none e hD)]
      exact s4 _ _ (sm _ _ e)
    · have e1 : xs.take (i + 1) = xs.take i ++ [xs[i]] := by rw [List.take_add_one, List.getElem?_eq_getElem lt] <;> rfl
      have n1 : ¬ xs[i] ∈ xs.take i := fun m => by
        have z := nd.sublist (List.take_sublist (i + 1) xs)
        rw [e1, List.nodup_append] at z
        exact z.2.2 _ m _ (by simp) rfl
      rw [upd_same, e1]
      unfold ins
      rw [if_neg n1]
  · have e : i = xs.length := by omega
    subst e
    rw [List.take_length] at hd'
    exact .inl ⟨⟨_, ht', by rw [List.length_map]; exact Nat.le_refl _⟩, hd H sm hd'⟩
/-- len(s) -/
theorem call_lenTx : CallR X (.builtin "len") (fun xs H Q => ∃ a L, xs = [V.ref a] ∧ H a = some (TxSetO X.w a L) ∧ Q (.int L.length) H) := by
  intro pins s σ H xs us Q I r h
  obtain ⟨a, L, rfl, ha, q⟩ := h
  obtain ⟨u, rfl, ru⟩ := vals1 r
  cases ru
  obtain ⟨o, es, ep, t, at_, ex, dat, g, pm, nd, bnd, fit, _⟩ := txo_get I ha
  have sz : es.size = L.length := by
    have z := pm.length_eq
    rwa [List.length_map, Array.length_toList] at z
  refine call_len_set at_ ex dat fit (Int.lt_trans (Int.ofNat_lt.mpr bnd) (by decide)) ⟨.int L.length, H, (I.tok _), ⟨_, by rw [sz]⟩, q⟩
end
end K65

set_option maxHeartbeats 3200000
/-! K65Set3: set(a tuple of texts), sorted(it). -/
namespace K65
open PySem PySem.Spec PyProof.Rows L2
theorem sub_tuple_set : isSubtype (.type "tuple") (.type "set") = pure false := by rw [isSubtype_type]; kernel_rfl
theorem sub_tuple_frozenset : isSubtype (.type "tuple") (.type "frozenset") = pure false := by rw [isSubtype_type]; kernel_rfl
section
variable {P : Program} {w : World} {A : Around} {E : Value → Shared → Prop} {s : Shared}
theorem take_in {xs : List Str} {i : Nat} {x : Str} (nd : xs.Nodup) (h : xs[i]? = some x) : ins (xs.take i) x = xs.take (i + 1) := by
  have e1 : xs.take (i + 1) = xs.take i ++ [x] := by rw [List.take_add_one, h] <;> rfl
  have n1 : ¬ x ∈ xs.take i := fun m => by
    have z := nd.sublist (List.take_sublist (i + 1) xs)
    rw [e1, List.nodup_append] at z
    exact z.2.2 _ m _ (by simp) rfl
  rw [e1]
  unfold ins
  rw [if_neg n1]
/-- the update's own turns -/
theorem tx_update {I : Addr} {fp wr : List Addr} {G : Array GenState → Array GenState → Prop} {n : Nat} {Pv : Nat → Value → Prop} {St : Nat → Shared → Prop} {R : Result → Shared → Prop} (W : WalksS P w A.in1 I fp wr G n Pv St) (S : Addr) (apart : S ∉ fp)
    (xs : List Str) (nd : xs.Nodup) (len : n = xs.length) (few : xs.length < 1000) (val : ∀ i v, Pv i v → ∃ x t, xs[i]? = some x ∧ v = .str x t) :
    ∀ (k i : Nat) (s : Shared), n - i = k → i ≤ n → St i s → TxSet w s.heap S (xs.take i) → (∀ s', Moved (S :: wr) G s s' → TxSet w s'.heap S xs → R (.ok (.ret .none)) s') →
      codeAny (model P w) A (.builtin "set.update.loop" ⟨[.ref S, .ref I], []⟩) R s := by
  have apart' : S ∉ wr := fun z => apart (W.sub _ z)
  have wider : ∀ b ∈ wr, b ∈ S :: wr := fun b m => List.mem_cons_of_mem _ m
  intro k
  induction k with
  | zero =>
    intro i s ek le st at_ hR
    obtain rfl : i = n := by omega
    refine codeAny_builtin F.entry_set_update_loop ?_
    rw [Around.under_plainId F.plain_set_update_loop _]
    show wpAny _ A.in1 (pyNext (.ref I) >>= _) _ _ s
    refine wpAny_bind (W.done s _ _ st fun u mv => ?_)
    show wpAny _ A.in1 (ret Value.none) _ _ u
    rw [len, List.take_length] at at_
    exact wpAny_pure (hR u (mv.mono wider) (at_.keep fun o e => mv.heap S o apart' e))
  | succ k ih =>
    intro i s ek le st at_ hR
    have lt : i < n := by omega
    refine codeAny_builtin F.entry_set_update_loop ?_
    rw [Around.under_plainId F.plain_set_update_loop _]
    show wpAny _ A.in1 (pyNext (.ref I) >>= _) _ _ s
    refine wpAny_bind (W.item i s _ _ lt st fun v u pv st' mv => ?_)
    obtain ⟨x, t, hx, rfl⟩ := val i v pv
    have at1 : TxSet w u.heap S (xs.take i) := at_.keep fun o e => mv.heap S o apart' e
    show wpAny _ A.in1 (holding [Value.str x t] (setAdd S (.str x t)) >>= _) _ _ u
    refine wpAny_bind (wpAny_holding (tx_setAdd at1 ?_ fun h' sb new => ?_))
    · rw [List.length_take]
      exact Nat.lt_of_lt_of_le (by omega : _ < 1001) (by decide)
    rw [take_in nd hx] at new
    refine wpAny_pure ⟨plainId_quiet F.plain_set_update_loop _, ih (i + 1) _ (by omega) lt (W.frame _ u _ _ st' (Nat.le_succ _) fun b m o e => ?_) new fun z mz at2 => ?_⟩
    · rw [sb.2 b fun q => apart (q ▸ m)]
      exact e
    · refine hR z (Moved.trans W.gtrans ((mv.mono wider).then_heap (Nat.le_succ _) fun b o m e => ?_) mz) at2
      rw [sb.2 b fun q => m (q ▸ List.mem_cons_self)]
      exact e
/-- set(t) -/
theorem call_set_txt {l : Addr} {items : Array Value} {xs : List Str} {Q : Value → Shared → Prop} (hh : A.handled = none) (hl : s.heap.IsTuple l items) (hi : StrsAre items.toList xs) (nd : xs.Nodup) (few : xs.length < 1000)
    (h : ∀ (h' : Heap) (tk : Nat), TxSet w h' s.heap.objs.size xs → (∀ b o, s.heap.get? b = some o → h'.get? b = some o) → Q (.ref s.heap.objs.size) { s with heap := h', toks := tk }) :
    wpAny (model P w) A (call (.type "set") [.ref l]) Q E s := by
  have isz : items.size = xs.length := by
    have z := hi.length
    rwa [Array.length_toList] at z
  obtain ⟨c, tl, hmro⟩ := F.called_set.mro
  have made := F.called_set.made
  have sub := F.called_set.sub
  refine wpAny_call (codeAny_of_tree ?_)
  show wpAny _ _ (callAny (.type "set") _) _ _ _
  refine wpAny_pure ⟨Code.quiet_builtin _ (by decide +kernel), codeAny_builtin F.entry_type_call ?_⟩
  rw [Around.under_plain (weight_type_call_type "set" [.ref l] []) rfl]
  have k1 := F.called_set.notType
  have k2 := F.called_set.canCreate
  have k3 := F.typeCall_set_1 (.ref l)
  repeat (any_goals (first | assumption | wp_step))
  refine codeAny_mono (code_set_led1 (.ref l) (E := E) (Q₁ := fun obj z => obj = .ref s.heap.objs.size ∧ z = { s with heap := s.heap.push (newS w) }) ⟨rfl, rfl⟩) fun r z hr => ?_
  cases r with
  | error e => exact hr
  | ok fl =>
    cases fl with
    | ret obj =>
      obtain ⟨rfl, rfl⟩ := hr
      have hS : (s.heap.push (newS w)).get? s.heap.objs.size = some (newS w) := Heap.get?_push_size _ rfl
      have hT : Shared.TypeIs { s with heap := s.heap.push (newS w) } (.ref s.heap.objs.size) "set" := ⟨_, hS, rfl⟩
      have k4 := F.called_set.init.lookup
      have k5 := F.called_set.init.bind (.ref s.heap.objs.size)
      repeat (any_goals (first | assumption | wp_step))
      refine codeAny_mono (codeAny_call_builtin (R := wants (fun r z => r = .none ∧ ∃ h' tk, z = { s with heap := h', toks := tk } ∧ TxSet w h' s.heap.objs.size xs ∧ (∀ b o, s.heap.get? b = some o → h'.get? b = some o)) E) F.called_set.init.plain F.entry_set_init (check_set_init_1 hT ?_)) fun r₂ z₂ hr₂ => ?_
      · obtain ⟨⟨ocls, odict, odata, oslots⟩, hol, hcl, nl, hdl⟩ := id hl
        simp only at hcl hdl
        subst hcl hdl
        have hol' : (s.heap.push (newS w)).get? l = some { cls := .type "tuple", dict := odict, data := .seq items nl, slots := oslots } := Heap.get?_push_of_some _ hol
        have k6 := sub_tuple_set
        have k7 := sub_tuple_frozenset
        have k8 : (Value.type "tuple" == Value.type "dict") = false := by decide
        have hl1 : (s.heap.push (newS w)).IsTuple l items := ⟨_, hol', rfl, nl, rfl⟩
        unfold Builtin.«set.__init__» noKeywords Builtin.Frozenset.updateFrom
        generalize hPI : pyIter = PI
        wp_walk
        subst hPI
        refine wpAny_pyIter_tuple hl1 ?_
        refine wpAny_bind (wpAny_runValue ?_)
        have lS : l < s.heap.objs.size := Heap.lt_size hol
        have h3 : A.in1.in1.in1.handled = none := by simp [hh]
        have neI : l ≠ (s.heap.push (newS w)).objs.size := by
          rw [Heap.size_push]
          exact Nat.ne_of_lt (Nat.lt_succ_of_lt lS)
        have apart : s.heap.objs.size ∉ [(s.heap.push (newS w)).objs.size, l] := by
          rw [Heap.size_push]
          simp only [List.mem_cons, List.not_mem_nil, or_false, not_or]
          exact ⟨Nat.ne_of_lt (Nat.lt_succ_self _), Nat.ne_of_gt lS⟩
        have val : ∀ (i : Nat) (v : Value), items[i]? = some v → ∃ x t, xs[i]? = some x ∧ v = .str x t := fun i v hv => by
          have lt : i < xs.length := isz ▸ (Array.getElem?_eq_some_iff.mp hv).1
          obtain ⟨t, e⟩ := hi.get i xs[i] (List.getElem?_eq_getElem lt)
          rw [Array.getElem?_toList, hv] at e
          exact ⟨xs[i], t, List.getElem?_eq_getElem lt, Option.some.inj e⟩
        have none_of : ∀ b, s.heap.objs.size ≤ b → s.heap.get? b = none := fun b hb => by
          cases q : s.heap.get? b with
          | none => rfl
          | some o => exact absurd (Nat.lt_of_lt_of_le (Heap.lt_size q) hb) (Nat.lt_irrefl _)
        refine tx_update ((Walks.tuple h3 _ l neI items).toS) s.heap.objs.size apart xs nd isz few val (items.size - 0) 0 _ (by omega) (Nat.zero_le _) ⟨⟨_, Heap.get?_push_size _ rfl, rfl, rfl⟩, (hl1.push _)⟩ ?hS0 ?hR
        case hS0 => exact (tx_fresh w).keep fun o e => Heap.get?_push_of_some _ e
        case hR =>
          intro z mv at_
          obtain ⟨h', g2, d', tk', os'⟩ := z
          have eg : g2 = s.gens := mv.gens
          have ed : d' = s.drawn := mv.drawn
          have eo : os' = s.os := mv.os
          subst eg ed eo
          show wpAny _ _ _ _ _ _
          refine wpAny_pure ?_
          show wpAny _ _ (ret Value.none) _ _ _
          refine wpAny_pure ⟨rfl, h', tk', rfl, at_, fun b o e => ?_⟩
          have lt := Heap.lt_size e
          refine mv.heap b o ?_ (Heap.get?_push_of_some _ (Heap.get?_push_of_some _ e))
          rw [Heap.size_push]
          simp only [List.mem_cons, List.not_mem_nil, or_false, not_or]
          exact ⟨Nat.ne_of_lt lt, Nat.ne_of_lt (Nat.lt_succ_of_lt lt)⟩
      · cases r₂ with
        | error e => exact hr₂
        | ok fl₂ =>
          cases fl₂ with
          | ret r =>
            obtain ⟨rfl, h', tk, rfl, at_, kp⟩ := hr₂
            repeat (any_goals (first | assumption | wp_step))
            exact h _ _ at_ kp
          | _ => exact hr₂.elim
    | _ => exact hr.elim
end
end K65

set_option maxHeartbeats 3200000
/-! K65Set4: set(a tuple of texts) and sorted(it), as rules. -/
namespace K65
open PySem PySem.Spec PyProof.Rows L2
section
variable {X : Cx}
/-- set(t), t a tuple of texts that differ -/
theorem cr_setTx (calm : X.calm = true) : CallR X (.type "set") (fun xs H Q => ∃ (a : Addr) (ks : List Str), xs = [V.ref a] ∧ SqT X.K H a (ks.map V.str) ∧ ks.Nodup ∧ ks.length < 1000 ∧ ∀ p, H p = none → Q (.ref p) (upd H p (TxSetO X.w p ks))) := by
  intro pins s σ H xs us Q I r h
  obtain ⟨a, ks, rfl, ha, nd, few, q⟩ := h
  obtain ⟨u, rfl, ru⟩ := vals1 r
  cases ru
  obtain ⟨its, rv, ht, _⟩ := I.tuple ha
  refine call_set_txt (items := its.toArray) (I.ok.hd calm) ht (by rw [List.toList_toArray]; exact strs_of_vals rv) nd few fun h' tk at_ kp => ?_
  exact ⟨.ref _, upd H s.heap.objs.size (TxSetO X.w s.heap.objs.size ks), I.laid (t' := tk) kp (Nat.le_refl _) (txo_new at_), rfl, q _ (I.hok.fresh (Nat.le_refl _))⟩
/-- sorted(s) -/
theorem cr_sortedTx (calm : X.calm = true) : CallR X (.builtin "sorted") (fun xs H Q => ∃ (a : Addr) (ks : List Str), xs = [V.ref a] ∧ H a = some (TxSetO X.w a ks) ∧ ks.length < 64 ∧
    ∀ ys p, ys.Perm ks → sortedS ys = true → H p = none → Q (.ref p) (upd H p (.lst (ys.map V.str)))) := by
  intro pins s σ H xs us Q I r h
  obtain ⟨a, ks, rfl, ha, few, q⟩ := h
  obtain ⟨u, rfl, ru⟩ := vals1 r
  cases ru
  obtain ⟨o, es, ep, t, at_, ex, dat, g, pm, nd, bnd, fit, ri, led⟩ := txo_get I ha
  refine Calls.call_function_entry PyProof.Rows.kind_sorted PyProof.Rows.plain_sorted PyProof.Rows.entry_sorted (PyProof.Rows.args_sorted1 _) ?_
  unfold Builtin.«sorted»
  refine wpAny_bind (m := checkCount "sorted" 1 1 _) (wpAny_pure ?_)
  refine wpAny_bind (collect_set (A := X.A.in1) (I.ok.hd calm) ⟨o, at_, ex.1, dat⟩ fit bnd ri led fun s1 vs kp sz g1 o1 pv => ?_)
  have pk : (vs.map strOf).Perm ks := by
    have z := pv.map strOf
    rw [List.map_map] at z
    refine z.trans (List.Perm.trans (List.Perm.of_eq (List.map_congr_left fun e he => ?_)) pm)
    obtain ⟨x, u, e1, _⟩ := g e he
    show strOf e.2 = rowTx e
    unfold rowTx
    rw [e1]
    rfl
  have len : vs.length = ks.length := by
    have z := pk.length_eq
    rwa [List.length_map] at z
  have are : StrsAre vs (vs.map strOf) := by
    have key : ∀ l : List Value, (∀ v ∈ l, ∃ x u, v = Value.str x u) → StrsAre l (l.map strOf) := by
      intro l
      induction l with
      | nil => intro _; exact .nil
      | cons v l ih =>
        intro hl
        obtain ⟨x, u, rfl⟩ := hl v List.mem_cons_self
        exact .cons x u (ih fun y hy => hl y (List.mem_cons_of_mem _ hy))
    refine key vs fun v hv => ?_
    obtain ⟨e, he, eq⟩ := List.mem_map.mp (pv.mem_iff.mp hv)
    obtain ⟨x, u, e1, _⟩ := g e he
    exact ⟨x, u, eq ▸ e1⟩
  refine wpAny_bind (wpAny_newList ?_ (by rw [len, sizeLine_eq]; omega))
  have hoL : (s1.heap.push (seqObj "list" vs.toArray 0)).get? s1.heap.objs.size = some (seqObj "list" vs.toArray 0) := Heap.get?_push_size _ rfl
  refine wpAny_bind (wpAny_holding (wpAny_call_entry PyProof.Rows.slot_list_sort ⟨_, hoL, rfl⟩ PyProof.Rows.entry_list_sort
    (list_sort_treeK strKind_oneLt (s := { s1 with heap := s1.heap.push (seqObj "list" vs.toArray 0) }) hoL are.keysOf (fun v₁ v₂ rest e => keyKind_strs (by rw [← e]; exact are)) (by rw [len]; exact few) fun st' hp hs => ⟨_, rfl, ?_⟩)
    (PyProof.Rows.args_list_sort _)))
  obtain ⟨ys, b1, b2, b3⟩ := sorted_out_str are hp hs
  obtain ⟨e', he'⟩ := PyProof.Rows.sortedHeap_at (vs := vs) (out := (arrOf st').map (·.2)) hoL
  have I1 : Inv X pins σ H s1 := I.call' (ch := []) o1 (Un.kept kp) (I.hok.kept kp) (by rw [g1]; exact I.bare) (fun _ z => nomatch z)
  have short : (ys.map V.str).length ≤ sizeLine := by
    rw [List.length_map, (b2.trans pk).length_eq]
    exact Nat.le_trans (Nat.le_of_lt few) (by decide)
  refine wpAny_pure ⟨_, rfl, .ref s1.heap.objs.size, upd H s1.heap.objs.size (.lst (ys.map V.str)), I1.laid (t' := s1.toks) (fun b u e => ?_) (Nat.le_refl _)
    (show ObjOk X.prog X.w _ _ _ (.lst (ys.map V.str)) from ⟨short, ((arrOf st').map (·.2)).toList, e', vals_of_strs b1, by rw [Array.toArray_toList]; exact he'⟩), rfl, q ys _ (b2.trans pk) b3 (I1.hok.fresh (Nat.le_refl _))⟩
  have lt : b < s1.heap.objs.size := Heap.lt_size e
  rw [PyProof.Rows.sortedHeap_old (Nat.ne_of_lt lt) (by rw [size_push']; exact Nat.lt_succ_of_lt lt)]
  exact Heap.get?_push_of_some _ e
end
end K65

set_option maxHeartbeats 200000
/-! K65Commit: are_parents, Commit(..). -/
namespace K65
open PySem L2
section
variable {P : Program} {w : World} {K : PySem.W.Frag} {mg : Str → Option Value} {base : Heap}
def spParents (K : PySem.W.Frag) : Sp := fun vs H Q _ => ∃ (a : Addr) (xs : List Str), vs = [.ref a] ∧ TyX K H (.ref a) (.type "tuple") ∧ SqT K H a (xs.map V.str) ∧ xs.length ≤ 6 ∧ xs.Nodup ∧ (∀ x ∈ xs, IsId x) ∧ ∀ H', Same H H' → Q (.bl true) H'
theorem sc_are_parents : FnScope ["thing", "one"] ["thing"] (defScope s_are_parents) := ⟨rfl, rfl, rfl, by decide +kernel, rfl, by decide +kernel, by decide +kernel⟩
theorem ok_are_parents (T : W K mg) : FnOk P w K mg base CX0 4 T.a_are_parents T.d_are_parents ["thing"] (spParents K) := by
  have b := T.F_are_ids.binds (ps := ["thing"]) fun _ _ _ _ _ _ us hl => match us, hl with | [_], _ => rfl
  obtain ⟨t, v⟩ := T.v_MOST_PARENTS
  refine T.F_are_parents.ok sc_are_parents (fun vs H Q E h => ?_) (fun cdv A outer s H vs Q E hr h => ?_)
  · obtain ⟨a, xs, rfl, _⟩ := h
    rfl
  · obtain ⟨a, xs, rfl, ty, ht, hz, nd, hi, k⟩ := h
    refine ⟨_, pss_cons (ps_if (PW.pt (pw_or (pt_not (pt_val (pe_call (ok_are_ids T) hr rfl T.g_are_ids T.F_are_ids.kp b .nil pass0 (pa_cons (pv 0) pa_nil))))
        (pw_or1 (pt_cmpR op_gt (pe_callB call_len_seq (by rfl) T.z_len PySem.boot_len (pa_cons (pv 0) pa_nil)) (pe_glob (v := .int 6) rfl v ⟨_, rfl⟩) (nomark _))))) (pss_one (ps_ret pe_bl)) pss_nil)
      (pss_one (ps_ret (pe_cmpR op_eq (pe_callB call_lenTx (by rfl) T.z_len PySem.boot_len (pa_cons
        (pe_sx (own := [("one", 1)]) (g := gName 1) (tt := tYes) rfl sc_are_parents.nd (pi_tup (pv 0)) (blkOk_by (N := ["thing", "one"]) (sc := defScope s_are_parents) (by decide +kernel))
          (fun _ _ _ _ _ => pg_name (i := 1) sc_are_parents.nd rfl (Or.inl rfl)) (fun _ _ _ _ _ => pts_nil) (fun _ _ _ _ _ => pv 1)) pa_nil))
        (pe_callB call_len_seq (by rfl) T.z_len PySem.boot_len (pa_cons (pv 0) pa_nil)) (nomark _)))), ?_⟩
    refine ⟨_, rfl, a, xs, rfl, ty, ht, Nat.le_trans hz (by decide), hi, fun H1 s1 => ⟨true, rfl, iteF ?_⟩⟩
    have ht1 := sqt_same s1 ht
    refine ⟨_, rfl, a, _, rfl, .inr ht1, _, _, rfl, rfl, false, bF (by rw [List.length_map]; omega), iteF ?_⟩
    refine ⟨_, rfl, a, rfl, ⟨_, ht1⟩, fun D hD => sx_tup nd (by omega) hD ht1 (fun x hx H' B C s2 hA => ⟨rfl, lcY ⟨_, rfl, hA _ (Same.refl _)⟩⟩) fun H2 s2 hd => ?_⟩
    refine ⟨D, xs, rfl, hd, _, rfl, a, _, rfl, .inr (sqt_same s2 ht1), rfl, ?_⟩
    rw [List.length_map]
    exact qT (Q := Q) rfl (k _ (s1.trans s2))
/-! ### Commit(..) -/
def spCommitInit (T : W K mg) : Sp := fun vs H Q _ => ∃ p dx a c, vs = [.ref p, .str c.tree, .ref a, .str c.au, .int c.tm, .str c.ms] ∧ H p = some (.ins T.CCommit dx []) ∧ SqT K H a (c.ps.map V.str) ∧ OkC c ∧
  ∀ H', CommitAt T H' p c → (∀ b o, H b = some o → b ≠ p → H' b = some o) → Q .non H'
theorem sc_cinit : FnScope ["self", "tree", "parents", "author", "time", "message"] ["self", "tree", "parents", "author", "time", "message"] (defScope s_Commit_DinitD) := ⟨rfl, rfl, rfl, by decide +kernel, rfl, by decide +kernel, by decide +kernel⟩
theorem ty_sqt {H : Hp} {a : Addr} {xs : List V} (h : SqT K H a xs) : TyX K H (.ref a) (.type "tuple") := by
  rcases h with (h | ⟨o, h⟩) | ⟨o, its, n, e, c, _⟩
  · exact .base (.tup h)
  · exact .fTuple h
  · exact .kTuple e c
theorem ok_cinit (T : W K mg) : FnOk P w K mg base CX0 5 T.a_Commit_DinitD T.d_Commit_DinitD ["self", "tree", "parents", "author", "time", "message"] (spCommitInit T) := by
  have b0 := T.F_is_id.binds (ps := ["thing"]) fun _ _ _ _ _ _ us hl => match us, hl with | [_], _ => rfl
  have b1 := T.F_are_parents.binds (ps := ["thing"]) fun _ _ _ _ _ _ us hl => match us, hl with | [_], _ => rfl
  have b2 := T.F_is_author.binds (ps := ["thing"]) fun _ _ _ _ _ _ us hl => match us, hl with | [_], _ => rfl
  have b3 := T.F_is_time.binds (ps := ["thing"]) fun _ _ _ _ _ _ us hl => match us, hl with | [_], _ => rfl
  obtain ⟨ds, hd, b4⟩ := T.F_is_text.binds1 (ps := ["thing", "most"]) 2 1 (by simp) rfl fun _ _ _ _ _ _ _ us its h1 h2 => match us, its, h1, h2 with | [_, _], [_], _, _ => ⟨_, rfl, rfl⟩
  obtain ⟨t, v⟩ := T.v_MOST_MESSAGE
  refine T.F_Commit_DinitD.okN sc_cinit (fun vs H Q E h => ?_) (fun cdv A outer s H vs Q E hr h => ?_)
  · obtain ⟨p, dx, a, c, rfl, _⟩ := h
    rfl
  · obtain ⟨p, dx, a, c, rfl, hp, ht, oc, k⟩ := h
    refine ⟨_, pss_cons (ps_if (PW.pt (pw_or (pt_not (pt_val (pe_call (ok_is_id T) (hr.mono (by decide)) rfl T.g_is_id T.F_is_id.kp b0 .nil pass0 (pa_cons (pv 1) pa_nil))))
        (pw_or1 (pt_not (pt_val (pe_call (ok_are_parents T) hr rfl T.g_are_parents T.F_are_parents.kp b1 .nil pass0 (pa_cons (pv 2) pa_nil))))))) (pss_one ps_never) pss_nil)
      (pss_cons (ps_if (PW.pt (pw_or (pt_not (pt_val (pe_call (ok_is_author T) (hr.mono (by decide)) rfl T.g_is_author T.F_is_author.kp b2 .nil pass0 (pa_cons (pv 3) pa_nil))))
        (pw_or (pt_not (pt_val (pe_call (ok_is_time T) (hr.mono (by decide)) rfl T.g_is_time T.F_is_time.kp b3 .nil pass0 (pa_cons (pv 4) pa_nil))))
        (pw_or1 (pt_not (pt_val (pe_call (ok_is_text T) (hr.mono (by decide)) rfl T.g_is_text T.F_is_text.kp b4 hd pass0 (pa_cons (pv 5) (pa_cons (pe_glob (v := .int 200) rfl v ⟨_, rfl⟩) pa_nil))))))))) (pss_one ps_never) pss_nil)
      (pss_one (ps_fld (pv 0) (pe_tup (pa_cons (pv 1) (pa_cons (pv 2) (pa_cons (pv 3) (pa_cons (pv 4) (pa_cons (pv 5) pa_nil)))))) rfl))), ?_⟩
    refine ⟨_, rfl, c.tree, rfl, oc.tree, fun H1 s1 => ⟨true, rfl, iteF ?_⟩⟩
    have ht1 := sqt_same s1 ht
    refine ⟨_, rfl, a, c.ps, rfl, ty_sqt ht1, ht1, oc.nps, oc.nd, oc.ps, fun H2 s2 => ⟨true, rfl, iteF ?_⟩⟩
    refine ⟨_, rfl, c.au, rfl, oc.au1, oc.au2, oc.au3, fun H3 s3 => ⟨true, rfl, iteF ?_⟩⟩
    refine ⟨_, rfl, c.tm, rfl, oc.tm0, oc.tm1, true, rfl, iteF ?_⟩
    refine ⟨_, rfl, c.ms, rfl, oc.ms1, oc.ms2, fun H4 s4 => ⟨true, rfl, iteF ?_⟩⟩
    have sm : Same H H4 := ((s1.trans s2).trans s3).trans s4
    refine ⟨_, rfl, _, rfl, _, rfl, _, rfl, _, rfl, (by show 5 ≤ sizeLine; decide), fun t ht' => ?_⟩
    have s5 : Same H (upd H4 t (.tup [.str c.tree, .ref a, .str c.au, .int c.tm, .str c.ms])) := sm.trans (same_new ht')
    refine ⟨_, rfl, p, T.CCommit, dx, [], rfl, s5 _ _ hp, T.clCommit, T.nCommit_held, (by show 0 < 1000; decide), ?_⟩
    have npt : t ≠ p := (ne_of_none (sm _ _ hp) ht').symm
    have other : ∀ (b : Addr) (o : HO), H b = some o → b ≠ p → (upd (upd H4 t (.tup [.str c.tree, .ref a, .str c.au, .int c.tm, .str c.ms])) p (.ins T.CCommit dx [("held", .ref t)])) b = some o := fun b o e hb => by
      rw [upd_ne hb]
      exact s5 _ _ e
    refine k _ ⟨dx, t, a, upd_same, by rw [upd_ne npt, upd_same], ?_⟩ other
    rcases ht with (h | ⟨o, h⟩) | h
    · exact .inl (.inl (other _ _ h (ne_of h hp (by intro z; cases z))))
    · exact .inl (.inr ⟨o, other _ _ h (ne_of h hp (by intro z; cases z))⟩)
    · exact .inr h
end
end K65

set_option maxHeartbeats 200000
/-! K65Store: __eq__ of a thing with itself; Store. -/
namespace K65
open PySem L2
theorem strOk_asc {x : Str} (h : PySem.W.KSb.Asc x) : PyData.strOk x = true := by
  unfold PyData.strOk
  rw [← Array.all_toList, List.all_eq_true]
  exact fun c hc => decide_eq_true (Nat.lt_trans (h c hc) (by decide))
theorem lay_strs : ∀ xs : List Str, (∀ x ∈ xs, PySem.W.KSb.Asc x) → PyData.canLayAll0 (xs.map PyData.str) = true
  | [], _ => by simp [PyData.canLayAll0]
  | x :: r, h => by
    have h1 := lay_strs r fun y hy => h y (List.mem_cons_of_mem _ hy)
    simp only [List.map_cons, PyData.canLayAll0, PyData.canLay0, h1, strOk_asc (h x List.mem_cons_self), Bool.and_self]
theorem deep_strs : ∀ xs : List Str, PyData.depthAll (xs.map PyData.str) ≤ 1
  | [] => by simp [PyData.depthAll]
  | x :: r => by
    have h2 := deep_strs r
    simp only [List.map_cons, PyData.depthAll, PyData.depth]
    omega
section
variable {P : Program} {w : World} {K : PySem.W.Frag} {mg : Str → Option Value} {base : Heap}
theorem dpAll_strs {H : Hp} : ∀ xs : List Str, DpAll K H (xs.map V.str) (xs.map PyData.str)
  | [] => .nil
  | x :: r => .cons (.str x) (dpAll_strs r)
def dataC (c : Cm) : PyData := .tuple [.str c.tree, .tuple (c.ps.map PyData.str), .str c.au, .int c.tm, .str c.ms]
theorem dataC_ok {c : Cm} (o : OkC c) : SeqAt.shaped (dataC c) = true := by
  have h1 := lay_strs c.ps fun x hx => asc_id (o.ps x hx)
  have h2 := deep_strs c.ps
  have h3 : PyData.depth (dataC c) ≤ 64 := by
    unfold dataC
    simp only [PyData.depth, PyData.depthAll]
    omega
  show (PyData.canLay0 (dataC c) && decide (PyData.depth (dataC c) ≤ 64)) = true
  rw [Bool.and_eq_true]
  refine ⟨?_, decide_eq_true h3⟩
  unfold dataC
  have a1 := strOk_asc (asc_id o.tree)
  have a2 := strOk_asc (asc_mem (PySem.W.KSb.asc_of (by decide +kernel)) o.au3)
  have a3 : PyData.strOk c.ms = true := strOk_asc fun x hx => Nat.lt_of_le_of_lt (o.ms2 x hx).2 (by decide)
  simp only [PyData.canLay0, PyData.canLayAll0, h1, a1, a2, a3, Bool.and_self]
theorem dp_commit {T : W K mg} {H : Hp} {t p : Addr} {c : Cm} (h2 : H t = some (.tup [.str c.tree, .ref p, .str c.au, .int c.tm, .str c.ms])) (h3 : SqT K H p (c.ps.map V.str)) : Dp K H (.ref t) (dataC c) :=
  .tup (.inl (.inl h2)) (.cons (.str _) (.cons (.tup h3 (dpAll_strs c.ps)) (.cons (.str _) (.cons (.int _) (.cons (.str _) .nil)))))
/-! ### thing == thing -/
def spEqT (T : W K mg) : Sp := fun vs H Q _ => ∃ a, vs = [.ref a, .ref a] ∧ TreeAt T H a ∧ Q (.bl true) H
theorem sc_teq : FnScope ["self", "other"] ["self", "other"] (defScope s_Tree_DeqD) := ⟨rfl, rfl, rfl, by decide +kernel, rfl, by decide +kernel, by decide +kernel⟩
theorem ok_teq (T : W K mg) : FnOk P w K mg base CX0 1 T.a_Tree_DeqD T.d_Tree_DeqD ["self", "other"] (spEqT T) := by
  refine T.F_Tree_DeqD.ok sc_teq (fun vs H Q E h => ?_) (fun cdv A outer s H vs Q E hr h => ?_)
  · obtain ⟨a, rfl, _⟩ := h
    rfl
  · obtain ⟨a, rfl, h1, k⟩ := h
    obtain ⟨dx, t, h2, h3⟩ := id h1
    refine ⟨_, pss_one (ps_ret (pe_and (pe_callB call_isi (by rfl) T.z_isinstance (by decide +kernel) (pa_cons (pv 1) (pa_cons (pe_glob (v := .ref T.CTree) rfl T.gCTree rfl) pa_nil)))
      (pe_one (pe_cmpR (op_eqD hr.units) (pe_fld (pv 0) rfl) (pe_fld (pv 1) rfl) (nomark _))))), ?_⟩
    refine ⟨_, rfl, _, _, _, _, true, rfl, .own _, ty_tree T h1, T.iTreeTree, true, rfl, iteT ?_⟩
    have d : Dp K H (.ref t) (.tuple []) := .tup (.inl (.inl h3)) .nil
    exact ⟨_, rfl, a, T.CTree, dx, _, _, rfl, h2, T.clTree, T.nTree_held, rfl, _, rfl, a, T.CTree, dx, _, _, rfl, h2, T.clTree, T.nTree_held, rfl, _, _, d, d, by decide, by decide, k⟩
def spEqC (T : W K mg) : Sp := fun vs H Q _ => ∃ a c, vs = [.ref a, .ref a] ∧ CommitAt T H a c ∧ OkC c ∧ Q (.bl true) H
theorem sc_ceq : FnScope ["self", "other"] ["self", "other"] (defScope s_Commit_DeqD) := ⟨rfl, rfl, rfl, by decide +kernel, rfl, by decide +kernel, by decide +kernel⟩
theorem ok_ceq (T : W K mg) : FnOk P w K mg base CX0 1 T.a_Commit_DeqD T.d_Commit_DeqD ["self", "other"] (spEqC T) := by
  refine T.F_Commit_DeqD.ok sc_ceq (fun vs H Q E h => ?_) (fun cdv A outer s H vs Q E hr h => ?_)
  · obtain ⟨a, c, rfl, _⟩ := h
    rfl
  · obtain ⟨a, c, rfl, h1, oc, k⟩ := h
    obtain ⟨dx, t, p, h2, h3, h4⟩ := id h1
    refine ⟨_, pss_one (ps_ret (pe_and (pe_callB call_isi (by rfl) T.z_isinstance (by decide +kernel) (pa_cons (pv 1) (pa_cons (pe_glob (v := .ref T.CCommit) rfl T.gCCommit rfl) pa_nil)))
      (pe_one (pe_cmpR (op_eqD hr.units) (pe_fld (pv 0) rfl) (pe_fld (pv 1) rfl) (nomark _))))), ?_⟩
    refine ⟨_, rfl, _, _, _, _, true, rfl, .own _, ty_commit T h1, T.iCommitCommit, true, rfl, iteT ?_⟩
    have d : Dp K H (.ref t) (dataC c) := dp_commit (T := T) h3 h4
    refine ⟨_, rfl, a, T.CCommit, dx, _, _, rfl, h2, T.clCommit, T.nCommit_held, rfl, _, rfl, a, T.CCommit, dx, _, _, rfl, h2, T.clCommit, T.nCommit_held, rfl, _, _, d, d, dataC_ok oc, dataC_ok oc, ?_⟩
    rw [SeqAt.eqv_refl _ (SeqAt.canLay_of_shaped (dataC_ok oc))]
    exact k
/-! ### Store(..) -/
def StoreAt (T : W K mg) (H : Hp) (a kd : Addr) : Prop := ∃ dx, H a = some (.ins T.CStore dx [("short", .bl false), ("kept", .ref kd)])
theorem StoreAt.same {T : W K mg} {H H' : Hp} {a kd : Addr} (h : StoreAt T H a kd) (s : Same H H') : StoreAt T H' a kd := let ⟨dx, h⟩ := h; ⟨dx, s _ _ h⟩
def spStoreInit (T : W K mg) : Sp := fun vs H Q _ => ∃ p dx, vs = [.ref p, .bl false] ∧ H p = some (.ins T.CStore dx []) ∧
  ∀ H' kd, H kd = none → StoreAt T H' p kd → H' kd = some (.dK []) → (∀ b o, H b = some o → b ≠ p → H' b = some o) → Q .non H'
theorem sc_sinit : FnScope ["self", "short"] ["self", "short"] (defScope s_Store_DinitD) := ⟨rfl, rfl, rfl, by decide +kernel, rfl, by decide +kernel, by decide +kernel⟩
theorem ok_sinit (T : W K mg) : FnOk P w K mg base CX0 1 T.a_Store_DinitD T.d_Store_DinitD ["self", "short"] (spStoreInit T) := by
  refine T.F_Store_DinitD.okN sc_sinit (fun vs H Q E h => ?_) (fun cdv A outer s H vs Q E hr h => ?_)
  · obtain ⟨p, dx, rfl, _⟩ := h
    rfl
  · obtain ⟨p, dx, rfl, hp, k⟩ := h
    refine ⟨_, pss_cons (ps_fld (pv 0) (pe_callTy call_bool1 (by rfl) T.z_bool (by decide +kernel) (pa_cons (pv 1) pa_nil)) rfl) (pss_one (ps_fld (pv 0) pe_dnewK rfl)), ?_⟩
    refine ⟨_, rfl, .inr ⟨false, rfl, _, rfl, p, T.CStore, dx, [], rfl, hp, T.clStore, T.nStore_short, (by show 0 < 1000; decide), fun kd hk => ?_⟩⟩
    have npk : kd ≠ p := (ne_of_none upd_same hk).symm
    have hk0 : H kd = none := by rwa [upd_ne npk] at hk
    refine ⟨_, rfl, p, T.CStore, dx, [("short", .bl false)], rfl, by rw [upd_ne npk.symm, upd_same]; rfl, T.clStore, T.nStore_kept, (by show 1 < 1000; decide), ?_⟩
    refine k _ kd hk0 ⟨dx, upd_same⟩ (by rw [upd_ne npk, upd_same]) fun b o e hb => ?_
    rw [upd_ne hb, upd_ne (ne_of_none e hk0), upd_ne hb]
    exact e
/-! ### put -/
/-- what a store holds: things and where they stand -/
def rowsK (rows : List (Ob × Addr)) : List (Key × V) := rows.map fun r => (Sum.inr (oid r.1), V.ref r.2)
theorem oid_asc (o : Ob) : IsId (oid o) := isId_idOf _
@[irreducible] def spPut (T : W K mg) : Sp := fun vs H Q _ => ∃ s kd a o kvs, vs = [.ref s, .ref a] ∧ StoreAt T H s kd ∧ H kd = some (.dK kvs) ∧ ObjAt T H a o ∧ o.ok ∧ valV kvs (Sum.inr (oid o)) = none ∧ kvs.length ≤ 1000 ∧
  ∀ H', H' kd = some (.dK (kvs ++ [(Sum.inr (oid o), .ref a)])) → (∀ b o, H b = some o → b ≠ kd → H' b = some o) → Q (.str (oid o)) H'
theorem sc_put : FnScope ["self", "thing", "name"] ["self", "thing"] (defScope s_Store_put) := ⟨rfl, rfl, rfl, by decide +kernel, rfl, by decide +kernel, by decide +kernel⟩
theorem ok_put (T : W K mg) : FnOk P w K mg base CX0 6 T.a_Store_put T.d_Store_put ["self", "thing"] (spPut T) := by
  have b0 := T.F_is_object.binds (ps := ["thing"]) fun _ _ _ _ _ _ us hl => match us, hl with | [_], _ => rfl
  obtain ⟨mv, b1⟩ := T.F_id_of.kbinds0 (ps := ["thing", "short"]) 1 ["short"] [] (fun us _ ws => us ++ ws) (by simp) (by simp) (fun r _ z => r.append z) fun _ _ _ _ _ _ us mv ws h1 h2 h3 => match us, mv, ws, h1, h2, h3 with | [_], [], [_], _, _, _ => rfl
  have b2 := T.F_Tree_DeqD.binds (ps := ["self", "other"]) fun _ _ _ _ _ _ us hl => match us, hl with | [_, _], _ => rfl
  have b3 := T.F_Commit_DeqD.binds (ps := ["self", "other"]) fun _ _ _ _ _ _ us hl => match us, hl with | [_, _], _ => rfl
  refine T.F_Store_put.ok sc_put (fun vs H Q E h => ?_) (fun cdv A outer s H vs Q E hr h => ?_)
  · unfold spPut at h
    obtain ⟨s, kd, a, o, kvs, rfl, _⟩ := h
    rfl
  · unfold spPut at h
    obtain ⟨st, kd, a, o, kvs, rfl, hs, hk, ho, oo, hn, hz, k⟩ := h
    have hu := hu_of hr
    refine ⟨_, pss_cons (ps_if (pt_not (pt_val (pe_call (ok_is_object T) (hr.mono (by decide)) rfl T.g_is_object T.F_is_object.kp b0 .nil pass0 (pa_cons (pv 1) pa_nil)))) (pss_one ps_never) pss_nil)
      (pss_cons (ps_set (i := 2) sc_put.nd rfl (Or.inl rfl) (pe_callN (ok_id_of T) hr rfl T.g_id_of T.F_id_of.kp b1 pass0 (pa_cons (pv 1) pa_nil) (pk_cons (pe_fld (pv 0) rfl) pk_nil)))
      (pss_cons (ps_if (pt_cmpR ((op_ownNe T.neTree T.obTree T.m_Tree_DeqD.at_ T.m_Tree_DeqD.fn (ok_teq T) (hr.mono (by decide)) b2 pass0).or (op_ownNe T.neCommit T.obCommit T.m_Commit_DeqD.at_ T.m_Commit_DeqD.fn (ok_ceq T) (hr.mono (by decide)) b3 pass0))
        (pe_dget2 hu (pe_fld (pv 0) rfl) (pv 2) (pv 1) ⟨rfl, rfl, rfl, rfl⟩) (pv 1) (nomark _)) (pss_one ps_never) pss_nil)
      (pss_cons (ps_dput hu (pe_fld (pv 0) rfl) (pv 2) (pv 1) rfl) (pss_one (ps_ret (pv 2)))))), ?_⟩
    have hoT : TreeAt T H a ∨ ∃ c, CommitAt T H a c := by
      cases o with
      | tree => exact .inl ho
      | com c => exact .inr ⟨c, ho⟩
    refine ⟨_, rfl, a, rfl, hoT, fun H1 s1 => ⟨true, rfl, iteF ?_⟩⟩
    obtain ⟨dx, hs⟩ := hs
    refine ⟨_, rfl, _, rfl, st, T.CStore, dx, _, _, rfl, s1 _ _ hs, T.clStore, T.nStore_short, rfl, rfl, rfl, a, o, rfl, ho.same s1, oo, fun H2 s2 => ?_⟩
    have sm := s1.trans s2
    have hk2 := sm _ _ hk
    refine ⟨_, rfl, st, T.CStore, dx, _, _, rfl, sm _ _ hs, T.clStore, T.nStore_kept, rfl, kd, rfl, .inl ⟨kvs, .inl hk2⟩, _, rfl, _, rfl, none, ?_, _, rfl, ?_⟩
    · rw [← hn]
      exact DGet.k (k := Sum.inr (oid o)) hk2
    have hok : ∀ b u, H b = some u → b ≠ kd → (upd H2 kd (.dK (kvs ++ [(Sum.inr (oid o), V.ref a)]))) b = some u := fun b u e hb => by
      rw [upd_ne hb]
      exact sm _ _ e
    cases o with
    | tree =>
      obtain ⟨dy, t, e1, e2⟩ := ho
      refine Or.inl ⟨a, dy, _, a, dy, _, rfl, rfl, sm _ _ e1, sm _ _ e1, a, rfl, (TreeAt.same ⟨dy, t, e1, e2⟩ sm), true, rfl, false, rfl, iteF ?_⟩
      refine ⟨_, rfl, _, rfl, st, T.CStore, dx, _, _, rfl, sm _ _ hs, T.clStore, T.nStore_kept, rfl, _, rfl, kd, _, rfl, DPut.k (k := Sum.inr (oid .tree)) hk2 (Nat.lt_of_le_of_lt hz (by decide)), _, rfl, ?_⟩
      rw [putK_new _ hn]
      exact k _ upd_same hok
    | com c =>
      obtain ⟨dy, t, p, e1, e2, e3⟩ := ho
      refine Or.inr ⟨a, dy, _, a, dy, _, rfl, rfl, sm _ _ e1, sm _ _ e1, a, c, rfl, (CommitAt.same ⟨dy, t, p, e1, e2, e3⟩ sm), oo, true, rfl, false, rfl, iteF ?_⟩
      refine ⟨_, rfl, _, rfl, st, T.CStore, dx, _, _, rfl, sm _ _ hs, T.clStore, T.nStore_kept, rfl, _, rfl, kd, _, rfl, DPut.k (k := Sum.inr (oid (.com c))) hk2 (Nat.lt_of_le_of_lt hz (by decide)), _, rfl, ?_⟩
      rw [putK_new _ hn]
      exact k _ upd_same hok
/-! ### name in store, store[name] -/
def spHas (T : W K mg) : Sp := fun vs H Q _ => ∃ s kd kvs n, vs = [.ref s, .str n] ∧ StoreAt T H s kd ∧ H kd = some (.dK kvs) ∧ Q (.bl (valV kvs (Sum.inr n)).isSome) H
theorem sc_has : FnScope ["self", "name"] ["self", "name"] (defScope s_Store_DcontainsD) := ⟨rfl, rfl, rfl, by decide +kernel, rfl, by decide +kernel, by decide +kernel⟩
theorem ok_has (T : W K mg) : FnOk P w K mg base CX0 1 T.a_Store_DcontainsD T.d_Store_DcontainsD ["self", "name"] (spHas T) := by
  refine T.F_Store_DcontainsD.ok sc_has (fun vs H Q E h => ?_) (fun cdv A outer s H vs Q E hr h => ?_)
  · obtain ⟨s, kd, kvs, n, rfl, _⟩ := h
    rfl
  · obtain ⟨st, kd, kvs, n, rfl, ⟨dx, hs⟩, hk, k⟩ := h
    refine ⟨_, pss_one (ps_ret (pe_and (pe_callB call_isi (by rfl) T.z_isinstance (by decide +kernel) (pa_cons (pv 1) (pa_cons (pe_bltn (v := .ty "str") (by rfl) T.z_str (by decide +kernel) rfl) pa_nil)))
      (pe_one (pe_cmp (pc_din (hu_of hr) (pv 1) (pe_fld (pv 0) rfl)))))), ?_⟩
    refine ⟨_, rfl, _, _, _, _, true, rfl, .ty "str", .base (.str n), kit_ty (by decide +kernel), true, rfl, iteT ?_⟩
    exact ⟨_, rfl, _, rfl, st, T.CStore, dx, _, _, rfl, hs, T.clStore, T.nStore_kept, rfl, kd, _, rfl, DGet.k (k := Sum.inr n) hk, k⟩
def spGet (T : W K mg) : Sp := fun vs H Q _ => ∃ s kd kvs n v, vs = [.ref s, .str n] ∧ StoreAt T H s kd ∧ H kd = some (.dK kvs) ∧ valV kvs (Sum.inr n) = some v ∧ Q v H
theorem sc_get : FnScope ["self", "name"] ["self", "name"] (defScope s_Store_DgetitemD) := ⟨rfl, rfl, rfl, by decide +kernel, rfl, by decide +kernel, by decide +kernel⟩
theorem ok_get (T : W K mg) : FnOk P w K mg base CX0 1 T.a_Store_DgetitemD T.d_Store_DgetitemD ["self", "name"] (spGet T) := by
  refine T.F_Store_DgetitemD.ok sc_get (fun vs H Q E h => ?_) (fun cdv A outer s H vs Q E hr h => ?_)
  · obtain ⟨s, kd, kvs, n, v, rfl, _⟩ := h
    rfl
  · obtain ⟨st, kd, kvs, n, v, rfl, ⟨dx, hs⟩, hk, hv, k⟩ := h
    have g : DGet H kd (.str n) (some v) := hv ▸ DGet.k (k := Sum.inr n) hk
    refine ⟨_, pss_cons (ps_if (PW.pt (pw_or (pt_not (pt_val (pe_callB call_isi (by rfl) T.z_isinstance (by decide +kernel) (pa_cons (pv 1) (pa_cons (pe_bltn (v := .ty "str") (by rfl) T.z_str (by decide +kernel) rfl) pa_nil)))))
        (pw_or1 (pt_cmp (pc_dnotin (hu_of hr) (pv 1) (pe_fld (pv 0) rfl)))))) (pss_one ps_never) pss_nil)
      (pss_one (ps_ret (pe_dget (hu_of hr) (pe_fld (pv 0) rfl) (pv 1) fun _ _ => rfl))), ?_⟩
    refine ⟨_, rfl, _, _, _, _, true, rfl, .ty "str", .base (.str n), kit_ty (by decide +kernel), true, rfl, iteF ?_⟩
    refine ⟨_, rfl, _, rfl, st, T.CStore, dx, _, _, rfl, hs, T.clStore, T.nStore_kept, rfl, kd, _, rfl, g, false, rfl, iteF ?_⟩
    exact ⟨_, rfl, st, T.CStore, dx, _, _, rfl, hs, T.clStore, T.nStore_kept, rfl, _, rfl, kd, v, rfl, g, k⟩
/-- commit_of -/
def spCommitOf (T : W K mg) : Sp := fun vs H Q _ => ∃ s kd kvs n a c, vs = [.ref s, .str n] ∧ StoreAt T H s kd ∧ H kd = some (.dK kvs) ∧ valV kvs (Sum.inr n) = some (.ref a) ∧ CommitAt T H a c ∧ Q (.ref a) H
theorem sc_commit_of : FnScope ["store", "name", "thing"] ["store", "name"] (defScope s_commit_of) := ⟨rfl, rfl, rfl, by decide +kernel, rfl, by decide +kernel, by decide +kernel⟩
theorem ok_commit_of (T : W K mg) : FnOk P w K mg base CX0 3 T.a_commit_of T.d_commit_of ["store", "name"] (spCommitOf T) := by
  have b := T.F_Store_DgetitemD.binds (ps := ["self", "name"]) fun _ _ _ _ _ _ us hl => match us, hl with | [_, _], _ => rfl
  refine T.F_commit_of.ok sc_commit_of (fun vs H Q E h => ?_) (fun cdv A outer s H vs Q E hr h => ?_)
  · obtain ⟨s, kd, kvs, n, a, c, rfl, _⟩ := h
    rfl
  · obtain ⟨st, kd, kvs, n, a, c, rfl, hs, hk, hv, hc, k⟩ := h
    refine ⟨_, pss_cons (ps_set (i := 2) sc_commit_of.nd rfl (Or.inl rfl) (pe_ownIx T.m_Store_DgetitemD.at_ T.m_Store_DgetitemD.fn T.fnGet (ok_get T) hr b pass0 (pv 0) (pv 1)))
      (pss_cons (ps_if (pt_not (pt_val (pe_callB call_isi (by rfl) T.z_isinstance (by decide +kernel) (pa_cons (pv 2) (pa_cons (pe_glob (v := .ref T.CCommit) rfl T.gCCommit rfl) pa_nil))))) (pss_one ps_never) pss_nil)
      (pss_one (ps_ret (pv 2)))), ?_⟩
    obtain ⟨dx, hs'⟩ := id hs
    refine ⟨_, rfl, _, rfl, st, dx, _, rfl, hs', st, kd, kvs, n, _, rfl, hs, hk, hv, ?_⟩
    exact ⟨_, rfl, _, _, _, _, true, rfl, .own _, ty_commit T hc, T.iCommitCommit, true, rfl, iteF ⟨_, rfl, k⟩⟩
end
end K65

set_option maxHeartbeats 200000
/-! K65Graph: commits and their parents; reach. Plain Lean (but for the word IsId). -/
namespace K65
open PySem
structure Gr where
  ns : List Str
  par : Str → List Str
  tm : Str → Int
  rk : Str → Nat
structure Gr.Ok (g : Gr) : Prop where
  nd : g.ns.Nodup
  sm : g.ns.length ≤ 15
  ids : ∀ n ∈ g.ns, IsId n
  cl : ∀ n ∈ g.ns, ∀ p ∈ g.par n, p ∈ g.ns
  rk : ∀ n ∈ g.ns, ∀ p ∈ g.par n, g.rk p < g.rk n
  np : ∀ n ∈ g.ns, (g.par n).length ≤ 6
inductive Reach (g : Gr) : Str → Str → Prop
  | refl (n : Str) : Reach g n n
  | step {n p x : Str} : p ∈ g.par n → Reach g p x → Reach g n x
theorem Reach.trans {g : Gr} {a b c : Str} (h : Reach g a b) (k : Reach g b c) : Reach g a c := by
  induction h with
  | refl n => exact k
  | step hp _ ih => exact .step hp (ih k)
theorem Reach.mem {g : Gr} (o : g.Ok) {a b : Str} (h : Reach g a b) : a ∈ g.ns → b ∈ g.ns := by
  induction h with
  | refl n => exact id
  | step hp _ ih => exact fun ha => ih (o.cl _ ha _ hp)
theorem Reach.rk {g : Gr} (o : g.Ok) {a b : Str} (h : Reach g a b) : a ∈ g.ns → a = b ∨ g.rk b < g.rk a := by
  induction h with
  | refl n => exact fun _ => .inl rfl
  | step hp _ ih =>
    intro ha
    have h1 := o.rk _ ha _ hp
    rcases ih (o.cl _ ha _ hp) with e | e
    · exact .inr (e ▸ h1)
    · exact .inr (by omega)
theorem Reach.anti {g : Gr} (o : g.Ok) {a b : Str} (ha : a ∈ g.ns) (hb : b ∈ g.ns) (h : Reach g a b) (k : Reach g b a) : a = b := by
  rcases h.rk o ha with e | e
  · exact e
  · rcases k.rk o hb with e' | e'
    · exact e'.symm
    · omega
open Classical in
/-- n reaches x -/
noncomputable def RB (g : Gr) (n x : Str) : Bool := decide (Reach g n x)
theorem rb_iff {g : Gr} {n x : Str} : RB g n x = true ↔ Reach g n x := by
  unfold RB
  exact @decide_eq_true_iff _ (Classical.propDecidable _)
theorem rb_refl (g : Gr) (n : Str) : RB g n n = true := rb_iff.mpr (.refl n)
theorem nodup_len {α : Type} [DecidableEq α] : ∀ {l m : List α}, l.Nodup → (∀ x ∈ l, x ∈ m) → l.length ≤ m.length
  | [], _, _, _ => Nat.zero_le _
  | a :: r, m, nd, h => by
    obtain ⟨h1, h2⟩ := List.nodup_cons.mp nd
    have ha : a ∈ m := h a List.mem_cons_self
    have ih := nodup_len (l := r) (m := m.erase a) h2 fun x hx => (List.mem_erase_of_ne fun e => h1 (by rw [← e]; exact hx)).mpr (h x (List.mem_cons_of_mem _ hx))
    rw [List.length_erase_of_mem ha] at ih
    have : 0 < m.length := List.length_pos_of_mem ha
    rw [List.length_cons]
    omega
/-- found: what the starts reach -/
theorem reach_all {g : Gr} {ss fs : List Str} (h1 : ∀ s ∈ ss, s ∈ fs) (h2 : ∀ x ∈ fs, ∀ p ∈ g.par x, p ∈ fs) (h3 : ∀ x ∈ fs, ∃ s ∈ ss, Reach g s x) (x : Str) : x ∈ fs ↔ ∃ s ∈ ss, Reach g s x := by
  refine ⟨h3 x, fun ⟨s, hs, r⟩ => ?_⟩
  have key : ∀ {a b : Str}, Reach g a b → a ∈ fs → b ∈ fs := fun {a b} r => by
    induction r with
    | refl n => exact id
    | step hp _ ih => exact fun ha => ih (h2 _ ha _ hp)
  exact key r (h1 s hs)
end K65

set_option maxHeartbeats 200000
/-! K65Hist: a history over a graph; History.searched. -/
namespace K65
open PySem L2
section
variable {P : Program} {w : World} {K : PySem.W.Frag} {mg : Str → Option Value} {base : Heap}
/-- a text as an entry of what was found -/
abbrev tr (x : Str) : Key × V := (Sum.inr x, .bl true)
/-- a history over the graph g stands at h; kn: the dict of what it knows -/
structure HistAt (T : W K mg) (H : Hp) (g : Gr) (h st kd e kn : Addr) : Prop where
  ins : ∃ dx dd, H h = some (.ins T.CHistory dx [("held", .ref st), ("ends", .ref e), ("known", .ref kn), ("depths", .ref dd)])
  st : StoreAt T H st kd
  ends : SqT K H e []
  kept : ∃ kvs, H kd = some (.dK kvs) ∧ ∀ n ∈ g.ns, ∃ a c, valV kvs (Sum.inr n) = some (.ref a) ∧ CommitAt T H a c ∧ c.ps = g.par n ∧ c.tm = g.tm n
theorem HistAt.same {T : W K mg} {H H' : Hp} {g : Gr} {h st kd e kn : Addr} (x : HistAt T H g h st kd e kn) (s : Same H H') : HistAt T H' g h st kd e kn :=
  ⟨let ⟨dx, dd, z⟩ := x.ins; ⟨dx, dd, s _ _ z⟩, x.st.same s, sqt_same s x.ends, let ⟨kvs, z, q⟩ := x.kept; ⟨kvs, s _ _ z, fun n hn => let ⟨a, c, z1, z2, z3⟩ := q n hn; ⟨a, c, z1, z2.same s, z3⟩⟩⟩
theorem valV_tr {fs : List Str} {x : Str} : valV (fs.map tr) (Sum.inr x) = if x ∈ fs then some (.bl true) else none := by
  induction fs with
  | nil => rfl
  | cons a r ih =>
    by_cases e : a = x
    · subst e
      rw [List.map_cons, valV_pos rfl, if_pos List.mem_cons_self]
    · rw [List.map_cons, valV_neg (fun z => e (Sum.inr.inj z)), ih]
      by_cases m : x ∈ r
      · rw [if_pos m, if_pos (List.mem_cons_of_mem _ m)]
      · rw [if_neg m, if_neg fun z => (List.mem_cons.mp z).elim (fun q => e q.symm) m]
def spSearched (T : W K mg) : Sp := fun vs H Q _ => ∃ (g : Gr) (h st kd e kn l : Addr) (ss : List Str), vs = [.ref h, .ref l] ∧ HistAt T H g h st kd e kn ∧ g.Ok ∧ H l = some (.lst (ss.map V.str)) ∧ ss.length ≤ 15 ∧ (∀ s ∈ ss, s ∈ g.ns) ∧
  ∀ (H' : Hp) (d : Addr) (fs : List Str), Same H H' → H d = none → H' d = some (.dK (fs.map tr)) → fs.Nodup → (∀ x, x ∈ fs ↔ ∃ s ∈ ss, Reach g s x) → Q (.ref d) H'
theorem sc_searched : FnScope ["self", "starts", "found", "ahead", "name", "thing", "absent"] ["self", "starts"] (defScope s_History_searched) := ⟨rfl, rfl, rfl, by decide +kernel, rfl, by decide +kernel, by decide +kernel⟩
/-- the search's state: found, ahead -/
structure Dfs (g : Gr) (ss fs as : List Str) : Prop where
  nd : fs.Nodup
  f : ∀ x ∈ fs, x ∈ g.ns
  a : ∀ x ∈ as, x ∈ g.ns
  sf : ∀ x ∈ fs, ∃ s ∈ ss, Reach g s x
  sa : ∀ x ∈ as, ∃ s ∈ ss, Reach g s x
  st : ∀ s ∈ ss, s ∈ fs ∨ s ∈ as
  cl : ∀ x ∈ fs, ∀ p ∈ g.par x, p ∈ fs ∨ p ∈ as
  len : as.length + 7 * (g.ns.length - fs.length) ≤ 120
theorem Dfs.old {g : Gr} {ss fs as : List Str} {x : Str} (o : g.Ok) (d : Dfs g ss fs (as ++ [x])) (h : x ∈ fs) : Dfs g ss fs as := by
  refine ⟨d.nd, d.f, fun y hy => d.a y (List.mem_append_left _ hy), d.sf, fun y hy => d.sa y (List.mem_append_left _ hy), fun s hs => ?_, fun y hy p hp => ?_, ?_⟩
  · rcases d.st s hs with q | q
    · exact .inl q
    · rcases List.mem_append.mp q with q | q
      · exact .inr q
      · exact .inl (List.mem_singleton.mp q ▸ h)
  · rcases d.cl y hy p hp with q | q
    · exact .inl q
    · rcases List.mem_append.mp q with q | q
      · exact .inr q
      · exact .inl (List.mem_singleton.mp q ▸ h)
  · have := d.len
    rw [List.length_append] at this
    omega
theorem Dfs.new {g : Gr} {ss fs as : List Str} {x : Str} (o : g.Ok) (d : Dfs g ss fs (as ++ [x])) (h : ¬ x ∈ fs) : Dfs g ss (fs ++ [x]) (as ++ g.par x) ∧ (as ++ g.par x).length + 7 * (g.ns.length - (fs ++ [x]).length) < (as ++ [x]).length + 7 * (g.ns.length - fs.length) := by
  have hx : x ∈ g.ns := d.a x (by simp)
  have nd2 : (fs ++ [x]).Nodup := nd_snoc d.nd h
  have sub : ∀ y ∈ fs ++ [x], y ∈ g.ns := fun y hy => (List.mem_append.mp hy).elim (d.f y) fun z => List.mem_singleton.mp z ▸ hx
  have l2 := nodup_len nd2 sub
  have l3 := o.np x hx
  have l4 := d.len
  have sx := d.sa x (by simp)
  rw [List.length_append] at l2 l4
  rw [List.length_singleton] at l2 l4
  have lt : (as ++ g.par x).length + 7 * (g.ns.length - (fs ++ [x]).length) < (as ++ [x]).length + 7 * (g.ns.length - fs.length) := by
    simp only [List.length_append, List.length_singleton]
    omega
  refine ⟨⟨nd2, sub, fun y hy => (List.mem_append.mp hy).elim (fun z => d.a y (List.mem_append_left _ z)) fun z => o.cl x hx y z, fun y hy => ?_, fun y hy => ?_, fun s hs => ?_, fun y hy p hp => ?_, ?_⟩, lt⟩
  · exact (List.mem_append.mp hy).elim (d.sf y) fun z => List.mem_singleton.mp z ▸ sx
  · rcases List.mem_append.mp hy with z | z
    · exact d.sa y (List.mem_append_left _ z)
    · obtain ⟨s, hs, r⟩ := sx
      exact ⟨s, hs, r.trans (.step z (.refl y))⟩
  · rcases d.st s hs with q | q
    · exact .inl (List.mem_append_left _ q)
    · rcases List.mem_append.mp q with q | q
      · exact .inr (List.mem_append_left _ q)
      · exact .inl (List.mem_append_right _ q)
  · rcases List.mem_append.mp hy with z | z
    · rcases d.cl y z p hp with q | q
      · exact .inl (List.mem_append_left _ q)
      · rcases List.mem_append.mp q with q | q
        · exact .inr (List.mem_append_left _ q)
        · exact .inl (List.mem_append_right _ q)
    · rw [List.mem_singleton.mp z] at hp
      exact .inr (List.mem_append_right _ hp)
  · have e := d.len
    omega
theorem eqv_nil : ∀ ds : List PyData, PyData.eqv (.list ds) (.list []) = ds.isEmpty
  | [] => by decide
  | _ :: _ => by simp [PyData.eqv, PyData.eqvAll]
theorem shaped_ids {xs : List Str} (h : ∀ x ∈ xs, IsId x) : SeqAt.shaped (.list (xs.map PyData.str)) = true := by
  have h1 := lay_strs xs fun x hx => asc_id (h x hx)
  have h2 := deep_strs xs
  have h3 : PyData.depth (.list (xs.map PyData.str)) ≤ 64 := by
    simp only [PyData.depth]
    omega
  show (PyData.canLay0 (.list (xs.map PyData.str)) && decide (PyData.depth (.list (xs.map PyData.str)) ≤ 64)) = true
  rw [Bool.and_eq_true]
  exact ⟨by simp only [PyData.canLay0]; exact h1, decide_eq_true h3⟩
theorem putK_tr {fs : List Str} {x : Str} (h : ¬ x ∈ fs) : putK (fs.map tr) (Sum.inr x) (.bl true) = (fs ++ [x]).map tr := by
  rw [putK_new _ (by rw [valV_tr, if_neg h]), List.map_append]
  rfl
theorem ok_searched (T : W K mg) : FnOk P w K mg base CX0 4 T.a_History_searched T.d_History_searched ["self", "starts"] (spSearched T) := by
  have b0 := T.F_Store_DcontainsD.binds (ps := ["self", "name"]) fun _ _ _ _ _ _ us hl => match us, hl with | [_, _], _ => rfl
  have b1 := T.F_Store_DgetitemD.binds (ps := ["self", "name"]) fun _ _ _ _ _ _ us hl => match us, hl with | [_, _], _ => rfl
  have b2 := T.F_Commit_parents.binds (ps := ["self"]) fun _ _ _ _ _ _ us hl => match us, hl with | [_], _ => rfl
  have b3 := T.F_commit_of.binds (ps := ["store", "name"]) fun _ _ _ _ _ _ us hl => match us, hl with | [_, _], _ => rfl
  refine T.F_History_searched.ok sc_searched (fun vs H Q E h => ?_) (fun cdv A outer s H vs Q E hr h => ?_)
  · obtain ⟨g, h, st, kd, e, kn, l, ss, rfl, _⟩ := h
    rfl
  · obtain ⟨g, h, st, kd, e, kn, l, ss, rfl, hh, o, hl, hz, hss, k⟩ := h
    have hu := hu_of hr
    have nd := sc_searched.nd
    refine ⟨_, pss_cons (ps_set (i := 2) nd rfl (Or.inl rfl) pe_dnewK)
      (pss_cons (ps_set (i := 3) nd rfl (Or.inl rfl) (pe_callTy call_list_of (by rfl) T.z_list (by decide +kernel) (pa_cons (pv 1) pa_nil)))
      (pss_cons (ps_while PassesOwn.never (pt_cmpR (op_neD hr.units) (pv 3) (pe_lst pa_nil) (nomark _))
        (pss_cons (ps_set (i := 4) nd rfl (Or.inl rfl) (pe_bm0 PySem.F.plainAttrs_list PySem.F.slot_list_pop PySem.F.type_list_pop mt_pop (pv 3)))
        (pss_one (ps_if (pt_cmp (pc_dnotin hu (pv 4) (pv 2)))
          (pss_cons (ps_dput hu (pv 2) (pv 4) pe_bl rfl)
          (pss_cons (ps_set (i := 5) nd rfl (Or.inl rfl) (pe_ifExp (pt_cmpR (op_ownIn T.m_Store_DcontainsD.at_ T.m_Store_DcontainsD.fn (ok_has T) (hr.mono (by decide)) b0 pass0) (pv 4) (pe_fld (pv 0) rfl) rfl)
            (pe_ownIx T.m_Store_DgetitemD.at_ T.m_Store_DgetitemD.fn T.fnGet (ok_get T) (hr.mono (by decide)) b1 pass0 (pe_fld (pv 0) rfl) (pv 4)) pe_non))
          (pss_one (ps_expr (pe_bm PySem.F.plainAttrs_list PySem.F.slot_list_extend PySem.F.type_list_extend mt_extT (pv 3) (pa_cons
            (pe_ifExp (PW.pt (pw_and (pt_val (pe_callB call_isi (by rfl) T.z_isinstance (by decide +kernel) (pa_cons (pv 5) (pa_cons (pe_glob (v := .ref T.CCommit) rfl T.gCCommit rfl) pa_nil))))
                (pw_and1 (pt_cmpR op_notIn_seq (pv 4) (pe_fld (pv 0) rfl) rfl))))
              (pe_prop (pv 5) T.clCommit T.P_Commit_parents (ok_parents T) (hr.mono (by decide)) b2 .nil pass0 rfl) (pe_tup pa_nil)) pa_nil))))))
          pss_nil))))
      (pss_cons (ps_lock
        (ps_setLc (i := 6) (own := [("name", 4)]) (g := gName 4) (tt := tTest (tOp (rOwnIn T.CStore (spHas T) E0 true) (tVar 4) (tFld K (tVar 0) "held"))) rfl nd rfl rfl (sw_true rfl rfl rfl (by decide +kernel)) (pi_keys (pv 2)) (blkOk_by (N := ["self", "starts", "found", "ahead", "name", "thing", "absent"]) (sc := defScope s_History_searched) (by decide +kernel))
          (fun _ _ _ _ _ => pg_name (i := 4) nd rfl (Or.inl rfl))
          (fun _ _ _ _ _ => pts_one (pt_cmpR (op_ownNotIn T.m_Store_DcontainsD.at_ T.m_Store_DcontainsD.fn (ok_has T) (hr.mono (by decide)) b0 pass0) (pv 4) (pe_fld (pv 0) rfl) rfl))
          (fun _ _ _ _ _ => pv 4)))
      (pss_cons (ps_if (pt_cmpR (op_neD hr.units) (pv 6) (pe_lst pa_nil) (nomark _)) (pss_one ps_never) pss_nil)
      (pss_cons (ps_lock (ps_for PassesOwn.never rfl (pi_keys (pv 2)) (pg_name (i := 4) nd rfl (Or.inl rfl))
        (pss_one (ps_expr (pe_call (ok_commit_of T) hr rfl T.g_commit_of T.F_commit_of.kp b3 .nil pass0 (pa_cons (pe_fld (pv 0) rfl) (pa_cons (pv 4) pa_nil)))))))
      (pss_one (ps_ret (pv 2)))))))), ?_⟩
    obtain ⟨dx, dd, hi⟩ := hh.ins
    obtain ⟨dy, hst⟩ := hh.st
    obtain ⟨kvs, hkd, hkv⟩ := hh.kept
    have nil0 : (0 : Nat) ≤ sizeLine := by decide
    -- found = {}; ahead = list(starts)
    refine fun fd hfd => ⟨_, rfl, l, _, rfl, .inl (SqL.of ((same_new hfd) _ _ hl)), fun al hal => ?_⟩
    have nfa : fd ≠ al := ne_of_none upd_same hal
    have hal0 : H al = none := (same_new hfd).free hal
    refine ⟨fun m σ H' => ∃ fs as b4 b5 b6, m = as.length + 7 * (g.ns.length - fs.length) ∧ σ = [some (.ref h), some (.ref l), some (.ref fd), some (.ref al), b4, b5, b6] ∧ Same H H' ∧ H' fd = some (.dK (fs.map tr)) ∧ H' al = some (.lst (as.map V.str)) ∧ Dfs g ss fs as,
      ⟨_, [], ss, none, none, none, rfl, rfl, (same_new hfd).trans (same_new hal), by rw [upd_ne nfa, upd_same]; rfl, upd_same, ?_⟩, ?_⟩
    · exact ⟨.nil, (fun _ m => by cases m), hss, (fun _ m => by cases m), fun x hx => ⟨x, hx, .refl x⟩, fun s hs => .inr hs, (fun _ m => by cases m), by have := o.sm; rw [List.length_nil]; omega⟩
    rintro m σ H1 ⟨fs, as, b4, b5, b6, rfl, rfl, s1, h1, h2, df⟩
    -- while ahead != []
    refine ⟨_, rfl, nil0, fun e0 he0 => ⟨.list (as.map PyData.str), .list [], .lst (SqL.of ((same_new he0) _ _ h2)) (dpAll_strs as), .lst (SqL.of upd_same) .nil, shaped_ids fun x hx => o.ids x (df.a x hx), by decide, _, rfl, ?_⟩⟩
    rw [eqv_nil]
    have s2 : Same H1 (upd H1 e0 (.lst [])) := same_new he0
    generalize upd H1 e0 (.lst []) = H2 at s2
    have s12 := s1.trans s2
    have h1' := s2 _ _ h1
    have h2' := s2 _ _ h2
    rcases List.eq_nil_or_concat as with rfl | ⟨as, x, rfl⟩
    · -- the end
      refine iteF ?_
      have found : ∀ x, x ∈ fs ↔ ∃ s ∈ ss, Reach g s x := reach_all (fun s hs => (df.st s hs).resolve_right fun z => by cases z) (fun y hy p hp => (df.cl y hy p hp).resolve_right fun z => by cases z) df.sf
      have few : (fs.map tr).length ≤ sizeLine := by
        rw [List.length_map]
        exact Nat.le_trans (nodup_len df.nd df.f) (Nat.le_trans o.sm (by decide))
      have there : ∀ x ∈ fs, ∃ a c, valV kvs (Sum.inr x) = some (.ref a) ∧ CommitAt T H a c := fun x hx => let ⟨a, c, z1, z2, _⟩ := hkv x (df.f x hx); ⟨a, c, z1, z2⟩
      -- absent = [..]
      refine ⟨fd, _, h1', trivial, fun od => ?_⟩
      have nofd : ∀ b u, H b = some u → b ≠ fd := fun b u e => ne_of_none e hfd
      have s3 : Same H (upd H2 fd (.frz od (.dK (fs.map tr)))) := same_mut s12 hfd
      refine ⟨_, rfl, fd, od, rfl, .inl ⟨_, upd_same, fun D hD => lc_fmK (fs.map tr) (fun kv => kV kv.1) (fun _ => rfl) (fun _ => false) (fun kv => kV kv.1) upd_same few hD ?_ ?_⟩⟩
      · intro kv hkv' H' B C s4 _ hC
        obtain ⟨x, hx, rfl⟩ := List.mem_map.mp hkv'
        obtain ⟨a, c, z1, z2⟩ := there x hx
        have s5 := s3.trans s4
        refine ⟨rfl, _, rfl, _, rfl, h, T.CHistory, dx, _, _, rfl, s5 _ _ hi, T.clHistory, T.nHistory_held, rfl, st, dy, _, rfl, s5 _ _ hst, st, kd, kvs, x, rfl, ⟨dy, s5 _ _ hst⟩, s5 _ _ hkd, _, rfl, _, rfl, ?_⟩
        rw [z1]
        exact iteF (hC rfl _ (Same.refl _))
      rintro H3 s4 hd
      have nDf : D ≠ fd := fun z => by rw [z, upd_same] at hD; cases hD
      refine ⟨s4 _ _ upd_same, ?_⟩
      have e4 : ((fs.map tr).filter fun _ => false) = [] := List.filter_eq_nil_iff.mpr fun _ _ => Bool.false_ne_true
      rw [e4] at hd
      -- back: found is free again
      have s5 : Same H2 (upd H3 fd (.dK (fs.map tr))) := same_unlock h1' s4
      have hd5 : (upd H3 fd (.dK (fs.map tr))) D = some (.lst []) := by rw [upd_ne nDf]; exact hd
      have h15 : (upd H3 fd (.dK (fs.map tr))) fd = some (.dK (fs.map tr)) := upd_same
      generalize upd H3 fd (.dK (fs.map tr)) = H4 at s5 hd5 h15
      have s6 := s12.trans s5
      -- if absent != []
      refine ⟨_, rfl, nil0, fun e1 he1 => ⟨.list [], .list [], .lst (SqL.of ((same_new he1) _ _ hd5)) .nil, .lst (SqL.of upd_same) .nil, by decide, by decide, _, rfl, ?_⟩⟩
      rw [eqv_nil]
      refine iteF ?_
      have s7 : Same H4 (upd H4 e1 (.lst [])) := same_new he1
      generalize upd H4 e1 (.lst []) = H5 at s7
      have s8 := s6.trans s7
      have h17 := s7 _ _ h15
      -- for name in found
      refine ⟨fd, _, h17, trivial, fun od2 => ⟨_, rfl, fd, od2, rfl, .inl ⟨_, upd_same, ?_⟩⟩⟩
      have s9 : Same H (upd H5 fd (.frz od2 (.dK (fs.map tr)))) := same_mut s8 hfd
      refine for_it walk_keys (fun i σ H' => (∃ b4 b5 b6, σ = [some (.ref h), some (.ref l), some (.ref fd), some (.ref al), b4, b5, b6]) ∧ H' = upd H5 fd (.frz od2 (.dK (fs.map tr)))) ⟨⟨_, _, _, rfl⟩, rfl⟩ (fun _ _ _ _ q => by rw [q.2]; exact upd_same) ?_ ?_
      · rintro i x σ H' H6 hi6 ⟨⟨c4, c5, c6, rfl⟩, rfl⟩ ⟨rfl, kk, vv, e6, rfl⟩
        rw [List.getElem?_map] at e6
        obtain ⟨x, hx, e7⟩ := Option.map_eq_some_iff.mp e6
        obtain ⟨rfl, rfl⟩ := Prod.mk.inj e7
        obtain ⟨a, c, z1, z2⟩ := there x (List.mem_of_getElem? hx)
        exact ⟨_, rfl, h, T.CHistory, dx, _, _, rfl, s9 _ _ hi, T.clHistory, T.nHistory_held, rfl, _, rfl, st, kd, kvs, x, a, c, rfl, ⟨dy, s9 _ _ hst⟩, s9 _ _ hkd, z1, z2.same s9, ⟨_, _, _, rfl⟩, rfl⟩
      · rintro σ H' ⟨⟨c4, c5, c6, rfl⟩, rfl⟩
        refine ⟨upd_same, _, rfl, ?_⟩
        rw [upd_upd]
        exact k _ fd fs (same_mut s8 hfd) hfd upd_same df.nd found
    · -- one turn
      have iT : (!(List.map PyData.str (as.concat x)).isEmpty) = true := by simp
      rw [iT]
      refine iteT ?_
      rw [List.concat_eq_append] at *
      have hx : x ∈ g.ns := df.a x (by simp)
      obtain ⟨a, c, z1, z2, z3, z4⟩ := hkv x hx
      refine ⟨fun σ H' => ∃ fs' as' b4 b5 b6, as'.length + 7 * (g.ns.length - fs'.length) < (as ++ [x]).length + 7 * (g.ns.length - fs.length) ∧ σ = [some (.ref h), some (.ref l), some (.ref fd), some (.ref al), b4, b5, b6] ∧ Same H H' ∧ H' fd = some (.dK (fs'.map tr)) ∧ H' al = some (.lst (as'.map V.str)) ∧ Dfs g ss fs' as',
        fun σ' H' ⟨fs', as', b4, b5, b6, lt, q⟩ => ⟨_, lt, fs', as', b4, b5, b6, rfl, q⟩, ?_⟩
      have hpop : ((as ++ [x]).map V.str)[((as ++ [x]).map V.str).length - 1]? = some (.str x) := by simp
      have hdl : ((as ++ [x]).map V.str).dropLast = as.map V.str := by simp
      refine ⟨_, rfl, .inl ⟨rfl, _, SqL.of h2'⟩, al, _, .str x, rfl, rfl, h2', hpop, ?_⟩
      rw [hdl]
      have s3 : Same H (upd H2 al (.lst (as.map V.str))) := same_mut s12 hal0
      have h13 : (upd H2 al (.lst (as.map V.str))) fd = some (.dK (fs.map tr)) := by rw [upd_ne nfa]; exact h1'
      have h23 : (upd H2 al (.lst (as.map V.str))) al = some (.lst (as.map V.str)) := upd_same
      generalize upd H2 al (.lst (as.map V.str)) = H3 at s3 h13 h23
      -- if name not in found
      refine ⟨_, rfl, _, rfl, fd, _, rfl, DGet.k (k := Sum.inr x) h13, _, rfl, ?_⟩
      rw [valV_tr]
      by_cases hf : x ∈ fs
      · rw [if_pos hf]
        refine iteF ⟨fs, as, some (.str x), b5, b6, ?_, rfl, s3, h13, h23, df.old o hf⟩
        rw [List.length_append, List.length_singleton]
        omega
      · rw [if_neg hf]
        refine iteT ?_
        obtain ⟨df2, lt⟩ := df.new o hf
        have few : (fs.map tr).length < sizeLine := by
          rw [List.length_map]
          exact Nat.lt_of_le_of_lt (nodup_len df.nd df.f) (Nat.lt_of_le_of_lt o.sm (by decide))
        refine ⟨_, rfl, _, rfl, fd, _, rfl, DPut.k (k := Sum.inr x) h13 few, ?_⟩
        rw [putK_tr hf]
        have s4 : Same H (upd H3 fd (.dK ((fs ++ [x]).map tr))) := same_mut s3 hfd
        have h14 : (upd H3 fd (.dK ((fs ++ [x]).map tr))) fd = some (.dK ((fs ++ [x]).map tr)) := upd_same
        have h24 : (upd H3 fd (.dK ((fs ++ [x]).map tr))) al = some (.lst (as.map V.str)) := by rw [upd_ne nfa.symm]; exact h23
        generalize upd H3 fd (.dK ((fs ++ [x]).map tr)) = H4 at s4 h14 h24
        -- thing = ..
        refine ⟨_, rfl, _, rfl, h, T.CHistory, dx, _, _, rfl, s4 _ _ hi, T.clHistory, T.nHistory_held, rfl, st, dy, _, rfl, s4 _ _ hst, st, kd, kvs, x, rfl, ⟨dy, s4 _ _ hst⟩, s4 _ _ hkd, _, rfl, _, rfl, ?_⟩
        rw [z1]
        refine iteT ⟨_, rfl, h, T.CHistory, dx, _, _, rfl, s4 _ _ hi, T.clHistory, T.nHistory_held, rfl, _, rfl, st, dy, _, rfl, s4 _ _ hst, st, kd, kvs, x, _, rfl, ⟨dy, s4 _ _ hst⟩, s4 _ _ hkd, z1, ?_⟩
        -- ahead.extend(..)
        obtain ⟨dz, tz, pz, y1, y2, y3⟩ := z2.same s4
        refine ⟨_, rfl, .inl ⟨rfl, _, SqL.of h24⟩, _, rfl, _, _, _, _, true, rfl, .own _, ty_commit T (z2.same s4), T.iCommitCommit, true, rfl, iteT ?_⟩
        refine ⟨_, rfl, _, rfl, h, T.CHistory, dx, _, _, rfl, s4 _ _ hi, T.clHistory, T.nHistory_ends, rfl, e, [], rfl, .inr (sqt_same s4 hh.ends), rfl, rfl, true, rfl, iteT ?_⟩
        refine ⟨_, rfl, a, dz, _, rfl, y1, a, dz, tz, _, .ref pz, rfl, y1, y2, rfl, al, pz, _, _, rfl, rfl, h24, y3, ?_, ?_⟩
        · have := df2.len
          rw [z3, List.length_map, List.length_map]
          rw [List.length_append] at this
          exact Nat.le_trans (by omega : _ ≤ 1000) (by decide)
        · refine ⟨fs ++ [x], as ++ g.par x, some (.str x), some (.ref a), b6, lt, rfl, same_mut s4 hal0, by rw [upd_ne nfa]; exact h14, by rw [upd_same, List.map_append, z3], df2⟩
end
end K65

set_option maxHeartbeats 200000
/-! K65Hist2: History(..), below, check_names. -/
namespace K65
open PySem L2
section
variable {P : Program} {w : World} {K : PySem.W.Frag} {mg : Str → Option Value} {base : Heap}
/-- all but the thing at k is as it was -/
def But (k : Addr) (H H' : Hp) : Prop := ∀ b o, H b = some o → b ≠ k → H' b = some o
theorem Same.but {k : Addr} {H H' : Hp} (s : Same H H') : But k H H' := fun b o e _ => s b o e
theorem But.trans {k : Addr} {H H1 H2 : Hp} (a : But k H H1) (b : But k H1 H2) : But k H H2 := fun c o e n => b c o (a c o e n) n
theorem but_sqt {k : Addr} {H H' : Hp} {a : Addr} {xs : List V} {kvs : List (Key × V)} (hk : H k = some (.dK kvs)) (s : But k H H') (h : SqT K H a xs) : SqT K H' a xs := by
  rcases h with (h | ⟨o, h⟩) | h
  · exact .inl (.inl (s _ _ h (ne_of h hk (by intro z; cases z))))
  · exact .inl (.inr ⟨o, s _ _ h (ne_of h hk (by intro z; cases z))⟩)
  · exact .inr h
theorem but_commit {T : W K mg} {k : Addr} {H H' : Hp} {a : Addr} {c : Cm} {kvs : List (Key × V)} (hk : H k = some (.dK kvs)) (s : But k H H') (h : CommitAt T H a c) : CommitAt T H' a c :=
  let ⟨dx, t, p, h1, h2, h3⟩ := h
  ⟨dx, t, p, s _ _ h1 (ne_of h1 hk (by intro z; cases z)), s _ _ h2 (ne_of h2 hk (by intro z; cases z)), but_sqt hk s h3⟩
theorem HistAt.but {T : W K mg} {H H' : Hp} {g : Gr} {h st kd e kn : Addr} {kvs : List (Key × V)} (x : HistAt T H g h st kd e kn) (ne : kd ≠ kn) (hk : H kn = some (.dK kvs)) (s : But kn H H') : HistAt T H' g h st kd e kn := by
  obtain ⟨⟨dx, dd, z⟩, ⟨dy, q⟩, u, ls, y, v⟩ := x
  exact ⟨⟨dx, dd, s _ _ z (ne_of z hk (by intro z; cases z))⟩, ⟨dy, s _ _ q (ne_of q hk (by intro z; cases z))⟩, but_sqt hk s u, ls, s _ _ y ne, fun n hn => let ⟨a, c, z1, z2, z3⟩ := v n hn; ⟨a, c, z1, but_commit hk s z2, z3⟩⟩
/-- read, or to be written -/
def RdX : Bool → Hp → Addr → HO → Prop
  | true, H, d, u => H d = some u
  | false, H, d, u => Rd H d u
theorem RdX.same {b : Bool} {H H' : Hp} {d : Addr} {u : HO} (s : Same H H') (h : RdX b H d u) : RdX b H' d u := by
  cases b with
  | true => exact s _ _ h
  | false => exact rd_same s h
theorem RdX.rd {b : Bool} {H : Hp} {d : Addr} {u : HO} (h : RdX b H d u) : Rd H d u := by
  cases b with
  | true => exact .inl h
  | false => exact h
theorem RdX.but {b : Bool} {k : Addr} {H H' : Hp} {d : Addr} {u : HO} (s : But k H H') (n : d ≠ k) (h : RdX b H d u) : RdX b H' d u := by
  cases b with
  | true => exact s _ _ h n
  | false => exact h.elim (fun z => .inl (s _ _ z n)) fun ⟨o, z⟩ => .inr ⟨o, s _ _ z n⟩
theorem RdX.of {b : Bool} {H : Hp} {d : Addr} {u : HO} (h : H d = some u) : RdX b H d u := by
  cases b with
  | true => exact h
  | false => exact .inl h
abbrev inK (p : Str × V) : Key × V := (Sum.inr p.1, p.2)
theorem valV_inK {ks : List (Str × V)} {n : Str} : valV (ks.map inK) (Sum.inr n) = valV ks n := by
  induction ks with
  | nil => rfl
  | cons p r ih =>
    by_cases e : p.1 = n
    · rw [List.map_cons, valV_pos (show (inK p).1 = Sum.inr n by show Sum.inr p.1 = _; rw [e]), valV_pos e]
    · rw [List.map_cons, valV_neg (fun z => e (Sum.inr.inj z)), valV_neg e, ih]
theorem valV_mem {ks : List (Str × V)} {n : Str} {v : V} (h : valV ks n = some v) : (n, v) ∈ ks := by
  induction ks with
  | nil => cases h
  | cons p r ih =>
    by_cases e : p.1 = n
    · rw [valV_pos e] at h
      have : p = (n, v) := by rw [← e, ← Option.some.inj h]
      rw [this]
      exact List.mem_cons_self
    · rw [valV_neg e] at h
      exact List.mem_cons_of_mem _ (ih h)
/-- what the history knows: n, and the dict of all that n reaches -/
structure KnowsAt (ex : Bool) (H : Hp) (g : Gr) (kn : Addr) (ks : List (Str × V)) : Prop where
  at_ : H kn = some (.dK (ks.map inK))
  nd : (ks.map Prod.fst).Nodup
  in_ : ∀ p ∈ ks, p.1 ∈ g.ns
  rd : ∀ p ∈ ks, ∃ (d : Addr) (fs : List Str), p.2 = .ref d ∧ d ≠ kn ∧ RdX ex H d (.dK (fs.map tr)) ∧ fs.Nodup ∧ ∀ x, x ∈ fs ↔ Reach g p.1 x
theorem KnowsAt.same {ex : Bool} {H H' : Hp} {g : Gr} {kn : Addr} {ks : List (Str × V)} (x : KnowsAt ex H g kn ks) (s : Same H H') : KnowsAt ex H' g kn ks :=
  ⟨s _ _ x.at_, x.nd, x.in_, fun p hp => let ⟨d, fs, z1, z2, z3, z4⟩ := x.rd p hp; ⟨d, fs, z1, z2, z3.same s, z4⟩⟩
theorem KnowsAt.few {ex : Bool} {H : Hp} {g : Gr} {kn : Addr} {ks : List (Str × V)} (x : KnowsAt ex H g kn ks) (o : g.Ok) : ks.length ≤ 15 := by
  have := nodup_len x.nd fun y hy => by
    obtain ⟨p, hp, rfl⟩ := List.mem_map.mp hy
    exact x.in_ p hp
  rw [List.length_map] at this
  exact Nat.le_trans this o.sm
theorem KnowsAt.more {ex : Bool} {H H' : Hp} {g : Gr} {kn d : Addr} {ks : List (Str × V)} {n : Str} {fs : List Str} (x : KnowsAt ex H g kn ks) (s : But kn H H') (hn : n ∈ g.ns) (no : valV ks n = none) (hk : H' kn = some (.dK ((ks ++ [(n, V.ref d)]).map inK)))
    (ne : d ≠ kn) (hd : H' d = some (.dK (fs.map tr))) (nd : fs.Nodup) (re : ∀ x, x ∈ fs ↔ Reach g n x) : KnowsAt ex H' g kn (ks ++ [(n, V.ref d)]) := by
  refine ⟨hk, ?_, fun p hp => ?_, fun p hp => ?_⟩
  · rw [List.map_append]
    exact nd_snoc x.nd (valV_not no)
  · rcases List.mem_append.mp hp with q | q
    · exact x.in_ p q
    · rw [List.mem_singleton.mp q]
      exact hn
  · rcases List.mem_append.mp hp with q | q
    · obtain ⟨d', fs', z1, z2, z3, z4⟩ := x.rd p q
      exact ⟨d', fs', z1, z2, z3.but s z2, z4⟩
    · rw [List.mem_singleton.mp q]
      exact ⟨d, fs, rfl, ne, .of hd, nd, re⟩
theorem KnowsAt.get {ex : Bool} {H : Hp} {g : Gr} {kn : Addr} {ks : List (Str × V)} {n : Str} {v : V} (x : KnowsAt ex H g kn ks) (h : valV ks n = some v) : ∃ (d : Addr) (fs : List Str), v = .ref d ∧ d ≠ kn ∧ RdX ex H d (.dK (fs.map tr)) ∧ fs.Nodup ∧ ∀ x, x ∈ fs ↔ Reach g n x := x.rd _ (valV_mem h)
/-! ### History(..) -/
def spHistInit (T : W K mg) : Sp := fun vs H Q _ => ∃ (p dx st e : Addr), vs = [.ref p, .ref st, .ref e] ∧ H p = some (.ins T.CHistory dx []) ∧ SqT K H e [] ∧
  ∀ (H' : Hp) (kn dd : Addr), H kn = none → H' p = some (.ins T.CHistory dx [("held", .ref st), ("ends", .ref e), ("known", .ref kn), ("depths", .ref dd)]) → H' kn = some (.dK []) → But p H H' → Q .non H'
theorem sc_hinit : FnScope ["self", "store", "cut"] ["self", "store", "cut"] (defScope s_History_DinitD) := ⟨rfl, rfl, rfl, by decide +kernel, rfl, by decide +kernel, by decide +kernel⟩
theorem ok_hinit (T : W K mg) : FnOk P w K mg base CX0 4 T.a_History_DinitD T.d_History_DinitD ["self", "store", "cut"] (spHistInit T) := by
  have b := T.F_are_ids.binds (ps := ["thing"]) fun _ _ _ _ _ _ us hl => match us, hl with | [_], _ => rfl
  refine T.F_History_DinitD.okN sc_hinit (fun vs H Q E h => ?_) (fun cdv A outer s H vs Q E hr h => ?_)
  · obtain ⟨p, dx, st, e, rfl, _⟩ := h
    rfl
  · obtain ⟨p, dx, st, e, rfl, hp, he, k⟩ := h
    refine ⟨_, pss_cons (ps_if (pt_not (pt_val (pe_call (ok_are_ids T) hr rfl T.g_are_ids T.F_are_ids.kp b .nil pass0 (pa_cons (pv 2) pa_nil)))) (pss_one ps_never) pss_nil)
      (pss_cons (ps_fld (pv 0) (pv 1) rfl) (pss_cons (ps_fld (pv 0) (pv 2) rfl) (pss_cons (ps_fld (pv 0) pe_dnewK rfl) (pss_one (ps_fld (pv 0) pe_dnewK rfl))))), ?_⟩
    refine ⟨_, rfl, e, [], rfl, ty_sqt he, he, by decide, (fun _ z => by cases z), fun H1 s1 => ⟨true, rfl, iteF ?_⟩⟩
    have hp1 := s1 _ _ hp
    refine ⟨_, rfl, _, rfl, p, T.CHistory, dx, [], rfl, hp1, T.clHistory, T.nHistory_held, (by show 0 < 1000; decide), ?_⟩
    refine ⟨_, rfl, _, rfl, p, T.CHistory, dx, _, rfl, upd_same, T.clHistory, T.nHistory_ends, (by show 1 < 1000; decide), ?_⟩
    rw [upd_upd]
    refine fun kn hkn => ?_
    have npk : p ≠ kn := ne_of_none upd_same hkn
    have hkn1 : H1 kn = none := by rwa [upd_ne npk.symm] at hkn
    refine ⟨_, rfl, p, T.CHistory, dx, [("held", .ref st), ("ends", .ref e)], rfl, by rw [upd_ne npk, upd_same]; rfl, T.clHistory, T.nHistory_known, (by show 2 < 1000; decide), fun dd hdd => ?_⟩
    have npd : p ≠ dd := ne_of_none upd_same hdd
    have nkd : kn ≠ dd := fun z => by
      rw [← z, upd_ne npk.symm, upd_same] at hdd
      cases hdd
    refine ⟨_, rfl, p, T.CHistory, dx, [("held", .ref st), ("ends", .ref e), ("known", .ref kn)], rfl, by rw [upd_ne npd, upd_same]; rfl, T.clHistory, T.nHistory_depths, (by show 3 < 1000; decide), ?_⟩
    refine k _ kn dd (s1.free hkn1) ?_ ?_ fun b o e hb => ?_
    · rw [upd_same]
      rfl
    · rw [upd_ne npk.symm, upd_ne nkd, upd_ne npk.symm, upd_same]
    · have e1 := s1 _ _ e
      have nbk : b ≠ kn := ne_of_none e1 hkn1
      have nbd : b ≠ dd := fun z => by
        rw [← z, upd_ne hb, upd_ne nbk, upd_ne hb, e1] at hdd
        cases hdd
      rw [upd_ne hb, upd_ne nbd, upd_ne hb, upd_ne nbk, upd_ne hb]
      exact e1
/-! ### below -/
@[irreducible] def spBelow (T : W K mg) : Sp := fun vs H Q _ => ∃ (ex : Bool) (g : Gr) (h st kd e kn : Addr) (ks : List (Str × V)) (n : Str), vs = [.ref h, .str n] ∧ HistAt T H g h st kd e kn ∧ g.Ok ∧ KnowsAt ex H g kn ks ∧ kd ≠ kn ∧ n ∈ g.ns ∧
  (∀ d, valV ks n = some (.ref d) → Q (.ref d) H) ∧
  (valV ks n = none → ∀ (H' : Hp) (d : Addr), But kn H H' → KnowsAt ex H' g kn (ks ++ [(n, V.ref d)]) → Q (.ref d) H')
theorem sc_below : FnScope ["self", "name"] ["self", "name"] (defScope s_History_below) := ⟨rfl, rfl, rfl, by decide +kernel, rfl, by decide +kernel, by decide +kernel⟩
theorem ok_below (T : W K mg) : FnOk P w K mg base CX0 5 T.a_History_below T.d_History_below ["self", "name"] (spBelow T) := by
  have b0 := T.F_commit_of.binds (ps := ["store", "name"]) fun _ _ _ _ _ _ us hl => match us, hl with | [_, _], _ => rfl
  have b1 := T.F_History_searched.binds (ps := ["self", "starts"]) fun _ _ _ _ _ _ us hl => match us, hl with | [_, _], _ => rfl
  refine T.F_History_below.ok sc_below (fun vs H Q E h => ?_) (fun cdv A outer s H vs Q E hr h => ?_)
  · unfold spBelow at h
    obtain ⟨ex, g, h, st, kd, e, kn, ks, n, rfl, _⟩ := h
    rfl
  · unfold spBelow at h
    obtain ⟨ex, g, h, st, kd, e, kn, ks, n, rfl, hh, o, hk, ne, hn, k1, k2⟩ := h
    have hu := hu_of hr
    refine ⟨_, pss_cons (ps_expr (pe_call (ok_commit_of T) (hr.mono (by decide)) rfl T.g_commit_of T.F_commit_of.kp b0 .nil pass0 (pa_cons (pe_fld (pv 0) rfl) (pa_cons (pv 1) pa_nil))))
      (pss_cons (ps_if (pt_cmp (pc_dnotin hu (pv 1) (pe_fld (pv 0) rfl)))
        (pss_one (ps_dput hu (pe_fld (pv 0) rfl) (pv 1) (pe_meth (pv 0) T.clHistory T.m_History_searched (ok_searched T) hr b1 .nil pass0 (pa_cons (pe_lst (pa_cons (pv 1) pa_nil)) pa_nil)) rfl)) pss_nil)
      (pss_one (ps_ret (pe_dget hu (pe_fld (pv 0) rfl) (pv 1) fun _ _ => rfl)))), ?_⟩
    obtain ⟨dx, dd, hi⟩ := hh.ins
    obtain ⟨kvs, hkd, hkv⟩ := hh.kept
    obtain ⟨a, c, z1, z2, _⟩ := hkv n hn
    refine ⟨_, rfl, h, T.CHistory, dx, _, _, rfl, hi, T.clHistory, T.nHistory_held, rfl, _, rfl, st, kd, kvs, n, a, c, rfl, hh.st, hkd, z1, z2, ?_⟩
    refine ⟨_, rfl, _, rfl, h, T.CHistory, dx, _, _, rfl, hi, T.clHistory, T.nHistory_known, rfl, kn, _, rfl, DGet.k (k := Sum.inr n) hk.at_, _, rfl, ?_⟩
    rw [valV_inK]
    cases ev : valV ks n with
    | some v =>
      obtain ⟨d, fs, rfl, _⟩ := hk.get ev
      refine iteF ⟨_, rfl, h, T.CHistory, dx, _, _, rfl, hi, T.clHistory, T.nHistory_known, rfl, _, rfl, kn, _, rfl, ?_, k1 d ev⟩
      have z := DGet.k (k := Sum.inr n) hk.at_
      rw [valV_inK, ev] at z
      exact z
    | none =>
      refine iteT ⟨_, rfl, h, dx, _, rfl, hi, rfl, _, rfl, (by show 1 ≤ sizeLine; decide), fun l hl => ?_⟩
      have s1 : Same H (upd H l (.lst [.str n])) := same_new hl
      refine ⟨g, h, st, kd, e, kn, l, [n], rfl, hh.same s1, o, upd_same, (by show 1 ≤ 15; decide), fun s hs => List.mem_singleton.mp hs ▸ hn, fun H1 d fs s2 hd h1 nd re => ?_⟩
      have s3 := s1.trans s2
      have ndk : d ≠ kn := (ne_of_none (s1 _ _ hk.at_) hd).symm
      have hi1 := s3 _ _ hi
      have few : (ks.map inK).length < sizeLine := by
        rw [List.length_map]
        exact Nat.lt_of_le_of_lt (hk.few o) (by decide)
      refine ⟨_, rfl, h, T.CHistory, dx, _, _, rfl, hi1, T.clHistory, T.nHistory_known, rfl, _, rfl, kn, _, rfl, DPut.k (k := Sum.inr n) (s3 _ _ hk.at_) few, ?_⟩
      have no2 : valV (ks.map inK) (Sum.inr n) = none := by rw [valV_inK, ev]
      rw [putK_new _ no2]
      have bt : But kn H (upd H1 kn (.dK (ks.map inK ++ [(Sum.inr n, V.ref d)]))) := fun b u q hb => by
        rw [upd_ne hb]
        exact s3 _ _ q
      have kw : KnowsAt ex (upd H1 kn (.dK (ks.map inK ++ [(Sum.inr n, V.ref d)]))) g kn (ks ++ [(n, V.ref d)]) :=
        hk.more (fs := fs) bt hn ev (by rw [upd_same, List.map_append]; rfl) ndk (by rw [upd_ne ndk]; exact h1) nd fun x => by
          rw [re]
          exact ⟨fun ⟨s, hs, q⟩ => List.mem_singleton.mp hs ▸ q, fun q => ⟨n, List.mem_singleton.mpr rfl, q⟩⟩
      have hi2 := bt _ _ hi (ne_of hi hk.at_ (by intro z; cases z))
      refine ⟨_, rfl, h, T.CHistory, dx, _, _, rfl, hi2, T.clHistory, T.nHistory_known, rfl, _, rfl, kn, .ref d, rfl, ?_, k2 ev _ d bt kw⟩
      have z := DGet.k (k := Sum.inr n) kw.at_
      have v3 : valV ((ks ++ [(n, V.ref d)]).map inK) (Sum.inr n) = some (.ref d) := by rw [valV_inK, valV_snoc n n (V.ref d) ks ev, if_pos rfl]
      rw [v3] at z
      exact z
/-! ### check_names -/
def spCheck (T : W K mg) : Sp := fun vs H Q _ => ∃ (ex : Bool) (g : Gr) (h st kd e kn t : Addr) (ks : List (Str × V)) (ns : List Str), vs = [.ref h, .ref t] ∧ HistAt T H g h st kd e kn ∧ g.Ok ∧ KnowsAt ex H g kn ks ∧ kd ≠ kn ∧ SqT K H t (ns.map V.str) ∧ ns.length ≤ 15 ∧ (∀ n ∈ ns, n ∈ g.ns) ∧
  ∀ (H' : Hp) (ks' : List (Str × V)), But kn H H' → KnowsAt ex H' g kn ks' → (∀ n ∈ ns, (valV ks' n).isSome = true) → (∀ n, (valV ks n).isSome = true → (valV ks' n).isSome = true) → Q .non H'
theorem sc_check : FnScope ["self", "names", "name"] ["self", "names"] (defScope s_History_check_names) := ⟨rfl, rfl, rfl, by decide +kernel, rfl, by decide +kernel, by decide +kernel⟩
theorem ok_check (T : W K mg) : FnOk P w K mg base CX0 6 T.a_History_check_names T.d_History_check_names ["self", "names"] (spCheck T) := by
  have b0 := T.F_commit_of.binds (ps := ["store", "name"]) fun _ _ _ _ _ _ us hl => match us, hl with | [_, _], _ => rfl
  have b1 := T.F_History_searched.binds (ps := ["self", "starts"]) fun _ _ _ _ _ _ us hl => match us, hl with | [_, _], _ => rfl
  have b2 := T.F_History_below.binds (ps := ["self", "name"]) fun _ _ _ _ _ _ us hl => match us, hl with | [_, _], _ => rfl
  refine T.F_History_check_names.ok sc_check (fun vs H Q E h => ?_) (fun cdv A outer s H vs Q E hr h => ?_)
  · obtain ⟨ex, g, h, st, kd, e, kn, t, ks, ns, rfl, _⟩ := h
    rfl
  · obtain ⟨ex, g, h, st, kd, e, kn, t, ks, ns, rfl, hh, o, hk, ne, ht, few, hns, k⟩ := h
    have hu := hu_of hr
    have nd := sc_check.nd
    refine ⟨_, pss_cons (ps_if (pt_not (pt_val (pe_callB call_isi (by rfl) T.z_isinstance (by decide +kernel) (pa_cons (pv 1) (pa_cons (pe_bltn (v := .ty "tuple") (by rfl) T.z_tuple (by decide +kernel) rfl) pa_nil))))) (pss_one ps_never) pss_nil)
      (pss_cons (ps_for PassesOwn.never rfl (pi_tup (pv 1)) (pg_name (i := 2) nd rfl (Or.inl rfl))
        (pss_one (ps_expr (pe_call (ok_commit_of T) (hr.mono (by decide)) rfl T.g_commit_of T.F_commit_of.kp b0 .nil pass0 (pa_cons (pe_fld (pv 0) rfl) (pa_cons (pv 2) pa_nil))))))
      (pss_cons (ps_expr (pe_meth (pv 0) T.clHistory T.m_History_searched (ok_searched T) (hr.mono (by decide)) b1 .nil pass0 (pa_cons
        (pe_lc (own := [("name", 2)]) (g := gName 2) (tt := tB (tDNotIn (tVar 2) (tFld K (tVar 0) "known"))) (te := tVar 2) rfl nd (pi_tup (pv 1)) (blkOk_by (N := ["self", "names", "name"]) (sc := defScope s_History_check_names) (by decide +kernel))
          (fun _ _ _ _ _ => pg_name (i := 2) nd rfl (Or.inl rfl)) (fun _ _ _ _ _ => pts_one (pt_cmp (pc_dnotin hu (pv 2) (pe_fld (pv 0) rfl)))) (fun _ _ _ _ _ => pv 2)) pa_nil)))
      (pss_one (ps_for PassesOwn.never rfl (pi_tup (pv 1)) (pg_name (i := 2) nd rfl (Or.inl rfl))
        (pss_one (ps_expr (pe_meth (pv 0) T.clHistory T.m_History_below (ok_below T) hr b2 .nil pass0 (pa_cons (pv 2) pa_nil)))))))), ?_⟩
    obtain ⟨dx, dd, hi⟩ := hh.ins
    obtain ⟨kvs, hkd, hkv⟩ := hh.kept
    have few2 : ns.length ≤ sizeLine := Nat.le_trans few (by decide)
    refine ⟨_, rfl, _, _, _, _, true, rfl, .ty "tuple", ty_sqt ht, kit_ty (by decide +kernel), true, rfl, iteF ?_⟩
    -- for name in names: commit_of(..)
    refine ⟨_, rfl, t, rfl, ⟨_, ht⟩, for_tup (K := K) (xs := ns.map V.str) (fun i σ H' => (∃ b, σ = [some (.ref h), some (.ref t), b]) ∧ H = H') ⟨⟨_, rfl⟩, rfl⟩ (fun i σ H' _ q => by rw [← q.2]; exact ht) ?_ ?_⟩
    · rintro i v σ H' hv ⟨⟨b, rfl⟩, rfl⟩
      rw [List.getElem?_map] at hv
      obtain ⟨n, hn, rfl⟩ := Option.map_eq_some_iff.mp hv
      obtain ⟨a, c, z1, z2, _⟩ := hkv n (hns n (List.mem_of_getElem? hn))
      exact ⟨_, rfl, h, T.CHistory, dx, _, _, rfl, hi, T.clHistory, T.nHistory_held, rfl, _, rfl, st, kd, kvs, n, a, c, rfl, hh.st, hkd, z1, z2, ⟨_, rfl⟩, rfl⟩
    rintro σ H' ⟨⟨b, rfl⟩, rfl⟩
    -- self.searched([..])
    refine ⟨_, rfl, h, dx, _, rfl, hi, rfl, _, rfl, t, rfl, ⟨_, ht⟩, fun D hD => lc_fmT (K := K) ns V.str (fun x => !(valV ks x).isSome) V.str ht few2 hD ?_ ?_⟩
    · intro x hx H1 B C s1 hB hC
      have z := DGet.k (k := Sum.inr x) (s1 _ _ hk.at_)
      rw [valV_inK] at z
      refine ⟨rfl, _, rfl, _, rfl, h, T.CHistory, dx, _, _, rfl, s1 _ _ hi, T.clHistory, T.nHistory_known, rfl, kn, _, rfl, z, _, rfl, ?_⟩
      exact ite2 (fun q => ⟨_, rfl, hB q _ (Same.refl _)⟩) fun q => hC (Bool.eq_false_iff.mpr q) _ (Same.refl _)
    rintro H1 s1 hd
    refine ⟨g, h, st, kd, e, kn, D, ns.filter fun x => !(valV ks x).isSome, rfl, hh.same s1, o, hd, Nat.le_trans (List.length_filter_le _ _) few, fun s hs => hns s (List.mem_filter.mp hs).1, fun H2 d fs s2 _ _ _ _ => ?_⟩
    have s3 := s1.trans s2
    -- for name in names: self.below(name)
    refine ⟨_, rfl, t, rfl, ⟨_, sqt_same s3 ht⟩, for_tup (K := K) (xs := ns.map V.str) (fun i σ H' => (∃ b, σ = [some (.ref h), some (.ref t), b]) ∧ ∃ ks', But kn H H' ∧ KnowsAt ex H' g kn ks' ∧ (∀ j n, j < i → ns[j]? = some n → (valV ks' n).isSome = true) ∧ ∀ n, (valV ks n).isSome = true → (valV ks' n).isSome = true)
      ⟨⟨_, rfl⟩, ks, Same.but s3, hk.same s3, (fun j n hj => absurd hj (Nat.not_lt_zero _)), fun n q => q⟩ (fun i σ H' _ q => let ⟨_, _, bt, _⟩ := q; but_sqt hk.at_ bt ht) ?_ ?_⟩
    · rintro i v σ H3 hv ⟨⟨b, rfl⟩, ks', bt, kw, done, mono⟩
      rw [List.getElem?_map] at hv
      obtain ⟨n, hn, rfl⟩ := Option.map_eq_some_iff.mp hv
      refine ⟨_, rfl, h, dx, _, rfl, bt _ _ hi (ne_of hi hk.at_ (by intro z; cases z)), rfl, _, rfl, ?_⟩
      unfold spBelow
      refine ⟨ex, g, h, st, kd, e, kn, ks', n, rfl, hh.but ne hk.at_ bt, o, kw, ne, hns n (List.mem_of_getElem? hn), fun d ev => ?_, fun ev H4 d bt2 kw2 => ?_⟩
      · refine ⟨⟨_, rfl⟩, ks', bt, kw, fun j m hj hm => ?_, mono⟩
        rcases Nat.lt_or_ge j i with q | q
        · exact done j m q hm
        · obtain rfl : j = i := by omega
          rw [hn] at hm
          cases hm
          rw [ev]
          rfl
      · have up : ∀ m, (valV ks' m).isSome = true → (valV (ks' ++ [(n, V.ref d)]) m).isSome = true := fun m q => by
          rw [valV_snoc n m _ ks' ev]
          split
          · rfl
          · exact q
        refine ⟨⟨_, rfl⟩, _, bt.trans bt2, kw2, fun j m hj hm => ?_, fun m q => up m (mono m q)⟩
        rcases Nat.lt_or_ge j i with q | q
        · exact up m (done j m q hm)
        · obtain rfl : j = i := by omega
          rw [hn] at hm
          cases hm
          rw [valV_snoc n n _ ks' ev, if_pos rfl]
          rfl
    · rintro σ H3 ⟨⟨b, rfl⟩, ks', bt, kw, done, mono⟩
      refine k H3 ks' bt kw (fun n hn => ?_) mono
      obtain ⟨j, hj⟩ := List.getElem?_of_mem hn
      refine done j n ?_ hj
      rw [List.length_map]
      exact (List.getElem?_eq_some_iff.mp hj).1
end
end K65

set_option maxHeartbeats 200000
/-! K65Past: a history that knows the commits of S; parted. -/
namespace K65
open PySem L2
section
variable {P : Program} {w : World} {K : PySem.W.Frag} {mg : Str → Option Value} {base : Heap}
/-- where a history's things stand, and what it knows -/
structure Ads where
  h : Addr
  st : Addr
  kd : Addr
  e : Addr
  kn : Addr
  ks : List (Str × V)
structure PastAt (T : W K mg) (ex : Bool) (H : Hp) (g : Gr) (A : Ads) (S : List Str) : Prop where
  hist : HistAt T H g A.h A.st A.kd A.e A.kn
  ok : g.Ok
  kw : KnowsAt ex H g A.kn A.ks
  ne : A.kd ≠ A.kn
  sub : ∀ n ∈ S, n ∈ g.ns
  has : ∀ n ∈ S, (valV A.ks n).isSome = true
theorem PastAt.same {T : W K mg} {ex : Bool} {H H' : Hp} {g : Gr} {A : Ads} {S : List Str} (x : PastAt T ex H g A S) (s : Same H H') : PastAt T ex H' g A S := ⟨x.hist.same s, x.ok, x.kw.same s, x.ne, x.sub, x.has⟩
theorem PastAt.part {T : W K mg} {ex : Bool} {H : Hp} {g : Gr} {A : Ads} {S S' : List Str} (x : PastAt T ex H g A S) (h : ∀ n ∈ S', n ∈ S) : PastAt T ex H g A S' := ⟨x.hist, x.ok, x.kw, x.ne, fun n hn => x.sub n (h n hn), fun n hn => x.has n (h n hn)⟩
theorem PastAt.loose {T : W K mg} {ex : Bool} {H : Hp} {g : Gr} {A : Ads} {S : List Str} (x : PastAt T ex H g A S) : PastAt T false H g A S :=
  ⟨x.hist, x.ok, ⟨x.kw.at_, x.kw.nd, x.kw.in_, fun p hp => let ⟨d, fs, z1, z2, z3, z4⟩ := x.kw.rd p hp; ⟨d, fs, z1, z2, z3.rd, z4⟩⟩, x.ne, x.sub, x.has⟩
/-- what may be written while a history only answers -/
def Loose : HO → Prop
  | .lst _ => True
  | .dT _ => True
  | _ => False
theorem loose_ins {C dx : Addr} {fs : List (Str × V)} {u : HO} (h : Loose u) : HO.ins C dx fs ≠ u := fun e => by
  rw [← e] at h
  exact h
theorem loose_tup {xs : List V} {u : HO} (h : Loose u) : HO.tup xs ≠ u := fun e => by
  rw [← e] at h
  exact h
theorem loose_frz {o : Obj} {v u : HO} (h : Loose u) : HO.frz o v ≠ u := fun e => by
  rw [← e] at h
  exact h
theorem loose_dK {kvs : List (Key × V)} {u : HO} (h : Loose u) : HO.dK kvs ≠ u := fun e => by
  rw [← e] at h
  exact h
theorem lo_sqt {k : Addr} {H H' : Hp} {a : Addr} {xs : List V} {u : HO} (hk : H k = some u) (lo : Loose u) (s : But k H H') (h : SqT K H a xs) : SqT K H' a xs := by
  rcases h with (h | ⟨o, h⟩) | h
  · exact .inl (.inl (s _ _ h (ne_of h hk (loose_tup lo))))
  · exact .inl (.inr ⟨o, s _ _ h (ne_of h hk (loose_frz lo))⟩)
  · exact .inr h
theorem lo_commit {T : W K mg} {k : Addr} {H H' : Hp} {a : Addr} {c : Cm} {u : HO} (hk : H k = some u) (lo : Loose u) (s : But k H H') (h : CommitAt T H a c) : CommitAt T H' a c :=
  let ⟨dx, t, p, h1, h2, h3⟩ := h
  ⟨dx, t, p, s _ _ h1 (ne_of h1 hk (loose_ins lo)), s _ _ h2 (ne_of h2 hk (loose_tup lo)), lo_sqt hk lo s h3⟩
theorem PastAt.but {T : W K mg} {ex : Bool} {k : Addr} {H H' : Hp} {g : Gr} {A : Ads} {S : List Str} {u : HO} (x : PastAt T ex H g A S) (hk : H k = some u) (lo : Loose u) (s : But k H H') : PastAt T ex H' g A S := by
  obtain ⟨⟨⟨dx, dd, z⟩, ⟨dy, q⟩, v, ls, y, f⟩, ok, kw, ne, sub, has⟩ := x
  refine ⟨⟨⟨dx, dd, s _ _ z (ne_of z hk (loose_ins lo))⟩, ⟨dy, s _ _ q (ne_of q hk (loose_ins lo))⟩, lo_sqt hk lo s v, ls, s _ _ y (ne_of y hk (loose_dK lo)), fun n hn => let ⟨a, c, z1, z2, z3⟩ := f n hn; ⟨a, c, z1, lo_commit hk lo s z2, z3⟩⟩, ok,
    ⟨s _ _ kw.at_ (ne_of kw.at_ hk (loose_dK lo)), kw.nd, kw.in_, fun p hp => ?_⟩, ne, sub, has⟩
  obtain ⟨d, fs, z1, z2, z3, z4⟩ := kw.rd p hp
  refine ⟨d, fs, z1, z2, ?_, z4⟩
  cases ex with
  | true => exact s _ _ z3 (ne_of z3 hk (loose_dK lo))
  | false => exact z3.elim (fun h => .inl (s _ _ h (ne_of h hk (loose_dK lo)))) fun ⟨o, h⟩ => .inr ⟨o, s _ _ h (ne_of h hk (loose_frz lo))⟩
/-- below a commit that is known: the heap as it is -/
theorem below_known {T : W K mg} {ex : Bool} {H : Hp} {g : Gr} {A : Ads} {S : List Str} {n : Str} {Q : VK} {E : XK} (x : PastAt T ex H g A S) (hn : n ∈ S)
    (k : ∀ (d : Addr) (fs : List Str), RdX ex H d (.dK (fs.map tr)) → fs.Nodup → (∀ y, y ∈ fs ↔ RB g n y = true) → valV A.ks n = some (.ref d) → Q (.ref d) H) : spBelow T [.ref A.h, .str n] H Q E := by
  unfold spBelow
  refine ⟨ex, g, A.h, A.st, A.kd, A.e, A.kn, A.ks, n, rfl, x.hist, x.ok, x.kw, x.ne, x.sub n hn, fun d hd => ?_, fun no => ?_⟩
  · obtain ⟨d', fs, e, _, rd, nd, re⟩ := x.kw.get hd
    cases e
    exact k d fs rd nd (fun y => (re y).trans rb_iff.symm) hd
  · have z := x.has n hn
    rw [no] at z
    cases z
/-- y in it -/
theorem dget_tr {ex : Bool} {H : Hp} {d : Addr} {fs : List Str} {g : Gr} {n y : Str} (rd : RdX ex H d (.dK (fs.map tr))) (re : ∀ y, y ∈ fs ↔ RB g n y = true) : ∃ o, DGet H d (.str y) o ∧ o.isSome = RB g n y := by
  refine ⟨_, .inl ⟨_, Sum.inr y, rd.rd, rfl, rfl⟩, ?_⟩
  rw [valV_tr]
  by_cases h : y ∈ fs
  · rw [if_pos h, (re y).mp h]
    rfl
  · rw [if_neg h]
    cases e : RB g n y with
    | true => exact absurd ((re y).mpr e) h
    | false => rfl
theorem inV_strs (x : Str) (xs : List Str) : inV (.str x) (xs.map V.str) = decide (x ∈ xs) := by
  unfold inV
  induction xs with
  | nil => rfl
  | cons a r ih =>
    rw [List.map_cons, List.any_cons, ih]
    by_cases e : a = x
    · subst e
      simp [eqV]
    · have e' : ¬ x = a := fun z => e z.symm
      simp [eqV, e, e']
theorem flat_strs (xs : List Str) : (xs.map V.str).all flatV = true := by
  rw [List.all_eq_true]
  intro v hv
  obtain ⟨x, _, rfl⟩ := List.mem_map.mp hv
  rfl
/-! ### parted -/
def spParted (T : W K mg) : Sp := fun vs H Q _ => ∃ (ex : Bool) (g : Gr) (A : Ads) (U S : List Str) (n : Str) (t : Addr), vs = [.ref A.h, .ref t, .str n] ∧ PastAt T ex H g A U ∧ n ∈ U ∧ SqT K H t (S.map V.str) ∧ S.length ≤ 15 ∧
  ((badOf (RB g) S n).length = S.length → ∀ H', Same H H' → Q .non H') ∧
  ((badOf (RB g) S n).length ≠ S.length → ∀ (H' : Hp) (p b c : Addr), Same H H' → H' p = some (.tup [.ref b, .ref c]) → H' b = some (.tup ((badOf (RB g) S n).map V.str)) → H' c = some (.tup ((goodOf (RB g) S n).map V.str)) → Q (.ref p) H')
theorem sc_parted : FnScope ["history", "some", "name", "bad", "one"] ["history", "some", "name"] (defScope s_parted) := ⟨rfl, rfl, rfl, by decide +kernel, rfl, by decide +kernel, by decide +kernel⟩
theorem ok_parted (T : W K mg) : FnOk P w K mg base CX0 6 T.a_parted T.d_parted ["history", "some", "name"] (spParted T) := by
  have b0 := T.F_History_below.binds (ps := ["self", "name"]) fun _ _ _ _ _ _ us hl => match us, hl with | [_, _], _ => rfl
  refine T.F_parted.ok sc_parted (fun vs H Q E h => ?_) (fun cdv A0 outer s H vs Q E hr h => ?_)
  · obtain ⟨ex, g, A, U, S, n, t, rfl, _⟩ := h
    rfl
  · obtain ⟨ex, g, A, U, S, n, t, rfl, x, hn, ht, few, k1, k2⟩ := h
    have hu := hu_of hr
    have nd := sc_parted.nd
    refine ⟨_, pss_cons (ps_set (i := 3) nd rfl (Or.inr rfl) (pe_callTy call_tuple_of (by rfl) T.z_tuple (by decide +kernel) (pa_cons
        (pe_lc (own := [("one", 4)]) (g := gName 4) (tt := tB (tDIn (tVar 4) (tMeth T.CHistory "below" (spBelow T) [] E0 (tVar 0) (tCons (tVar 2) tNil)))) (te := tVar 4) rfl nd (pi_tup (pv 1)) (blkOk_by (N := ["history", "some", "name", "bad", "one"]) (sc := defScope s_parted) (by decide +kernel))
          (fun _ _ _ _ _ => pg_name (i := 4) nd rfl (Or.inl rfl)) (fun _ _ _ _ _ => pts_one (pt_cmp (pc_din hu (pv 4) (pe_meth (pv 0) T.clHistory T.m_History_below (ok_below T) hr b0 .nil pass0 (pa_cons (pv 2) pa_nil))))) (fun _ _ _ _ _ => pv 4)) pa_nil)))
      (pss_one (ps_ret (pe_ifExp (pt_cmpR op_eq (pe_callB call_len_seq (by rfl) T.z_len PySem.boot_len (pa_cons (pv 3) pa_nil)) (pe_callB call_len_seq (by rfl) T.z_len PySem.boot_len (pa_cons (pv 1) pa_nil)) (nomark _)) pe_non
        (pe_tup (pa_cons (pv 3) (pa_cons (pe_callTy call_tuple_of (by rfl) T.z_tuple (by decide +kernel) (pa_cons
          (pe_lc (own := [("one", 4)]) (g := gName 4) (tt := tTest (tOp (rIn K true) (tVar 4) (tVar 3))) (te := tVar 4) rfl nd (pi_tup (pv 1)) (blkOk_by (N := ["history", "some", "name", "bad", "one"]) (sc := defScope s_parted) (by decide +kernel))
            (fun _ _ _ _ _ => pg_name (i := 4) nd rfl (Or.inl rfl)) (fun _ _ _ _ _ => pts_one (pt_cmpR op_notIn_seq (pv 4) (pv 3) rfl)) (fun _ _ _ _ _ => pv 4)) pa_nil)) pa_nil)))))), ?_⟩
    obtain ⟨dx, dd, hi⟩ := x.hist.ins
    have few2 : S.length ≤ sizeLine := Nat.le_trans few (by decide)
    -- bad = ..
    refine ⟨_, rfl, t, rfl, ⟨_, ht⟩, fun D hD => lc_fmT (K := K) S V.str (RB g n) V.str ht few2 hD ?_ ?_⟩
    · intro y hy H1 B C s1 hB hC
      refine ⟨rfl, _, rfl, _, rfl, A.h, dx, _, rfl, s1 _ _ hi, rfl, _, rfl, below_known (x.same s1) hn fun d fs rd _ re _ => ?_⟩
      obtain ⟨o, g1, g2⟩ := dget_tr (y := y) rd re
      refine ⟨d, o, rfl, g1, _, rfl, ?_⟩
      rw [g2]
      exact ite2 (fun q => ⟨_, rfl, hB q _ (Same.refl _)⟩) fun q => hC (Bool.eq_false_iff.mpr q) _ (Same.refl _)
    rintro H1 s1 hd
    refine ⟨D, _, rfl, .inl ⟨SqL.of hd, fun b hb => ?_⟩⟩
    have s2 : Same H (upd H1 b (.tup ((badOf (RB g) S n).map V.str))) := s1.trans (same_new hb)
    have h2 : (upd H1 b (.tup ((badOf (RB g) S n).map V.str))) b = some (.tup ((badOf (RB g) S n).map V.str)) := upd_same
    have ht2 := sqt_same s2 ht
    refine ⟨_, rfl, b, _, rfl, .inr (.inl (.inl h2)), _, rfl, t, _, rfl, .inr ht2, rfl, _, rfl, ?_⟩
    rw [List.length_map, List.length_map]
    by_cases e : (badOf (RB g) S n).length = S.length
    · rw [show decide (V.int ((badOf (RB g) S n).length : Nat) = V.int (S.length : Nat)) = true from decide_eq_true (by rw [e])]
      exact iteT (k1 e _ s2)
    · rw [show decide (V.int ((badOf (RB g) S n).length : Nat) = V.int (S.length : Nat)) = false from decide_eq_false fun z => e (by injection z with z; omega)]
      refine iteF ⟨_, rfl, _, rfl, t, rfl, ⟨_, ht2⟩, fun D2 hD2 => lc_fmT (K := K) S V.str (fun y => !decide (y ∈ badOf (RB g) S n)) V.str ht2 few2 hD2 ?_ ?_⟩
      · intro y hy H3 B C s3 hB hC
        refine ⟨rfl, _, rfl, _, rfl, b, _, rfl, .inr (.inl (.inl (s3 _ _ h2))), rfl, flat_strs _, _, rfl, ?_⟩
        rw [inV_strs]
        exact ite2 (fun q => ⟨_, rfl, hB q _ (Same.refl _)⟩) fun q => hC (Bool.eq_false_iff.mpr q) _ (Same.refl _)
      rintro H3 s3 hd3
      have eg : S.filter (fun y => !decide (y ∈ badOf (RB g) S n)) = goodOf (RB g) S n := List.filter_congr fun y hy => by
        cases q : RB g n y with
        | true => rw [decide_eq_true (mem_bad.mpr ⟨hy, q⟩)]
        | false => rw [decide_eq_false fun z => by rw [(mem_bad.mp z).2] at q; cases q]
      rw [eg] at hd3
      refine ⟨D2, _, rfl, .inl ⟨SqL.of hd3, fun c hc => ⟨(by show 2 ≤ sizeLine; decide), fun p hp => ?_⟩⟩⟩
      have s4 : Same H3 (upd H3 c (.tup ((goodOf (RB g) S n).map V.str))) := same_new hc
      have s5 := same_new (o := .tup [.ref b, .ref c]) hp
      exact k2 e _ p b c (((s2.trans s3).trans s4).trans s5) upd_same (s5 _ _ (s4 _ _ (s3 _ _ h2))) (s5 _ _ upd_same)
end
end K65

set_option maxHeartbeats 200000
/-! K65Known: what solve knows: rows of sets, their least depth, a test. -/
namespace K65
open PySem L2
structure Row where
  key : List Str
  ad : Addr
  d : Nat
  n : Str
def keysOf (kv : List Row) : List (List Str) := kv.map Row.key
/-- one commit, or known -/
def Kn (kv : List Row) (S : List Str) : Prop := S.length = 1 ∨ S ∈ keysOf kv
structure KOk (R : Str → Str → Bool) (T0 : List Str) (kv : List Row) : Prop where
  nd : (keysOf kv).Nodup
  sub : ∀ r ∈ kv, r.key.Sublist T0
  two : ∀ r ∈ kv, 2 ≤ r.key.length
  min : ∀ r ∈ kv, IsMin R r.key r.d
  tst : ∀ r ∈ kv, IsTest R r.key r.n
  dep : ∀ r ∈ kv, ∃ d1 d2, IsMin R (badOf R r.key r.n) d1 ∧ IsMin R (goodOf R r.key r.n) d2 ∧ r.d = 1 + max d1 d2
  cl : ∀ r ∈ kv, ∀ m, IsTest R r.key m → Kn kv (badOf R r.key m) ∧ Kn kv (goodOf R r.key m)
theorem KOk.nil {R : Str → Str → Bool} {T0 : List Str} : KOk R T0 [] := ⟨.nil, (fun _ h => by cases h), (fun _ h => by cases h), (fun _ h => by cases h), (fun _ h => by cases h), (fun _ h => by cases h), (fun _ h => by cases h)⟩
def subs {α : Type} : List α → List (List α)
  | [] => [[]]
  | a :: t => subs t ++ (subs t).map (a :: ·)
theorem subs_len {α : Type} : ∀ T : List α, (subs T).length = 2 ^ T.length
  | [] => rfl
  | a :: t => by
    show (subs t ++ (subs t).map (a :: ·)).length = 2 ^ (t.length + 1)
    rw [List.length_append, List.length_map, subs_len t, Nat.pow_succ]
    omega
theorem subs_mem {α : Type} {s T : List α} (h : s.Sublist T) : s ∈ subs T := by
  induction h with
  | slnil => exact List.mem_singleton.mpr rfl
  | cons a _ ih => exact List.mem_append_left _ ih
  | cons_cons a _ ih => exact List.mem_append_right _ (List.mem_map_of_mem ih)
theorem KOk.few {R : Str → Str → Bool} {T0 : List Str} {kv : List Row} (o : KOk R T0 kv) (h : T0.length ≤ 12) : kv.length ≤ 4096 := by
  have z := nodup_len (m := subs T0) o.nd fun x hx => by
    obtain ⟨r, hr, rfl⟩ := List.mem_map.mp hx
    exact subs_mem (o.sub r hr)
  rw [subs_len] at z
  have e : (keysOf kv).length = kv.length := List.length_map ..
  rw [e] at z
  exact Nat.le_trans z (Nat.pow_le_pow_right (by decide : 1 ≤ 2) h)
theorem kn_mono {kv kv' : List Row} {S : List Str} (h : ∀ r ∈ kv, r ∈ kv') (k : Kn kv S) : Kn kv' S := by
  rcases k with k | k
  · exact .inl k
  · obtain ⟨r, hr, e⟩ := List.mem_map.mp k
    exact .inr (List.mem_map.mpr ⟨r, h r hr, e⟩)
theorem KOk.add {R : Str → Str → Bool} {T0 : List Str} {kv : List Row} {r : Row} (o : KOk R T0 kv) (no : ¬ r.key ∈ keysOf kv) (sub : r.key.Sublist T0) (two : 2 ≤ r.key.length) (min : IsMin R r.key r.d) (tst : IsTest R r.key r.n)
    (dep : ∃ d1 d2, IsMin R (badOf R r.key r.n) d1 ∧ IsMin R (goodOf R r.key r.n) d2 ∧ r.d = 1 + max d1 d2) (cl : ∀ m, IsTest R r.key m → Kn kv (badOf R r.key m) ∧ Kn kv (goodOf R r.key m)) : KOk R T0 (kv ++ [r]) := by
  have up : ∀ x ∈ kv, x ∈ kv ++ [r] := fun x hx => List.mem_append_left _ hx
  have ca : ∀ {p : Row → Prop}, (∀ x ∈ kv, p x) → p r → ∀ x ∈ kv ++ [r], p x := fun h1 h2 x hx => (List.mem_append.mp hx).elim (h1 x) fun z => List.mem_singleton.mp z ▸ h2
  refine ⟨?_, ca o.sub sub, ca o.two two, ca o.min min, ca o.tst tst, ca o.dep dep, ca (fun x hx m hm => ?_) fun m hm => ?_⟩
  · unfold keysOf
    rw [List.map_append]
    exact nd_snoc o.nd no
  · obtain ⟨h1, h2⟩ := o.cl x hx m hm
    exact ⟨kn_mono up h1, kn_mono up h2⟩
  · obtain ⟨h1, h2⟩ := cl m hm
    exact ⟨kn_mono up h1, kn_mono up h2⟩
/-! ### as a dict -/
abbrev rowT (r : Row) : List Key × V := (r.key.map Sum.inr, .ref r.ad)
theorem inr_inj {a b : List Str} (h : (a.map Sum.inr : List Key) = b.map Sum.inr) : a = b := (List.map_inj_right fun _ _ e => Sum.inr.inj e).mp h
theorem kV_strs (S : List Str) : ((S.map Sum.inr : List Key)).map kV = S.map V.str := by
  rw [List.map_map]
  rfl
theorem valV_rows {kv : List Row} {S : List Str} : (∃ r ∈ kv, r.key = S ∧ valV (kv.map rowT) (S.map Sum.inr) = some (.ref r.ad)) ∨ (¬ S ∈ keysOf kv ∧ valV (kv.map rowT) (S.map Sum.inr) = none) := by
  induction kv with
  | nil => exact .inr ⟨(fun h => by cases h), rfl⟩
  | cons r t ih =>
    by_cases e : r.key = S
    · refine .inl ⟨r, List.mem_cons_self, e, ?_⟩
      rw [List.map_cons, valV_pos (show (rowT r).1 = S.map Sum.inr by rw [← e])]
    · rw [List.map_cons, valV_neg fun z => e (inr_inj z)]
      rcases ih with ⟨x, hx, h1, h2⟩ | ⟨h1, h2⟩
      · exact .inl ⟨x, List.mem_cons_of_mem _ hx, h1, h2⟩
      · exact .inr ⟨fun h => (List.mem_cons.mp h).elim (fun z => e z.symm) h1, h2⟩
structure KnAt (H : Hp) (k : Addr) (kv : List Row) : Prop where
  at_ : H k = some (.dT (kv.map rowT))
  rows : ∀ r ∈ kv, H r.ad = some (.tup [.int r.d, .str r.n])
theorem KnAt.same {H H' : Hp} {k : Addr} {kv : List Row} (x : KnAt H k kv) (s : Same H H') : KnAt H' k kv := ⟨s _ _ x.at_, fun r hr => s _ _ (x.rows r hr)⟩
theorem but_tup {k a : Addr} {H H' : Hp} {xs : List V} {u : HO} (hk : H k = some u) (lo : Loose u) (s : But k H H') (h : H a = some (.tup xs)) : H' a = some (.tup xs) := s _ _ h (ne_of h hk (loose_tup lo))
/-- the two parts, as solve sees them -/
theorem test_sizes {R : Str → Str → Bool} {S : List Str} {m : Str} (rf : ∀ x, R x x = true) (h : IsTest R S m) : 1 ≤ (badOf R S m).length ∧ (badOf R S m).length < S.length ∧ 1 ≤ (goodOf R S m).length ∧ (goodOf R S m).length < S.length := by
  have h1 := good_pos h
  have h2 := bad_pos (fun x _ => rf x) h.1
  have := len_split (R := R) S m
  omega
/-- the least row is the least depth -/
theorem rows_min {R : Str → Str → Bool} {S : List Str} {rs : List (Nat × Str)} {d : Nat} {n : Str} (h2 : 2 ≤ S.length) (hr : ∀ r ∈ rs, IsTest R S r.2 ∧ ∃ d1 d2, IsMin R (badOf R S r.2) d1 ∧ IsMin R (goodOf R S r.2) d2 ∧ r.1 = 1 + max d1 d2)
    (all : ∀ m, IsTest R S m → ∃ r ∈ rs, r.2 = m) (hm : (d, n) ∈ rs) (least : ∀ r ∈ rs, d ≤ r.1) : IsMin R S d := by
  obtain ⟨ht, d1, d2, m1, m2, e⟩ := hr _ hm
  refine isMin_step (by omega) ht m1 m2 e fun m hm' => ?_
  obtain ⟨r, hr', rfl⟩ := all m hm'
  obtain ⟨_, e1, e2, q1, q2, q3⟩ := hr r hr'
  exact ⟨e1, e2, q1, q2, q3 ▸ least r hr'⟩
end K65

set_option maxHeartbeats 200000
/-! K65Solve: solve. -/
namespace K65
open PySem L2
section
variable {P : Program} {w : World} {K : PySem.W.Frag} {mg : Str → Option Value} {base : Heap}
/-- what a call of solve stands on -/
structure SolveIn (T : W K mg) (ex : Bool) (H : Hp) (g : Gr) (A : Ads) (U T0 S : List Str) (t k : Addr) (kv : List Row) : Prop where
  past : PastAt T ex H g A U
  sub : ∀ n ∈ S, n ∈ U
  one : 1 ≤ S.length
  at_ : H t = some (.tup (S.map V.str))
  kn : KnAt H k kv
  ok : KOk (RB g) T0 kv
  sl : S.Sublist T0
  nd : T0.Nodup
  few : T0.length ≤ 12
def spSolve (T : W K mg) (m : Nat) : Sp := fun vs H Q _ => ∃ (ex : Bool) (g : Gr) (A : Ads) (U T0 S : List Str) (t k : Addr) (kv : List Row), vs = [.ref A.h, .ref t, .ref k] ∧ SolveIn T ex H g A U T0 S t k kv ∧ S.length ≤ m ∧
  ∀ (H' : Hp) (d : Nat) (kv' : List Row), But k H H' → KnAt H' k kv' → KOk (RB g) T0 kv' → (∀ r ∈ kv, r ∈ kv') → (∀ r ∈ kv', r ∈ kv ∨ r.key.length ≤ S.length) → IsMin (RB g) S d → Kn kv' S → Q (.int d) H'
theorem sc_solve : FnScope ["history", "some", "known", "rows", "name", "sets", "one"] ["history", "some", "known"] (defScope s_solve) := ⟨rfl, rfl, rfl, by decide +kernel, rfl, by decide +kernel, by decide +kernel⟩
/-- the rows' turns -/
structure Turns (g : Gr) (T0 S : List Str) (H0 H' : Hp) (k l : Addr) (kv kv' : List Row) (i : Nat) (rs : List (Addr × Nat × Str)) : Prop where
  bt : But k H0 H'
  kn : KnAt H' k kv'
  ok : KOk (RB g) T0 kv'
  mono : ∀ r ∈ kv, r ∈ kv'
  small : ∀ r ∈ kv', r ∈ kv ∨ r.key.length < S.length
  at_ : H' l = some (.lst (rs.map fun r => .ref r.1))
  len : rs.length ≤ i
  obj : ∀ r ∈ rs, H' r.1 = some (.tup [.int r.2.1, .str r.2.2])
  good : ∀ r ∈ rs, IsTest (RB g) S r.2.2 ∧ ∃ d1 d2, IsMin (RB g) (badOf (RB g) S r.2.2) d1 ∧ IsMin (RB g) (goodOf (RB g) S r.2.2) d2 ∧ r.2.1 = 1 + max d1 d2
  all : ∀ j m, j < i → S[j]? = some m → IsTest (RB g) S m → (∃ r ∈ rs, r.2.2 = m) ∧ Kn kv' (badOf (RB g) S m) ∧ Kn kv' (goodOf (RB g) S m)
theorem but_refl (k : Addr) (H : Hp) : But k H H := fun _ _ e _ => e
abbrev rowD (r : Addr × Nat × Str) : PyData := .tuple [.int r.2.1, .str r.2.2]
theorem rowsD_alike (rs : List (Addr × Nat × Str)) : W.AlikeAll (rs.map rowD) := by
  refine ⟨fun x hx y hy => ?_, fun x hx => ?_⟩
  · obtain ⟨a, _, rfl⟩ := List.mem_map.mp hx
    obtain ⟨b, _, rfl⟩ := List.mem_map.mp hy
    simp [W.alike, W.alikeAll]
  · obtain ⟨a, _, rfl⟩ := List.mem_map.mp hx
    intro z
    cases z
theorem rowsD_deep : ∀ rs : List (Addr × Nat × Str), PyData.depthAll (rs.map rowD) ≤ 8
  | [] => by simp [PyData.depthAll]
  | r :: t => by
    have := rowsD_deep t
    simp only [List.map_cons, PyData.depthAll, PyData.depth]
    omega
theorem rowsD_dp {K : PySem.W.Frag} {H : Hp} : ∀ {rs : List (Addr × Nat × Str)}, (∀ r ∈ rs, H r.1 = some (.tup [.int r.2.1, .str r.2.2])) → DpAll K H (rs.map fun r => .ref r.1) (rs.map rowD)
  | [], _ => .nil
  | r :: t, h => .cons (.tup (.inl (.inl (h r List.mem_cons_self))) (.cons (.int _) (.cons (.str _) .nil))) (rowsD_dp fun x hx => h x (List.mem_cons_of_mem _ hx))
theorem ok_solve (T : W K mg) : ∀ m : Nat, FnOk P w K mg base CX0 (7 + m) T.a_solve T.d_solve ["history", "some", "known"] (spSolve T m) := by
  have b0 := T.F_parted.binds (ps := ["history", "some", "name"]) fun _ _ _ _ _ _ us hl => match us, hl with | [_, _, _], _ => rfl
  have b1 := T.F_solve.binds (ps := ["history", "some", "known"]) fun _ _ _ _ _ _ us hl => match us, hl with | [_, _, _], _ => rfl
  intro m
  induction m with
  | zero =>
    refine T.F_solve.ok (k := 6) sc_solve (fun vs H Q E h => ?_) (fun cdv A0 outer s H vs Q E hr h => ?_)
    · obtain ⟨ex, g, A, U, T0, S, t, k, kv, rfl, _⟩ := h
      rfl
    · obtain ⟨ex, g, A, U, T0, S, t, k, kv, rfl, x, hz, _⟩ := h
      have := x.one
      omega
  | succ m ih =>
    refine T.F_solve.ok (k := 7 + m) sc_solve (fun vs H Q E h => ?_) (fun cdv A0 outer s H vs Q E hr h => ?_)
    · obtain ⟨ex, g, A, U, T0, S, t, k, kv, rfl, _⟩ := h
      rfl
    · obtain ⟨ex, g, A, U, T0, S, t, k, kv, rfl, x, hz, fin⟩ := h
      have hu := hu_of hr
      have nd := sc_solve.nd
      refine ⟨_, pss_cons (ps_if (pt_cmpR op_eq (pe_callB call_len_seq (by rfl) T.z_len PySem.boot_len (pa_cons (pv 1) pa_nil)) pe_int (nomark _)) (pss_one (ps_ret pe_int)) pss_nil)
        (pss_cons (ps_if (pt_cmp (pc_dnotin hu (pv 1) (pv 2)))
          (pss_cons (ps_set (i := 3) nd rfl (Or.inl rfl) (pe_lst pa_nil))
          (pss_cons (ps_for PassesOwn.never rfl (pi_tup (pv 1)) (pg_name (i := 4) nd rfl (Or.inl rfl))
            (pss_cons (ps_set (i := 5) nd rfl (Or.inl rfl) (pe_call (ok_parted T) (hr.mono (by omega)) rfl T.g_parted T.F_parted.kp b0 .nil pass0 (pa_cons (pv 0) (pa_cons (pv 1) (pa_cons (pv 4) pa_nil)))))
            (pss_one (ps_if (pt_cmp (pc_notN (pv 5)))
              (pss_one (ps_expr (pe_bm PySem.F.plainAttrs_list PySem.F.slot_list_append PySem.F.type_list_append mt_append (pv 3) (pa_cons
                (pe_tup (pa_cons (pe_op op_add pe_int (pe_callB (cr_max rfl) (by rfl) T.z_max (by decide +kernel) (pa_cons
                  (pe_lc (own := [("one", 6)]) (g := gName 6) (tt := tYes) rfl nd (pi_tup (pv 5)) (blkOk_by (N := ["history", "some", "known", "rows", "name", "sets", "one"]) (sc := defScope s_solve) (by decide +kernel))
                    (fun _ _ _ _ _ => pg_name (i := 6) nd rfl (Or.inl rfl)) (fun _ _ _ _ _ => pts_nil)
                    (fun _ _ _ _ _ => pe_call ih hr rfl T.g_solve T.F_solve.kp b1 .nil pass0 (pa_cons (pv 0) (pa_cons (pv 6) (pa_cons (pv 2) pa_nil))))) pa_nil))) (pa_cons (pv 4) pa_nil))) pa_nil))))
              pss_nil))))
          (pss_one (ps_dput hu (pv 2) (pv 1) (pe_callB (cr_minD rfl hr.units) (by rfl) T.z_min (by decide +kernel) (pa_cons (pv 3) pa_nil)) rfl))))
          pss_nil)
        (pss_one (ps_ret (pe_ix ix_tup (pe_dget hu (pv 2) (pv 1) fun _ _ => rfl) pe_int fun _ _ => rfl)))), ?_⟩
      have few : S.length ≤ 12 := Nat.le_trans (x.sl.length_le) x.few
      have key : ∀ H' : Hp, H' t = some (.tup (S.map V.str)) → H' t = some (.tup (((S.map Sum.inr : List Key)).map kV)) := fun H' h => by rw [kV_strs]; exact h
      -- if len(some) == 1
      refine ⟨_, rfl, t, _, rfl, .inr (.inl (.inl x.at_)), rfl, _, rfl, ?_⟩
      rw [List.length_map]
      by_cases h1 : S.length = 1
      · rw [show decide (V.int (S.length : Nat) = V.int 1) = true from decide_eq_true (by rw [h1]; rfl)]
        obtain ⟨y, rfl⟩ := List.length_eq_one_iff.mp h1
        exact iteT (fin H 0 kv (but_refl k H) x.kn x.ok (fun _ h => h) (fun _ h => .inl h) (isMin_one y) (.inl h1))
      rw [show decide (V.int (S.length : Nat) = V.int 1) = false from decide_eq_false fun z => h1 (by injection z with z; omega)]
      have two : 2 ≤ S.length := by have := x.one; omega
      -- if some not in known
      refine iteF ⟨_, rfl, _, rfl, k, _, rfl, DGet.t x.kn.at_ (key H x.at_), _, rfl, ?_⟩
      rcases valV_rows (kv := kv) (S := S) with ⟨r, hr', e, hv⟩ | ⟨no, hv⟩
      · rw [hv]
        have g1 : DGet H k (.ref t) (some (.ref r.ad)) := hv ▸ DGet.t x.kn.at_ (key H x.at_)
        refine iteF ⟨_, rfl, _, rfl, k, _, rfl, g1, r.ad, _, _, _, rfl, rfl, .inl (.inl (x.kn.rows r hr')), atI_nat (j := 0) rfl, ?_⟩
        exact fin H r.d kv (but_refl k H) x.kn x.ok (fun _ h => h) (fun _ h => .inl h) (e ▸ x.ok.min r hr') (.inr (List.mem_map.mpr ⟨r, hr', e⟩))
      rw [hv]
      -- rows = []
      refine iteT ⟨(by show 0 ≤ sizeLine; decide), fun l hl => ?_⟩
      have nkl : l ≠ k := (ne_of_none x.kn.at_ hl).symm
      have s0 : Same H (upd H l (.lst [])) := same_new hl
      refine ⟨_, rfl, t, rfl, ⟨_, .inl (.inl (s0 _ _ x.at_))⟩, for_tup (K := K) (xs := S.map V.str) (fun i σ H' => (∃ b4 b5 b6, σ = [some (.ref A.h), some (.ref t), some (.ref k), some (.ref l), b4, b5, b6]) ∧ ∃ kv' rs, Turns g T0 S H H' k l kv kv' i rs)
        ⟨⟨_, _, _, rfl⟩, kv, [], Same.but s0, x.kn.same s0, x.ok, fun _ h => h, fun _ h => .inl h, upd_same, Nat.le_refl _, (fun _ h => by cases h), (fun _ h => by cases h), (fun j _ hj => absurd hj (Nat.not_lt_zero _))⟩
        (fun i σ H' _ q => let ⟨_, _, _, z⟩ := q; .inl (.inl (but_tup x.kn.at_ trivial z.bt x.at_))) ?_ ?_⟩
      · -- one turn
        rintro i v σ H1 hv1 ⟨⟨b4, b5, b6, rfl⟩, kv1, rs, z⟩
        rw [List.getElem?_map] at hv1
        obtain ⟨nm, hnm, rfl⟩ := Option.map_eq_some_iff.mp hv1
        have ht1 : H1 t = some (.tup (S.map V.str)) := but_tup x.kn.at_ trivial z.bt x.at_
        have p1 : PastAt T ex H1 g A U := x.past.but x.kn.at_ trivial z.bt
        have hmem : nm ∈ S := List.mem_of_getElem? hnm
        refine ⟨_, rfl, _, rfl, _, rfl, ex, g, A, U, S, nm, t, rfl, p1, x.sub nm hmem, .inl (.inl ht1), Nat.le_trans few (by decide), fun eq H2 s2 => ?_, fun neq H2 p b c s2 hp hb hc => ?_⟩
        · refine ⟨_, rfl, _, rfl, iteNS rfl ⟨⟨_, _, _, rfl⟩, kv1, rs, z.bt.trans (Same.but s2), z.kn.same s2, z.ok, z.mono, z.small, s2 _ _ z.at_, Nat.le_succ_of_le z.len, fun r hr => s2 _ _ (z.obj r hr), z.good, fun j m' hj hm' ht' => ?_⟩⟩
          rcases Nat.lt_or_ge j i with q | q
          · exact z.all j m' q hm' ht'
          · obtain rfl : j = i := by omega
            rw [hnm] at hm'
            cases hm'
            exact absurd eq ht'.2
        · have tst : IsTest (RB g) S nm := ⟨hmem, neq⟩
          obtain ⟨sz1, sz2, sz3, sz4⟩ := test_sizes (rb_refl g) tst
          refine ⟨_, rfl, _, rfl, ?_⟩
          rw [show decide (V.ref p = V.non) = false from decide_eq_false (by intro z; cases z)]
          refine iteT ⟨_, rfl, .inl ⟨rfl, _, SqL.of (s2 _ _ z.at_)⟩, _, rfl, p, rfl, ⟨_, .inl (.inl hp)⟩, fun D hD => ?_⟩
          have kn2 := z.kn.same s2
          have nDk : D ≠ k := (ne_of_none kn2.at_ hD).symm
          have sD : Same H2 (upd H2 D (.lst [])) := same_new hD
          refine lc_tup (K := K) (a := p) (xs := [.ref b, .ref c]) (fun j H' => ∃ kv' ds, But k H2 H' ∧ KnAt H' k kv' ∧ KOk (RB g) T0 kv' ∧ (∀ r ∈ kv1, r ∈ kv') ∧ (∀ r ∈ kv', r ∈ kv1 ∨ r.key.length < S.length) ∧
              H' D = some (.lst (ds.map fun d : Nat => .int d)) ∧ ds.length = j ∧ ∀ q Sq, q < j → [badOf (RB g) S nm, goodOf (RB g) S nm][q]? = some Sq → ∃ dq, ds[q]? = some dq ∧ IsMin (RB g) Sq dq ∧ Kn kv' Sq)
            ⟨kv1, [], Same.but sD, kn2.same sD, z.ok, fun _ h => h, fun _ h => .inl h, upd_same, rfl, fun q _ hq => absurd hq (Nat.not_lt_zero _)⟩
            (fun j H' _ q => let ⟨_, _, bt, _⟩ := q; .inl (.inl (but_tup kn2.at_ trivial bt hp))) ?_ ?_
          · -- solve(history, one, known)
            rintro j v H3 hv3 ⟨kv3, ds, bt3, kn3, ok3, mo3, sm3, hD3, len3, q3⟩
            have jl : j < 2 := (List.getElem?_eq_some_iff.mp hv3).1
            obtain ⟨Sq, tq, eS, ev, hq, lq, uq, oq⟩ : ∃ Sq tq, [badOf (RB g) S nm, goodOf (RB g) S nm][j]? = some Sq ∧ v = .ref tq ∧ H2 tq = some (.tup (Sq.map V.str)) ∧ Sq.length < S.length ∧ Sq.Sublist S ∧ 1 ≤ Sq.length := by
              match j, jl, hv3 with
              | 0, _, hv3 => exact ⟨_, b, rfl, (Option.some.inj hv3).symm, hb, sz2, List.filter_sublist, sz1⟩
              | 1, _, hv3 => exact ⟨_, c, rfl, (Option.some.inj hv3).symm, hc, sz4, List.filter_sublist, sz3⟩
            subst ev
            refine ⟨rfl, lcY ⟨_, rfl, _, rfl, _, rfl, ex, g, A, U, T0, Sq, tq, k, kv3, rfl, ⟨(p1.same s2).but kn2.at_ trivial bt3, fun n hn => x.sub n (uq.subset hn), oq, but_tup kn2.at_ trivial bt3 hq, kn3, ok3, uq.trans x.sl, x.nd, x.few⟩, by omega,
              fun H4 d kv4 bt4 kn4 ok4 mo4 sm4 mn4 kk4 => ⟨_, bt4 _ _ hD3 nDk, ?_, ?_⟩⟩⟩
            · rw [List.length_map, len3]
              exact Nat.lt_of_lt_of_le jl (by decide)
            · have bu : But k H4 (upd H4 D (.lst (ds.map (fun d : Nat => V.int d) ++ [V.int d]))) → True := fun _ => trivial
              have hk4 : (upd H4 D (.lst (ds.map (fun d : Nat => V.int d) ++ [V.int d]))) k = H4 k := upd_ne nDk.symm
              refine ⟨kv4, ds ++ [d], fun b' o' e' n' => ?_, ⟨?_, fun r hr => ?_⟩, ok4, fun r hr => mo4 r (mo3 r hr), fun r hr => ?_, ?_, ?_, fun q Sq' hq' hs' => ?_⟩
              · have n2 : b' ≠ D := ne_of_none e' hD
                rw [upd_ne n2]
                exact bt4 _ _ (bt3 _ _ e' n') n'
              · rw [hk4]
                exact kn4.at_
              · have h4 := kn4.rows r hr
                have n2 : r.ad ≠ D := ne_of h4 (bt4 _ _ hD3 nDk) (by intro z; cases z)
                rw [upd_ne n2]
                exact h4
              · rcases sm4 r hr with h | h
                · exact sm3 r h
                · exact .inr (by omega)
              · rw [upd_same, List.map_append]
                rfl
              · rw [List.length_append, len3]
                rfl
              · rcases Nat.lt_or_ge q j with hlt | hge
                · obtain ⟨dq, w1, w2, w3⟩ := q3 q Sq' hlt hs'
                  exact ⟨dq, by rw [List.getElem?_append_left (by omega)]; exact w1, w2, kn_mono mo4 w3⟩
                · obtain rfl : q = j := by omega
                  rw [eS] at hs'
                  cases hs'
                  exact ⟨d, by rw [← len3, List.getElem?_concat_length], mn4, kk4⟩
          · -- max, the row
            rintro H3 ⟨kv3, ds, bt3, kn3, ok3, mo3, sm3, hD3, len3, q3⟩
            obtain ⟨d1, w1, mn1, kk1⟩ := q3 0 _ (by show 0 < 2; decide) rfl
            obtain ⟨d2, w2, mn2, kk2⟩ := q3 1 _ (by show 1 < 2; decide) rfl
            have eds : ds = [d1, d2] := by
              match ds, len3, w1, w2 with
              | [u, v], _, w1, w2 => rw [Option.some.inj w1, Option.some.inj w2]
            subst eds
            refine ⟨D, [(d1 : Int), (d2 : Int)], rfl, SqL.of hD3, (by show 0 < 2; decide), fun M hM hmax => ?_⟩
            have eM : M = ((max d1 d2 : Nat) : Int) := by
              have a1 := hmax d1 (by simp)
              have a2 := hmax d2 (by simp)
              rcases List.mem_cons.mp hM with e | e
              · omega
              · have e := List.mem_singleton.mp e
                omega
            subst eM
            refine ⟨_, _, rfl, rfl, _, rfl, (by show 2 ≤ sizeLine; decide), fun ra hra => ?_⟩
            have l3 := bt3 _ _ (s2 _ _ z.at_) nkl
            have sR : Same H3 (upd H3 ra (.tup [.int (1 + ((max d1 d2 : Nat) : Int)), .str nm])) := same_new hra
            have eI : (1 : Int) + ((max d1 d2 : Nat) : Int) = ((1 + max d1 d2 : Nat) : Int) := by omega
            refine ⟨l, _, _, rfl, rfl, sR _ _ l3, ?_, ⟨_, _, _, rfl⟩, kv3, rs ++ [(ra, 1 + max d1 d2, nm)], fun b' o' e' n' => ?_, ⟨?_, fun r hr => ?_⟩, ok3, fun r hr => mo3 r (z.mono r hr), fun r hr => ?_, ?_, ?_, fun r hr => ?_, fun r hr => ?_, fun j m' hj hm' ht' => ?_⟩
            · have := z.len
              have : i < S.length := (List.getElem?_eq_some_iff.mp hnm).1
              rw [List.length_map]
              exact Nat.lt_of_le_of_lt (by omega : rs.length ≤ 12) (by decide)
            · have n2 : b' ≠ l := ne_of_none e' hl
              rw [upd_ne n2]
              exact sR _ _ (bt3 _ _ (s2 _ _ (z.bt _ _ e' n')) n')
            · rw [upd_ne nkl.symm]
              exact sR _ _ kn3.at_
            · have h3 := sR _ _ (kn3.rows r hr)
              rw [upd_ne (ne_of h3 (sR _ _ l3) (by intro z; cases z))]
              exact h3
            · rcases sm3 r hr with h | h
              · exact z.small r h
              · exact .inr h
            · rw [upd_same, List.map_append]
              rfl
            · rw [List.length_append]
              have := z.len
              show rs.length + 1 ≤ i + 1
              omega
            · rcases List.mem_append.mp hr with h | h
              · have h3 := sR _ _ (bt3 _ _ (s2 _ _ (z.obj r h)) (ne_of (s2 _ _ (z.obj r h)) kn2.at_ (by intro z; cases z)))
                rw [upd_ne (ne_of h3 (sR _ _ l3) (by intro z; cases z))]
                exact h3
              · rw [List.mem_singleton.mp h]
                rw [upd_ne (ne_of_none l3 hra).symm, upd_same]
                show some (HO.tup [V.int (1 + ((max d1 d2 : Nat) : Int)), V.str nm]) = some (HO.tup [V.int ((1 + max d1 d2 : Nat) : Int), V.str nm])
                rw [eI]
            · rcases List.mem_append.mp hr with h | h
              · exact z.good r h
              · rw [List.mem_singleton.mp h]
                exact ⟨tst, d1, d2, mn1, mn2, rfl⟩
            · rcases Nat.lt_or_ge j i with q | q
              · obtain ⟨⟨r, hr, e⟩, a1, a2⟩ := z.all j m' q hm' ht'
                exact ⟨⟨r, List.mem_append_left _ hr, e⟩, kn_mono mo3 a1, kn_mono mo3 a2⟩
              · obtain rfl : j = i := by omega
                rw [hnm] at hm'
                cases hm'
                exact ⟨⟨_, List.mem_append_right _ (List.mem_singleton.mpr rfl), rfl⟩, kk1, kk2⟩
      · -- known[some] = min(rows)
        rintro σ H1 ⟨⟨b4, b5, b6, rfl⟩, kv1, rs, z⟩
        rw [List.length_map] at z
        have ht1 : H1 t = some (.tup (S.map V.str)) := but_tup x.kn.at_ trivial z.bt x.at_
        have all : ∀ m', IsTest (RB g) S m' → (∃ r ∈ rs, r.2.2 = m') ∧ Kn kv1 (badOf (RB g) S m') ∧ Kn kv1 (goodOf (RB g) S m') := fun m' hm' => by
          obtain ⟨j, hj⟩ := List.getElem?_of_mem hm'.1
          exact z.all j m' (List.getElem?_eq_some_iff.mp hj).1 hj hm'
        obtain ⟨n0, ht0⟩ := exists_test (R := RB g) (x.nd.sublist x.sl) (fun a b ha hb h1 h2 => Reach.anti x.past.ok (x.past.sub a (x.sub a ha)) (x.past.sub b (x.sub b hb)) (rb_iff.mp h1) (rb_iff.mp h2)) two
        obtain ⟨⟨r0, hr0, _⟩, _⟩ := all n0 ht0
        match rs, hr0, z, all with
        | r1 :: rt, _, z, all =>
          refine ⟨_, rfl, l, _, rowD r1, rt.map rowD, rfl, SqL.of z.at_, rowsD_dp (rs := r1 :: rt) z.obj, rowsD_alike (r1 :: rt), rowsD_deep (r1 :: rt), fun i v hi hm => ?_⟩
          rw [List.getElem?_map] at hi
          obtain ⟨r, hr1, rfl⟩ := Option.map_eq_some_iff.mp hi
          have hrm : r ∈ r1 :: rt := List.mem_of_getElem? hr1
          have em : rowD r = W.minD (rowD r1) (rt.map rowD) := by
            have q : ((r1 :: rt).map rowD)[i]? = some (rowD r) := by rw [List.getElem?_map, hr1]; rfl
            rw [show (r1 :: rt).map rowD = rowD r1 :: rt.map rowD from rfl, hm] at q
            exact (Option.some.inj q).symm
          obtain ⟨_, le1, le2⟩ := minD_least (rt.map rowD) (rowD r1)
          have least : ∀ y ∈ r1 :: rt, r.2.1 ≤ y.2.1 := fun y hy => by
            have q : W.dataLt (rowD y) (rowD r) = false := by
              rw [em]
              rcases List.mem_cons.mp hy with rfl | hy
              · exact le1
              · exact le2 _ (List.mem_map_of_mem hy)
            rw [lt_is] at q
            have q := of_decide_eq_false q
            have : ¬ ((y.2.1 : Int) < (r.2.1 : Int)) := fun h => q (.inl h)
            omega
          have noS : ¬ S ∈ keysOf kv1 := fun h => by
            obtain ⟨r', hr', e⟩ := List.mem_map.mp h
            rcases z.small r' hr' with q | q
            · exact no (List.mem_map.mpr ⟨r', q, e⟩)
            · rw [e] at q
              omega
          have vn : valV (kv1.map rowT) (S.map Sum.inr) = none := by
            rcases valV_rows (kv := kv1) (S := S) with ⟨r', hr', e, _⟩ | ⟨_, q⟩
            · exact absurd (List.mem_map.mpr ⟨r', hr', e⟩) noS
            · exact q
          have fewk : (kv1.map rowT).length < sizeLine := by
            rw [List.length_map]
            exact Nat.lt_of_le_of_lt (z.ok.few x.few) (by decide)
          refine ⟨_, rfl, _, rfl, k, _, rfl, DPut.t (k := S.map Sum.inr) z.kn.at_ (key H1 ht1) fewk, ?_⟩
          rw [putK_new _ vn]
          have mn : IsMin (RB g) S r.2.1 := rows_min (rs := (r1 :: rt).map fun y => (y.2.1, y.2.2)) (n := r.2.2) two
            (fun y hy => by obtain ⟨y', hy', rfl⟩ := List.mem_map.mp hy; exact z.good y' hy')
            (fun m' hm' => by obtain ⟨⟨y, hy, e⟩, _⟩ := all m' hm'; exact ⟨_, List.mem_map_of_mem hy, e⟩)
            (List.mem_map.mpr ⟨r, hrm, rfl⟩) (fun y hy => by obtain ⟨y', hy', rfl⟩ := List.mem_map.mp hy; exact least y' hy')
          have ok2 : KOk (RB g) T0 (kv1 ++ [⟨S, r.1, r.2.1, r.2.2⟩]) := z.ok.add noS x.sl two mn (z.good r hrm).1 (z.good r hrm).2 fun m' hm' => (all m' hm').2
          have bt2 : But k H1 (upd H1 k (.dT (kv1.map rowT ++ [(S.map Sum.inr, .ref r.1)]))) := fun b' o' e' n' => by
            rw [upd_ne n']
            exact e'
          have kn2 : KnAt (upd H1 k (.dT (kv1.map rowT ++ [(S.map Sum.inr, .ref r.1)]))) k (kv1 ++ [⟨S, r.1, r.2.1, r.2.2⟩]) := by
            refine ⟨by rw [upd_same, List.map_append]; rfl, fun y hy => ?_⟩
            rcases List.mem_append.mp hy with q | q
            · exact but_tup z.kn.at_ trivial bt2 (z.kn.rows y q)
            · rw [List.mem_singleton.mp q]
              exact but_tup z.kn.at_ trivial bt2 (z.obj r hrm)
          have last : (⟨S, r.1, r.2.1, r.2.2⟩ : Row) ∈ kv1 ++ [⟨S, r.1, r.2.1, r.2.2⟩] := List.mem_append_right _ (List.mem_singleton.mpr rfl)
          have g1 : DGet (upd H1 k (.dT (kv1.map rowT ++ [(S.map Sum.inr, .ref r.1)]))) k (.ref t) (some (.ref r.1)) := by
            have q := DGet.t (k := S.map Sum.inr) kn2.at_ (key _ (but_tup z.kn.at_ trivial bt2 ht1))
            rw [List.map_append, show (List.map rowT [(⟨S, r.1, r.2.1, r.2.2⟩ : Row)]) = [(S.map Sum.inr, V.ref r.1)] from rfl, valV_snoc _ _ _ _ vn, if_pos rfl] at q
            exact q
          refine ⟨_, rfl, _, rfl, k, _, rfl, g1, r.1, _, _, _, rfl, rfl, .inl (.inl (kn2.rows _ last)), atI_nat (j := 0) rfl, ?_⟩
          exact fin _ r.2.1 _ (z.bt.trans bt2) kn2 ok2 (fun y hy => List.mem_append_left _ (z.mono y hy)) (fun y hy => (List.mem_append.mp hy).elim (fun q => (z.small y q).imp id Nat.le_of_lt) fun q => .inr (by rw [List.mem_singleton.mp q]; exact Nat.le_refl _)) mn (.inr (List.mem_map.mpr ⟨_, last, rfl⟩))
end
end K65

set_option maxHeartbeats 200000
/-! K65Plans: planned. -/
namespace K65
open PySem L2
/-- a plan as the program makes it: a name, or a name with two plans -/
inductive PlanV (H : Hp) : V → Tree Str → Prop
  | leaf (x : Str) : PlanV H (.str x) (.leaf x)
  | node {a : Addr} {n : Str} {vb vg : V} {b g : Tree Str} : H a = some (.tup [.str n, vb, vg]) → PlanV H vb b → PlanV H vg g → PlanV H (.ref a) (.node n b g)
theorem PlanV.same {H H' : Hp} (s : Same H H') {v : V} {t : Tree Str} (h : PlanV H v t) : PlanV H' v t := by
  induction h with
  | leaf x => exact .leaf x
  | node h _ _ i1 i2 => exact .node (s _ _ h) i1 i2
section
variable {P : Program} {w : World} {K : PySem.W.Frag} {mg : Str → Option Value} {base : Heap}
def spPlanned (T : W K mg) (m : Nat) : Sp := fun vs H Q _ => ∃ (ex : Bool) (g : Gr) (A : Ads) (U T0 S : List Str) (t k : Addr) (kv : List Row), vs = [.ref A.h, .ref t, .ref k] ∧ SolveIn T ex H g A U T0 S t k kv ∧ S.length ≤ m ∧ Kn kv S ∧
  ∀ (H' : Hp) (v : V) (p : Tree Str), Same H H' → PlanV H' v p → Plan (RB g) S p → IsMin (RB g) S p.depth → Q v H'
theorem sc_planned : FnScope ["history", "some", "known", "name", "bad", "good"] ["history", "some", "known"] (defScope s_planned) := ⟨rfl, rfl, rfl, by decide +kernel, rfl, by decide +kernel, by decide +kernel⟩
theorem ok_planned (T : W K mg) : ∀ m : Nat, FnOk P w K mg base CX0 (7 + m) T.a_planned T.d_planned ["history", "some", "known"] (spPlanned T m) := by
  have b0 := T.F_parted.binds (ps := ["history", "some", "name"]) fun _ _ _ _ _ _ us hl => match us, hl with | [_, _, _], _ => rfl
  have b1 := T.F_planned.binds (ps := ["history", "some", "known"]) fun _ _ _ _ _ _ us hl => match us, hl with | [_, _, _], _ => rfl
  intro m
  induction m with
  | zero =>
    refine T.F_planned.ok (k := 6) sc_planned (fun vs H Q E h => ?_) (fun cdv A0 outer s H vs Q E hr h => ?_)
    · obtain ⟨ex, g, A, U, T0, S, t, k, kv, rfl, _⟩ := h
      rfl
    · obtain ⟨ex, g, A, U, T0, S, t, k, kv, rfl, x, hz, _⟩ := h
      have := x.one
      omega
  | succ m ih =>
    refine T.F_planned.ok (k := 7 + m) sc_planned (fun vs H Q E h => ?_) (fun cdv A0 outer s H vs Q E hr h => ?_)
    · obtain ⟨ex, g, A, U, T0, S, t, k, kv, rfl, _⟩ := h
      rfl
    · obtain ⟨ex, g, A, U, T0, S, t, k, kv, rfl, x, hz, kk, fin⟩ := h
      have hu := hu_of hr
      have nd := sc_planned.nd
      refine ⟨_, pss_cons (ps_if (pt_cmpR op_eq (pe_callB call_len_seq (by rfl) T.z_len PySem.boot_len (pa_cons (pv 1) pa_nil)) pe_int (nomark _)) (pss_one (ps_ret (pe_ix ix_tup (pv 1) pe_int fun _ _ => rfl))) pss_nil)
        (pss_cons (ps_set (i := 3) nd rfl (Or.inl rfl) (pe_ix ix_tup (pe_dget hu (pv 2) (pv 1) fun _ _ => rfl) pe_int fun _ _ => rfl))
        (pss_cons (ps_asg (pe_call (ok_parted T) (hr.mono (by omega)) rfl T.g_parted T.F_parted.kp b0 .nil pass0 (pa_cons (pv 0) (pa_cons (pv 1) (pa_cons (pv 3) pa_nil)))) (pg_tup rfl (pgs_cons (pg_name (i := 4) nd rfl (Or.inl rfl)) (pgs_cons (pg_name (i := 5) nd rfl (Or.inl rfl)) pgs_nil))))
        (pss_one (ps_ret (pe_tup (pa_cons (pv 3) (pa_cons (pe_call ih hr rfl T.g_planned T.F_planned.kp b1 .nil pass0 (pa_cons (pv 0) (pa_cons (pv 4) (pa_cons (pv 2) pa_nil))))
          (pa_cons (pe_call ih hr rfl T.g_planned T.F_planned.kp b1 .nil pass0 (pa_cons (pv 0) (pa_cons (pv 5) (pa_cons (pv 2) pa_nil)))) pa_nil)))))))), ?_⟩
      have few : S.length ≤ 12 := Nat.le_trans (x.sl.length_le) x.few
      have key : H t = some (.tup (((S.map Sum.inr : List Key)).map kV)) := by rw [kV_strs]; exact x.at_
      refine ⟨_, rfl, t, _, rfl, .inr (.inl (.inl x.at_)), rfl, _, rfl, ?_⟩
      rw [List.length_map]
      by_cases h1 : S.length = 1
      · rw [show decide (V.int (S.length : Nat) = V.int 1) = true from decide_eq_true (by rw [h1]; rfl)]
        obtain ⟨y, rfl⟩ := List.length_eq_one_iff.mp h1
        exact iteT ⟨_, rfl, t, _, _, _, rfl, rfl, .inl (.inl x.at_), atI_nat (j := 0) rfl, fin H (.str y) (.leaf y) (Same.refl _) (.leaf y) (.leaf y) (isMin_one y)⟩
      rw [show decide (V.int (S.length : Nat) = V.int 1) = false from decide_eq_false fun z => h1 (by injection z with z; omega)]
      obtain ⟨r, hr', rfl⟩ := List.mem_map.mp (kk.resolve_left h1)
      obtain ⟨r2, hr2, e2, hv⟩ : ∃ r2 ∈ kv, r2.key = r.key ∧ valV (kv.map rowT) (r.key.map Sum.inr) = some (.ref r2.ad) := by
        rcases valV_rows (kv := kv) (S := r.key) with q | ⟨no, _⟩
        · exact q
        · exact absurd (List.mem_map_of_mem hr') no
      have g1 : DGet H k (.ref t) (some (.ref r2.ad)) := hv ▸ DGet.t x.kn.at_ key
      refine iteF ⟨_, rfl, _, rfl, k, _, rfl, g1, r2.ad, _, _, .str r2.n, rfl, rfl, .inl (.inl (x.kn.rows r2 hr2)), atI_nat (j := 1) rfl, ?_⟩
      have tst : IsTest (RB g) r.key r2.n := e2 ▸ x.ok.tst r2 hr2
      obtain ⟨sz1, sz2, sz3, sz4⟩ := test_sizes (rb_refl g) tst
      refine ⟨_, rfl, _, rfl, _, rfl, ex, g, A, U, r.key, r2.n, t, rfl, x.past, x.sub _ tst.1, .inl (.inl x.at_), Nat.le_trans few (by decide), fun eq => absurd eq tst.2, fun _ H1 p b c s1 hp hb hc => ?_⟩
      refine ⟨p, _, rfl, .inl (.inl hp), rfl, .ref b, _, rfl, .ref c, _, rfl, rfl, _, rfl, _, rfl, _, rfl, _, rfl, ?_⟩
      obtain ⟨k1, k2⟩ := x.ok.cl r2 hr2 r2.n (x.ok.tst r2 hr2)
      rw [e2] at k1 k2
      have in1 : ∀ {H' : Hp} {Sq : List Str} {tq : Addr}, Same H1 H' → Sq.Sublist r.key → 1 ≤ Sq.length → H' tq = some (.tup (Sq.map V.str)) → SolveIn T ex H' g A U T0 Sq tq k kv := fun s2 sl one at_ =>
        ⟨x.past.same (s1.trans s2), fun n hn => x.sub n (sl.subset hn), one, at_, x.kn.same (s1.trans s2), x.ok, sl.trans x.sl, x.nd, x.few⟩
      refine ⟨ex, g, A, U, T0, badOf (RB g) r.key r2.n, b, k, kv, rfl, in1 (Same.refl _) List.filter_sublist sz1 hb, by omega, k1, fun H2 vb pb s2 pv2 pl2 mn2 => ?_⟩
      refine ⟨_, rfl, _, rfl, _, rfl, ex, g, A, U, T0, goodOf (RB g) r.key r2.n, c, k, kv, rfl, in1 s2 List.filter_sublist sz3 (s2 _ _ hc), by omega, k2, fun H3 vg pg s3 pv3 pl3 mn3 => ?_⟩
      refine ⟨(by show 3 ≤ sizeLine; decide), fun a ha => ?_⟩
      have s4 : Same H3 (upd H3 a (.tup [.str r2.n, vb, vg])) := same_new ha
      obtain ⟨d1, d2, m1, m2, ed⟩ := x.ok.dep r2 hr2
      rw [e2] at m1 m2
      have dp : IsMin (RB g) r.key (Tree.node r2.n pb pg).depth := by
        have q := x.ok.min r2 hr2
        rw [e2, ed] at q
        show IsMin (RB g) r.key (1 + max pb.depth pg.depth)
        rw [mn2.inj m1, mn3.inj m2]
        exact q
      exact fin _ (.ref a) (.node r2.n pb pg) (((s1.trans s2).trans s3).trans s4) (.node upd_same (pv2.same (s3.trans s4)) (pv3.same s4)) (.node r.key r2.n pb pg tst pl2 pl3) dp
end
end K65

set_option maxHeartbeats 2000000
/-! K65Enum: enumerate(a tuple). -/
namespace K65
open PySem
open Sem (wp)
open AutoSeq1 (wpAny_loadPart')
abbrev iterOf (l : Addr) : Obj := { cls := .type "tuple_iterator", data := .fields #[.ref l, .int 0 0] }
abbrev enumOf (it : Addr) : Obj := { cls := .type "enumerate", data := .fields #[.none, .bool false, .ref it, rawInt 0, .none, .none] }
theorem meets_enumT (l : Addr) (items : Array Value) (n : Nat) (dct : Option Addr) (sl : Array (Option Value)) :
    Meets (Builtin.«enumerate.__new__» ⟨[.type "enumerate", .ref l], []⟩) (fun _ R s => s.heap.get? l = some { cls := .type "tuple", dict := dct, data := .seq items n, slots := sl } ∧
      R (.ok (.ret (.ref (s.heap.push (iterOf l)).objs.size))) { s with heap := (s.heap.push (iterOf l)).push (enumOf s.heap.objs.size) }) :=
  .of_wp fun prog w A R s h => by
    obtain ⟨hp, g, d, tk, os⟩ := s
    obtain ⟨hl, h⟩ := h
    have sub := sub_enumerate
    have tup : Heap.IsTuple (Shared.heap ⟨hp, g, d, tk, os⟩) l items := ⟨_, hl, rfl, n, rfl⟩
    wp_walk using wpAny_loadPart' hl
    refine wpAny_stack_any fun st => wpAny_pure ?_
    split
    · rename_i c _ _ _ _ _
      cases (c == Value.type "enumerate")
      all_goals
        wp_walk using wpAny_loadPart' hl, wpAny_pyIter_tuple tup
        exact ⟨_, rfl, h⟩
    · wp_walk using wpAny_loadPart' hl, wpAny_pyIter_tuple tup
      exact ⟨_, rfl, h⟩
section
variable {prog : Program} {w : World} {A : Around} {E : Value → Shared → Prop} {s : Shared}
theorem call_enumT {l : Addr} {items : Array Value} {Q : Value → Shared → Prop} (hL : s.heap.IsTuple l items)
    (h : ∀ h', IsEnum h' (s.heap.objs.size + 1) s.heap.objs.size 0 .none → h'.IsTupleIter s.heap.objs.size l 0 → (∀ b o, s.heap.get? b = some o → h'.get? b = some o) → Q (.ref (s.heap.objs.size + 1)) { s with heap := h' }) :
    wpAny (model prog w) A (call (.type "enumerate") [.ref l]) Q E s := by
  obtain ⟨⟨c, dct, dt, sl⟩, hl, hc, n, hd⟩ := hL
  obtain rfl : c = .type "tuple" := hc
  obtain rfl : dt = .seq items n := hd
  refine callType_new F.called_enumerate (by decide) (F.typeCall_enumerate_1 _) (F.newCall_enumerate_1 _) (fun obj => F.args_object_init_2 obj _) F.entry_enumerate_new (meets_enumT l items n dct sl) ⟨hl, ?_⟩
  have sz : (s.heap.push (iterOf l)).objs.size = s.heap.objs.size + 1 := Heap.size_push ..
  show _ ∧ _
  rw [sz]
  have he : IsEnum ((s.heap.push (iterOf l)).push (enumOf s.heap.objs.size)) (s.heap.objs.size + 1) s.heap.objs.size 0 .none := by
    have q := Heap.get?_push_size (s.heap.push (iterOf l)) (o := enumOf s.heap.objs.size) rfl
    rw [sz] at q
    exact q
  exact ⟨⟨_, he, rfl⟩, h _ he ⟨_, Heap.get?_push_of_some _ (Heap.get?_push_size _ rfl), rfl, rfl⟩ fun b o q => Heap.get?_push_of_some _ (Heap.get?_push_of_some _ q)⟩
theorem enum_endT {e it l : Addr} {i : Nat} {items : Array Value} {old : Value} {Q : Option Value → Shared → Prop} (calm : A.handled = none) (he : IsEnum s.heap e it i old) (hit : s.heap.IsTupleIter it l i) (hl : s.heap.IsTuple l items) (over : items[i]? = none)
    (hQ : ∀ h', Heap.ExtBut it s.heap h' → Q none { s with heap := h' }) : wpAny (model prog w) A (pyNext (.ref e)) Q E s := by
  unfold pyNext
  refine wpAny_bind (wpAny_attempt (wpAny_callSpecial?_slot (name := Str.ofString "__next__") (s := s) ⟨_, he, rfl⟩ F.slot_enumerate_next (wpAny_call_entry F.slot_enumerate_next ⟨_, he, rfl⟩ F.entry_enumerate_next ?_ (F.args_enumerate_next_1 _))))
  show wpAny _ _ (field (.ref e) 2 >>= _) _ _ _
  refine wpAny_bind (wpAny_field he rfl (x := .ref it) rfl ?_)
  refine wpAny_bind (wpAny_nextOf_tuple_end calm hit hl over fun h' x ext stop => ?_)
  obtain ⟨o, ho, hc⟩ := stop
  exact wpAny_bind (wpAny_isInstance (T := "StopIteration") (b := true) ⟨o, ho, hc⟩ isSubtype_stop (wpAny_pure (hQ _ ext)))
end
end K65
namespace L2
open PySem PySem.Spec PyProof.Rows
/-- the tuple at a as it stands, each item in a new pair with its place -/
def ItEt (K : PySem.W.Frag) (a : Addr) : It :=
  ⟨fun i H => ∃ (xs : List V) (x : V), SqT K H a xs ∧ xs[i]? = some x, fun i H v H' => ∃ T x, v = .ref T ∧ H T = none ∧ H' = upd H T (.tup [.int (i : Nat), x]) ∧ ∀ xs, SqT K H a xs → xs[i]? = some x,
    fun i H => ∃ xs : List V, SqT K H a xs ∧ xs.length ≤ i⟩
theorem turn_enumT {P : Program} {w : World} {K : PySem.W.Frag} {elts : List Expr} {kk : Nat} {tpos : Pos} (a e it : Addr) :
    Turn P w K (.Tuple elts kk tpos) (ItEt K a) [e, it] e (fun i h => (∃ old, IsEnum h e it ((i : Nat) : Int) old) ∧ h.IsTupleIter it a i ∧ e ≠ it ∧ a ≠ it) where
  mem := by simp
  obj := fun i h st b hb => by
    obtain ⟨⟨old, he⟩, ⟨o, ho, hc, hd⟩, _⟩ := st
    rcases (show b = e ∨ b = it by simpa using hb) with rfl | rfl
    · exact ⟨_, he, fun v q => nomatch q⟩
    · exact ⟨o, ho, fun v q => by rw [hd] at q; cases q⟩
  keep := fun i h h' st k => let ⟨⟨old, he⟩, hi, ne⟩ := st; ⟨⟨old, k e (by simp) _ he⟩, hi.at fun o q => k it (by simp) o q, ne⟩
  item := by
    intro X hP hw hK calm i pins s σ H E I hf st go
    subst hP hw hK
    obtain ⟨⟨old, he⟩, hit, ne, na⟩ := st
    obtain ⟨xs, x, hq, hx⟩ := go
    obtain ⟨its, rv, ht, _⟩ := I.tuple hq
    obtain ⟨u, hu, ru⟩ := rv.get hx
    have le : e < s.heap.objs.size := Heap.lt_size he
    have li : it < s.heap.objs.size := by
      obtain ⟨_, q, _⟩ := hit
      exact Heap.lt_size q
    have nea : e ≠ a := fun z => by
      obtain ⟨o, q, c, _⟩ := ht
      rw [← z] at q
      have q2 := he.symm.trans q
      have q3 := Option.some.inj q2
      rw [← q3] at c
      exact absurd (show Value.type "enumerate" = Value.type "tuple" from c) (by decide)
    have lt : i < its.toArray.size := by
      rw [List.size_toArray]
      exact (List.getElem?_eq_some_iff.mp hu).1
    refine wpAny_pyNext_enum_itemD (Draws.tuple (show X.A.in1.handled = none from I.ok.hd calm) it a na its.toArray) he ⟨hit, ht⟩ lt ne (by simp [ne, nea]) fun v h' tk pv ho st2 hT sz k => ?_
    have ev : v = u := by
      have q : its[i]? = some v := by simpa using pv
      rw [hu] at q
      exact (Option.some.inj q).symm
    subst ev
    refine ⟨_, rfl, wpAny_letOwnedTupleGo_enum (s := { s with heap := h', toks := tk + 1 }) ho fun h'' he' sb => ?_⟩
    have hT2 : h''.get? s.heap.objs.size = some { cls := .type "tuple", data := .seq #[.int i tk, v] } := (sb.2 _ (Nat.ne_of_gt le)).trans hT
    have new : ObjOk X.prog X.w (upd H s.heap.objs.size (.tup [.int (i : Nat), x])) h'' s.heap.objs.size (.tup [.int (i : Nat), x]) :=
      ⟨by show 2 ≤ sizeLine; decide, [.int i tk, v], .cons ⟨_, rfl⟩ (.cons ru .nil), ⟨_, hT2, rfl, _, rfl⟩⟩
    have I1 : Inv X pins σ (upd H s.heap.objs.size (.tup [.int (i : Nat), x])) { s with heap := h'', toks := tk + 1 } :=
      I.turnedNew (ch := [e, it]) (fun b ob nb q => (sb.2 b (fun z => nb (by simp [z]))).trans (k b ob (fun z => nb (by simp [z])) (fun z => nb (by simp [z])) q)) hf (Nat.le_refl _) new
    refine ⟨.ref s.heap.objs.size, _, I1, rfl, ⟨_, x, rfl, I.hok.fresh (Nat.le_refl _), rfl, fun ys hy => ?_⟩, ⟨⟨v, ?_⟩, st2.1.at fun o q => (sb.2 it (Ne.symm ne)).trans q, ne, na⟩, fun b hb => ?_⟩
    · rw [I.tuple_inj hy hq]
      exact hx
    · have e1 : ((i + 1 : Nat) : Int) = (i : Int) + 1 := by omega
      rw [e1]
      exact he'
    · have lb : b < s.heap.objs.size := by
        rcases (show b = e ∨ b = it by simpa using hb) with z | z
        · rw [z]; exact le
        · rw [z]; exact li
      rw [upd_ne (Nat.ne_of_lt lb)]
      exact (hf b hb).1
  done := by
    intro X hP hw hK calm i pins s σ H E I hf st stop
    subst hP hw hK
    obtain ⟨⟨old, he⟩, hit, ne, na⟩ := st
    obtain ⟨xs, hq, hx⟩ := stop
    obtain ⟨its, rv, ht, _⟩ := I.tuple hq
    obtain ⟨f0, f1, f2, f3, f4, f5⟩ := hf it (by simp)
    have len := rv.length
    exact K65.enum_endT (I.ok.hd calm) he hit ht (by simp; omega) fun h' eb => ⟨rfl, I.turned (t' := s.toks) (fun b o hb q => eb b o hb q) f0 f1 f3 f4 f5⟩
  self := fun A i s Q E st h => let ⟨⟨_, he⟩, _⟩ := st; wpAny_pyIter_enum he h
def iEnumT (K : PySem.W.Frag) (ta : TA) : TI := fun σ H R => ta σ H fun vs H1 => ∃ a xs, vs = [.ref a] ∧ SqT K H1 a xs ∧ R (ItEt K a) H1
theorem pi_enumT {X : Cx} {e : Expr} {ta : TA} {p pos tpos : Pos} {elts : List Expr} {kk : Nat} (hg : Gl X "enumerate") (hm : X.mg "enumerate" = none) (ha : PA X [e] ta) (hs : starEach [e] X.env = [(false, eval e X.env)] := by rfl) :
    PI X (.Tuple elts kk tpos) (.Call (.Name "enumerate" p) [e] [] pos) (iEnumT X.K ta) := by
  refine ⟨fun pins s σ H R I h => ?_⟩
  refine Call_ (ld_blt I hg hm boot_enumerate (PyProof.Rows.callWith_type1 (thn (ha.run pos pins s σ H _ I h) fun us s1 ⟨vs, H1, I1, r1, q1⟩ => ?_) hs rfl))
  obtain ⟨a, xs, rfl, hq, q⟩ := q1
  obtain ⟨u, rfl, ru⟩ := vals1 r1
  cases ru
  obtain ⟨its, rv, ht, _⟩ := I1.tuple hq
  have la : a < s1.heap.objs.size := by
    obtain ⟨o, z, _⟩ := ht
    exact Heap.lt_size z
  refine K65.call_enumT (items := its.toArray) ht fun h' he hit hk => wpAny_pyIter_enum he ?_
  have I2 : Inv X pins σ H1 { s1 with heap := h' } := I1.kept (t' := s1.toks) hk
  refine ⟨s1.heap.objs.size + 1, [s1.heap.objs.size + 1, s1.heap.objs.size], _, _, H1, rfl, I2, turn_enumT a (s1.heap.objs.size + 1) s1.heap.objs.size, ⟨⟨.none, he⟩, hit, Nat.succ_ne_self _, Nat.ne_of_lt la⟩, fun b hb => ?_, q⟩
  have le : s1.heap.objs.size ≤ b := by
    rcases (show b = s1.heap.objs.size + 1 ∨ b = s1.heap.objs.size by simpa using hb) with z | z
    · rw [z]; exact Nat.le_add_right _ _
    · rw [z]; exact Nat.le_refl _
  exact I1.fpOk le (I1.hok.fresh le)
theorem walk_enumT {K : PySem.W.Frag} {a : Addr} {xs : List V} : Walk (ItEt K a) xs.length (fun H => SqT K H a xs) (YPair (fun i => some (.int (i : Nat))) (fun i => xs[i]?)) := by
  refine ⟨fun i _ hi q => ⟨xs, xs[i], q, by simp [hi]⟩, fun _ q => ⟨xs, q, Nat.le_refl _⟩, fun i H v H' _ q y => ?_⟩
  obtain ⟨T, x, h1, h2, h3, h4⟩ := y
  exact ⟨T, .int (i : Nat), x, h1, h2, h3, rfl, h4 xs q⟩
end L2

set_option maxHeartbeats 200000
/-! K65Plans2: check_set, best. -/
namespace K65
open PySem L2
theorem six_lo (n : Nat) : HT.sIx n 0 none = 0 := rfl
theorem six_at {n i d : Nat} (h : i ≤ n) : HT.sIx n d (some (i : Int)) = i := by
  rw [HT.sIx_nat]
  exact Nat.min_eq_left h
theorem cut_take {xs : List V} {i : Nat} (h : i ≤ xs.length) : cutV xs none (some (i : Int)) = xs.take i := by
  unfold cutV
  rw [six_lo, six_at h]
  rfl
section
variable {P : Program} {w : World} {K : PySem.W.Frag} {mg : Str → Option Value} {base : Heap}
@[irreducible] def spCheckSet (T : W K mg) : Sp := fun vs H Q _ => ∃ (ex : Bool) (g : Gr) (h st kd e kn t : Addr) (ks : List (Str × V)) (ns : List Str), vs = [.ref h, .ref t] ∧ HistAt T H g h st kd e kn ∧ g.Ok ∧ KnowsAt ex H g kn ks ∧ kd ≠ kn ∧ SqT K H t (ns.map V.str) ∧ 1 ≤ ns.length ∧ ns.length ≤ 12 ∧ ns.Nodup ∧ (∀ n ∈ ns, n ∈ g.ns) ∧
  ∀ (H' : Hp) (ks' : List (Str × V)), But kn H H' → KnowsAt ex H' g kn ks' → (∀ n ∈ ns, (valV ks' n).isSome = true) → (∀ n, (valV ks n).isSome = true → (valV ks' n).isSome = true) → Q .non H'
theorem sc_check_set : FnScope ["history", "names", "at", "name"] ["history", "names"] (defScope s_check_set) := ⟨rfl, rfl, rfl, by decide +kernel, rfl, by decide +kernel, by decide +kernel⟩
theorem ok_check_set (T : W K mg) : FnOk P w K mg base CX0 7 T.a_check_set T.d_check_set ["history", "names"] (spCheckSet T) := by
  have b0 := T.F_History_check_names.binds (ps := ["self", "names"]) fun _ _ _ _ _ _ us hl => match us, hl with | [_, _], _ => rfl
  obtain ⟨tk, v⟩ := T.v_MOST
  refine T.F_check_set.ok sc_check_set (fun vs H Q E h => ?_) (fun cdv A0 outer s H vs Q E hr h => ?_)
  · unfold spCheckSet at h
    obtain ⟨ex, g, h, st, kd, e, kn, t, ks, ns, rfl, _⟩ := h
    rfl
  · unfold spCheckSet at h
    obtain ⟨ex, g, h, st, kd, e, kn, t, ks, ns, rfl, hh, o, hk, ne, ht, one, few, nod, hns, k⟩ := h
    have nd := sc_check_set.nd
    refine ⟨_, pss_cons (ps_if (PW.pt (pw_or (pt_not (pt_val (pe_callB call_isi (by rfl) T.z_isinstance (by decide +kernel) (pa_cons (pv 1) (pa_cons (pe_bltn (v := .ty "tuple") (by rfl) T.z_tuple (by decide +kernel) rfl) pa_nil)))))
        (pw_or1 (pt_not (pt_chain op_le op_le pe_int (pe_callB call_len_seq (by rfl) T.z_len PySem.boot_len (pa_cons (pv 1) pa_nil)) (pe_glob (v := .int 12) rfl v ⟨_, rfl⟩)))))) (pss_one ps_never) pss_nil)
      (pss_cons (ps_for PassesOwn.never rfl (pi_enumT (by rfl) T.z_enumerate (pa_cons (pv 1) pa_nil)) (pg_tup rfl (pgs_cons (pg_name (i := 2) nd rfl (Or.inl rfl)) (pgs_cons (pg_name (i := 3) nd rfl (Or.inl rfl)) pgs_nil)))
        (pss_one (ps_if (pt_cmpR op_in_seq (pv 3) (pe_slice sl_tup (pv 1) po_none (po_some (pv 2))) rfl) (pss_one ps_never) pss_nil)))
      (pss_one (ps_expr (pe_meth (pv 0) T.clHistory T.m_History_check_names (ok_check T) hr b0 .nil pass0 (pa_cons (pv 1) pa_nil))))), ?_⟩
    obtain ⟨dx, dd, hi⟩ := hh.ins
    refine ⟨_, rfl, _, _, _, _, true, rfl, .ty "tuple", ty_sqt ht, kit_ty (by decide +kernel), true, rfl, iteF ?_⟩
    refine ⟨_, rfl, t, _, rfl, .inr ht, _, _, rfl, rfl, true, bT (by rw [List.length_map]; omega), iteT ⟨_, _, rfl, rfl, true, bT (by rw [List.length_map]; omega), iteF ?_⟩⟩
    -- for at, name in enumerate(names)
    refine ⟨_, rfl, t, _, rfl, ht, for_it (walk_enumT (xs := ns.map V.str)) (fun i σ H' => (∃ b c, σ = [some (.ref h), some (.ref t), b, c]) ∧ Same H H') ⟨⟨_, _, rfl⟩, Same.refl _⟩ (fun i σ H' _ q => sqt_same q.2 ht) ?_ ?_⟩
    · rintro i v σ H1 H2 hi' ⟨⟨b, c, rfl⟩, s1⟩ ⟨p, x, y, rfl, hp, rfl, ex', hy⟩
      cases ex'
      have hy : (ns.map V.str)[i]? = some y := hy
      rw [List.getElem?_map] at hy
      obtain ⟨n, hn, rfl⟩ := Option.map_eq_some_iff.mp hy
      have lt : i < ns.length := (List.getElem?_eq_some_iff.mp hn).1
      have s2 : Same H1 (upd H1 p (.tup [.int (i : Nat), .str n])) := same_new hp
      have ht2 := sqt_same (s1.trans s2) ht
      refine ⟨p, _, rfl, .inl (.inl upd_same), rfl, _, _, rfl, _, _, rfl, rfl, _, rfl, _, rfl, _, rfl, _, rfl, t, _, rfl, ht2, ?_, fun q hq => ?_⟩
      · rw [six_at (by rw [List.length_map]; omega), List.length_map]
        omega
      · rw [cut_take (by rw [List.length_map]; omega), ← List.map_take]
        refine ⟨q, _, rfl, .inr (.inl (.inl upd_same)), rfl, flat_strs _, _, rfl, ?_⟩
        have no : ¬ n ∈ ns.take i := fun m => by
          have z := nod.sublist (List.take_sublist (i + 1) ns)
          rw [take_snoc hn, List.nodup_append] at z
          exact z.2.2 _ m _ (by simp) rfl
        rw [inV_strs, decide_eq_false no]
        exact iteF ⟨⟨_, _, rfl⟩, (s1.trans s2).trans (same_new hq)⟩
    · rintro σ H1 ⟨⟨b, c, rfl⟩, s1⟩
      exact ⟨_, rfl, h, dx, _, rfl, s1 _ _ hi, rfl, _, rfl, ex, g, h, st, kd, e, kn, t, ks, ns, rfl, hh.same s1, o, hk.same s1, ne, sqt_same s1 ht, by omega, hns, fun H2 ks' bt kw h1 h2 => k H2 ks' ((Same.but s1).trans bt) kw h1 h2⟩
end
end K65

set_option maxHeartbeats 3200000
/-! K65Sort: sorted(a tuple of texts); the one sorted list. -/
namespace K65
open PySem PySem.Spec PyProof.Rows L2
/-- not above -/
def LeS (a b : Str) : Prop := ltCps b.cps.toList a.cps.toList = false
theorem les_iff {a b : Str} : LeS a b ↔ ¬ b.cps.toList < a.cps.toList := by
  unfold LeS
  rw [ltCps_eq, decide_eq_false_iff_not]
theorem les_trans {a b c : Str} (h : LeS a b) (k : LeS b c) : LeS a c := by
  rw [les_iff] at *
  exact List.not_lt.mpr (List.le_trans (List.not_lt.mp h) (List.not_lt.mp k))
theorem les_anti {a b : Str} (h : LeS a b) (k : LeS b a) : a = b := by
  rw [les_iff] at *
  have e := List.le_antisymm (List.not_lt.mp h) (List.not_lt.mp k)
  obtain ⟨⟨x⟩⟩ := a
  obtain ⟨⟨y⟩⟩ := b
  have e : x = y := e
  rw [e]
theorem rising_pw : ∀ (l : List Str) (p : Str), risingS p l = true → (p :: l).Pairwise LeS
  | [], p, _ => by simp
  | x :: r, p, h => by
    have h : (!ltCps x.cps.toList p.cps.toList && risingS x r) = true := h
    obtain ⟨h1, h2⟩ := Bool.and_eq_true_iff.mp h
    have le : LeS p x := by
      unfold LeS
      simpa using h1
    have ih := rising_pw r x h2
    refine List.pairwise_cons.mpr ⟨fun y hy => ?_, ih⟩
    rcases List.mem_cons.mp hy with rfl | hy
    · exact le
    · exact les_trans le ((List.pairwise_cons.mp ih).1 y hy)
theorem sorted_pw {l : List Str} (h : sortedS l = true) : l.Pairwise LeS := by
  cases l with
  | nil => exact .nil
  | cons x r => exact rising_pw r x h
theorem sorted_of_pw {l : List Str} (h : l.Pairwise LeS) : sortedS l = true := sortedS_of_pairwise l h
theorem sorted_uniq {xs ys : List Str} (p : ys.Perm xs) (hx : sortedS xs = true) (hy : sortedS ys = true) : ys = xs :=
  List.Perm.eq_of_pairwise (le := LeS) (fun _ _ _ _ h k => les_anti h k) (sorted_pw hy) (sorted_pw hx) p
theorem sorted_sub {xs ys : List Str} (s : ys.Sublist xs) (hx : sortedS xs = true) : sortedS ys = true := sorted_of_pw ((sorted_pw hx).sublist s)
section
variable {X : Cx}
/-- sorted(t), t a tuple of texts -/
theorem cr_sortedTup : CallR X (.builtin "sorted") (fun xs H Q => ∃ (a : Addr) (ks : List Str), xs = [V.ref a] ∧ SqT X.K H a (ks.map V.str) ∧ ks.length < 64 ∧
    ∀ ys p, ys.Perm ks → sortedS ys = true → H p = none → Q (.ref p) (upd H p (.lst (ys.map V.str)))) := by
  intro pins s σ H xs us Q I r h
  obtain ⟨a, ks, rfl, ha, few, q⟩ := h
  obtain ⟨u, rfl, ru⟩ := vals1 r
  cases ru
  obtain ⟨its, rv, ht, _⟩ := I.tuple ha
  obtain ⟨o, ho, hc, n, hd⟩ := ht
  have are : StrsAre its ks := strs_of_vals rv
  have len : its.length = ks.length := are.length
  refine Calls.call_function_entry PyProof.Rows.kind_sorted PyProof.Rows.plain_sorted PyProof.Rows.entry_sorted (PyProof.Rows.args_sorted1 _) ?_
  unfold Builtin.«sorted»
  refine wpAny_bind (m := checkCount "sorted" 1 1 _) (wpAny_pure ?_)
  refine wpAny_bind (wpAny_collect_seq (A := X.A.in1) a (.inr rfl) ho hc hd (fun h' kp => ?_) (by rw [List.size_toArray, len, sizeLine_eq]; omega))
  show wpAny _ _ (newList its >>= _) _ _ _
  refine wpAny_bind (wpAny_newList ?_ (by rw [len, sizeLine_eq]; omega))
  have hoL : (h'.push (seqObj "list" its.toArray 0)).get? h'.objs.size = some (seqObj "list" its.toArray 0) := Heap.get?_push_size _ rfl
  refine wpAny_bind (wpAny_holding (wpAny_call_entry PyProof.Rows.slot_list_sort ⟨_, hoL, rfl⟩ PyProof.Rows.entry_list_sort
    (list_sort_treeK strKind_oneLt (s := { s with heap := h'.push (seqObj "list" its.toArray 0) }) hoL are.keysOf (fun v₁ v₂ rest e => keyKind_strs (by rw [← e]; exact are)) (by rw [len]; exact few) fun st' hp hs => ⟨_, rfl, ?_⟩)
    (PyProof.Rows.args_list_sort _)))
  obtain ⟨ys, b1, b2, b3⟩ := sorted_out_str are hp hs
  obtain ⟨e', he'⟩ := PyProof.Rows.sortedHeap_at (vs := its) (out := (arrOf st').map (·.2)) hoL
  have I1 : Inv X pins σ H { s with heap := h' } := I.kept (t' := s.toks) kp
  have short : (ys.map V.str).length ≤ sizeLine := by
    rw [List.length_map, b2.length_eq]
    exact Nat.le_trans (Nat.le_of_lt few) (by decide)
  refine wpAny_pure ⟨_, rfl, .ref h'.objs.size, upd H h'.objs.size (.lst (ys.map V.str)), I1.laid (t' := s.toks) (fun b u e => ?_) (Nat.le_refl _)
    (show ObjOk X.prog X.w _ _ _ (.lst (ys.map V.str)) from ⟨short, ((arrOf st').map (·.2)).toList, e', vals_of_strs b1, by rw [Array.toArray_toList]; exact he'⟩), rfl, q ys _ b2 b3 (I1.hok.fresh (Nat.le_refl _))⟩
  have lt : b < h'.objs.size := Heap.lt_size e
  rw [PyProof.Rows.sortedHeap_old (Nat.ne_of_lt lt) (by rw [size_push']; exact Nat.lt_succ_of_lt lt)]
  exact Heap.get?_push_of_some _ e
end
end K65

set_option maxHeartbeats 3200000
/-! K65DictT: dicts with tuple keys: made by a comprehension, walked by items, their keys sorted. -/
namespace K65
open PySem PySem.Spec PyProof.Rows L2
section
variable {X : Cx}
/-- d[t] = v by a comprehension -/
theorem putT_ok {pins : List (Addr × Obj)} {σ : L2.St} {H : Hp} {s : Shared} {E : Value → Shared → Prop} {D b : Addr} {kvs : List (List Key × V)} {k : List Key} {v : V} {r : Value} {Q : Unit → Shared → Prop} (hu : X.A.units + 1 < cLine) (I : Inv X pins σ H s) (at_ : H D = some (.dT kvs)) (eb : H b = some (.tup (k.map kV))) (hz : kvs.length < sizeLine)
    (rv : RelV v r) (h : ∀ s', Inv X pins σ (upd H D (.dT (putK kvs k v))) s' → Q () s') : wpAny (model X.prog X.w) X.A (dictSet D (.ref b) r) Q E s := by
  obtain ⟨z, hd, xs, rel, dd⟩ := dt_of I.hok at_
  have few : xs.length ≤ sizeLine := by rw [← Paired.length rel]; exact z
  have len : (putK kvs k v).length ≤ sizeLine := by have := length_putK kvs k v; omega
  refine wpAny_dictSet_heap (hsz := few) (show X.A.units < cLine by omega) (key_of I.hok eb) dd fun h' dd' sb => h _ ?_
  obtain ⟨q, es, ep, hq, h2, h3, h4, _, h5⟩ := dd'
  refine d_write I (by rw [at_]; exact True.intro) sb ⟨q, hq⟩ ⟨len, hd, _, (rel.put k eb rv).keeps fun c ys ec => ?_, q, es, ep, hq, h2, h3, h4, h5⟩
  rw [upd_ne (ne_of ec at_ (fun z => nomatch z))]
  exact ec
/-- {t: v for target in iter if ..}, t a tuple of ints and texts: D the new dict -/
def tDt (wi : TI) (g : TG) (tt : TT) (tk tv : TE) (vs : List Nat) : TE := fun σ H Q => wi σ H fun J H1 => ∀ D, H1 D = none → ∃ W : Nat → Nat → Hp → Prop, (∃ m, W 0 m (upd H1 D (.dT []))) ∧ ∀ i m H, W i m H →
  (J.stop i H ∧ Q (.ref D) H) ∨ (J.go i H ∧ ∃ Nx : Hp → Prop, (∀ H', Nx H' → ∃ m', m' < m ∧ W (i + 1) m' H') ∧ ∀ x H', J.yld i H x H' → g x (wipe σ vs) H' fun σ2 H2 => wipe σ2 vs = wipe σ vs ∧ tt σ2 H2 fun b H3 =>
    if b = true then tk σ2 H3 fun y H4 => tv σ2 H4 fun z H5 => ∃ kvs k c, y = .ref c ∧ H5 c = some (.tup (k.map kV)) ∧ H5 D = some (.dT kvs) ∧ kvs.length < sizeLine ∧ Nx (upd H5 D (.dT (putK kvs k z))) else Nx H3)
abbrev newD : Obj := { cls := .type "dict", data := .dict #[] }
theorem dt_core {pins : List (Addr × Obj)} {s : Shared} {σ : L2.St} {H : Hp} {Q : VK} {kx vx tg iter : Expr} {ifs : List Expr} {sc : Scope} {own : List (PySem.Str × Nat)} {pos pos' : Pos} {wi : TI} {g : TG} {tt : TT} {tk tv : TE} {use : Option (Value → Sem Unit)} {Qf : Value → Shared → Prop}
    (hu : X.A.units + 1 < cLine) (calm : X.calm = true) (nd : X.N.Nodup) (I : Inv X pins σ H s) (hi : PI X tg iter wi) (blk : BlkOk X.N X.env.scope sc own)
    (hg : ∀ (s : Shared) (H : Hp) (C : Addr) (cl : List (PySem.Str × Addr)) (fp : List Addr), PG (X.blk s H sc (compEnvC sc cl C X.env) fp) tg g) (ht : ∀ (s : Shared) (H : Hp) (C : Addr) (cl : List (PySem.Str × Addr)) (fp : List Addr), PTs (X.blk s H sc (compEnvC sc cl C X.env) fp) ifs tt)
    (hk : ∀ (s : Shared) (H : Hp) (C : Addr) (cl : List (PySem.Str × Addr)) (fp : List Addr), PE (X.blk s H sc (compEnvC sc cl C X.env) fp) kx tk)
    (he : ∀ (s : Shared) (H : Hp) (C : Addr) (cl : List (PySem.Str × Addr)) (fp : List Addr), PE (X.blk s H sc (compEnvC sc cl C X.env) fp) vx tv) (fold : ∀ x, foldedSetIterable iter X.env x = pure x)
    (h : tDt wi g tt tk tv (own.map (·.2)) σ H Q)
    (last : ∀ D C s' m H', Inv X pins σ H' s' → Q (.ref D) H' → s'.heap.Ns C m → FpOk X pins H' C → compPost (model X.prog X.w) X.A X.xe use Qf (.ref D) C (.ok .next) s') :
    wpAny (model X.prog X.w) X.A (comprehension (.DictComp kx vx [⟨tg, iter, ifs, 0⟩] sc pos) sc X.env pos' newDict false (eval iter X.env) use) Qf X.xe s := by
  have frees : ∀ y ∈ sc.names, y.2 = .free → ∃ c, X.env.cells.lookup y.1 = some c := fun y m e => (blk.free y m e).elim (fun z => I.ok.has _ (.inl z)) fun z => I.ok.has _ (.inr z)
  refine wpAny_comprehension_free (use := use) rfl fold (closure_ok frees) blk.kind (fun y m e => by rw [blk.uniq y m, e])
    (thn (hi.run pins s σ H _ I h) fun xv s1 hx => thn hx fun itv s2 q2 => ?_)
  obtain ⟨it, fp, tn, J, H2, e, I2, T, w2, fk, q⟩ := q2
  subst e
  refine wpAny_newObj_type (newEnv_comp ?_)
  generalize eD : s2.heap.objs.size = D
  have noD : H2 D = none := I2.hok.fresh (Nat.le_of_eq eD)
  obtain ⟨W, ⟨top, wTop⟩, turn⟩ := q D noD
  generalize es3 : ({ s2 with heap := s2.heap.push newD } : Shared) = s3
  have I3 : Inv X pins σ (upd H2 D (.dT [])) s3 := by
    rw [← es3]
    refine I2.laid (t' := s2.toks) (fun b o k => Heap.get?_push_of_some _ k) (Nat.le_of_eq eD) ?_
    rw [← eD]
    exact dt_empty s2.heap I2.big
  have hp3 : s3.heap = s2.heap.push newD := by rw [← es3]
  have below : ∀ b ∈ fp, b < s2.heap.objs.size := fun b m => by
    obtain ⟨o, k, _⟩ := T.obj _ _ w2 b m
    exact Heap.lt_size k
  have fk3 : ∀ b ∈ fp, FpOk X pins (upd H2 D (.dT [])) b ∧ b < s3.heap.objs.size := fun b m => by
    have lt := below b m
    refine ⟨⟨?_, (fk b m).2⟩, ?_⟩
    · rw [upd_ne (by rw [← eD]; exact Nat.ne_of_lt lt)]
      exact (fk b m).1
    · rw [hp3, Heap.size_push]
      exact Nat.lt_succ_of_lt lt
  have w3 : tn 0 s3.heap := T.keep _ _ _ w2 fun b _ o k => by
    rw [hp3]
    exact Heap.get?_push_of_some _ k
  have I4 := block_start I3 blk nd fk3
  have rg := hg s3 (upd H2 D (.dT [])) s3.heap.objs.size (cellsFrom (s3.heap.objs.size + 1) sc.names (cloFrom X.env.cells sc.names [])) fp
  have rt := ht s3 (upd H2 D (.dT [])) s3.heap.objs.size (cellsFrom (s3.heap.objs.size + 1) sc.names (cloFrom X.env.cells sc.names [])) fp
  have rk := hk s3 (upd H2 D (.dT [])) s3.heap.objs.size (cellsFrom (s3.heap.objs.size + 1) sc.names (cloFrom X.env.cells sc.names [])) fp
  have re := he s3 (upd H2 D (.dT [])) s3.heap.objs.size (cellsFrom (s3.heap.objs.size + 1) sc.names (cloFrom X.env.cells sc.names [])) fp
  show codeAny _ _ (.compStart (.DictComp kx vx [⟨tg, iter, ifs, 0⟩] sc pos) 0 (.ref it) (.ref D) (compEnvC sc (cellsFrom (s3.heap.objs.size + 1) sc.names (cloFrom X.env.cells sc.names [])) s3.heap.objs.size X.env)) (compPost (model X.prog X.w) X.A X.xe use Qf (.ref D) s3.heap.objs.size) { s3 with heap := pushCells (s3.heap.push { cls := .type "dict", data := .dict #[] }) sc.names }
  have free3 : ∀ b ∈ fp, (upd H2 D (.dT [])) b = none := fun b m => (fk3 b m).1.1
  generalize eCe : compEnvC sc (cellsFrom (s3.heap.objs.size + 1) sc.names (cloFrom X.env.cells sc.names [])) s3.heap.objs.size X.env = ce at I4 rg rt rk re ⊢
  have loc : ce.locals = s3.heap.objs.size := by
    subst eCe
    rfl
  generalize eH3 : upd H2 D (.dT []) = H3 at I3 I4 rg rt rk re wTop free3 fk3
  generalize es4 : ({ s3 with heap := pushCells (s3.heap.push { cls := .type "dict", data := .dict #[] }) sc.names } : Shared) = s4 at I4 ⊢
  have w4 : tn 0 s4.heap := T.keep _ _ _ w3 fun b _ o k => by
    rw [← es4]
    exact pushCells_keeps _ _ _ _ (Heap.get?_push_of_some _ k)
  have still : ∀ {σ' : L2.St} {H' : Hp} {s' : Shared}, Inv (X.blk s3 H3 sc ce fp) [] σ' H' s' → (∀ b ∈ fp, H' b = none) → ∀ b ∈ fp, FpOk (X.blk s3 H3 sc ce fp) [] H' b := fun {σ' H' s'} J no b m =>
    ⟨no b m, (J.ok.exf b m).1, J.ok.exfs b m, .inl m, fun x c k => (J.ok.exf b m).2 x c k, fun p hp => absurd (show p ∈ ([] : List (Addr × Obj)) ++ [] from hp) (by simp)⟩
  have loop : codeAny (model X.prog X.w) X.A (.compLoop (.DictComp kx vx [⟨tg, iter, ifs, 0⟩] sc pos) 0 (.ref it) (.ref D) ce) (compPost (model X.prog X.w) X.A X.xe use Qf (.ref D) s3.heap.objs.size) s4 := by
    refine compLoop_anyD (fun n u => ∃ i H', Inv (X.blk s3 H3 sc ce fp) [] (wipe σ (own.map (·.2))) H' u ∧ tn i u.heap ∧ (∀ b ∈ fp, H' b = none) ∧ W i n H') ?_ top ⟨0, H3, I4, w4, free3, wTop⟩
    rintro n s5 ⟨i, H5, I5, w5, no5, W5⟩
    rcases turn i n H5 W5 with ⟨stop, fine⟩ | ⟨go, Nx, nxt, step⟩
    · refine thnF (T.done (X.blk s3 H3 sc ce fp) rfl rfl rfl calm i [] s5 _ H5 (fun _ _ => False) I5 (still I5 no5) w5 stop) fun r s6 ⟨er, I6⟩ => ?_
      subst er
      have I7 : Inv X pins σ H5 s6 := I3.call' (ch := fp) I6.os I6.base I6.hok I6.bare fun b m => ⟨(fk3 b m).1.2.2.2.1, (fk3 b m).1.2.1, (fk3 b m).1.2.2.2.2.1, (fk3 b m).1.2.2.2.2.2⟩
      have noC : H5 s3.heap.objs.size = none := loc ▸ (show H5 ce.locals = none from I6.free)
      obtain ⟨m, ns, _⟩ := I6.loc
      exact last D s3.heap.objs.size s6 m H5 I7 fine (loc ▸ (show s6.heap.Ns ce.locals m from ns)) (I3.fpOk (Nat.le_refl _) noC)
    · refine thnF (T.item (X.blk s3 H3 sc ce fp) rfl rfl rfl calm i [] s5 _ H5 (fun _ _ => False) I5 (still I5 no5) w5 go) fun r s6 ⟨u, er, q6⟩ => ?_
      subst er
      refine thnF q6 fun _ s7 ⟨x, H7, I7, rx, yx, w7, no7⟩ => ?_
      refine thnF (rg.run _ s7 _ H7 x u _ (I7.pinned (still I7 no7) (T.obj _ _ w7)) rx (step x H7 yx)) fun _ s8 ⟨σ8, H8, I8, sam, q8⟩ => ?_
      refine thnF (rt.run _ s8 σ8 H8 _ I8 q8) fun b s9 ⟨H9, I9, q9⟩ => ?_
      have over : ∀ {u' : Shared} {H' : Hp}, Inv (X.blk s3 H3 sc ce fp) ([] ++ pinsAt fp s7.heap) σ8 H' u' → Nx H' → ∃ m, m < n ∧ ∃ i H', Inv (X.blk s3 H3 sc ce fp) [] (wipe σ (own.map (·.2))) H' u' ∧ tn i u'.heap ∧ (∀ b ∈ fp, H' b = none) ∧ W i m H' := fun {u' H'} J nx => by
        obtain ⟨m', lt, W'⟩ := nxt H' nx
        have pinned : ∀ b ∈ fp, ∀ o, s7.heap.get? b = some o → u'.heap.get? b = some o ∧ H' b = none := fun b m o k =>
          have z := J.pin (b, o) (List.mem_append_right _ (List.mem_append_right _ (mem_pinsAt m k)))
          ⟨z.1, z.2.1⟩
        refine ⟨m', lt, i + 1, H', (J.unpinned (pins := [])).weak (by rw [← sam, wipe_length]) (fun j v k => ?_), T.keep _ _ _ w7 fun b m o k => (pinned b m o k).1, fun b m => ?_, W'⟩
        · rw [← sam] at k
          exact (wipe_some k).1
        · obtain ⟨o, k, _⟩ := T.obj _ _ w7 b m
          exact (pinned b m o k).2
      cases b with
      | false =>
        simp only [Bool.false_eq_true, if_false] at q9 ⊢
        exact over I9 q9
      | true =>
        simp only [if_true] at q9 ⊢
        refine thnF (rk.run _ s9 σ8 H9 _ I9 q9) fun z s10 ⟨yk, H10, I10, ry, q10⟩ => ?_
        refine thnF (re.run _ s10 σ8 H10 _ I10 q10) fun z2 s11 ⟨yv, H11, I11, rv, kvs, k, c, ek, hc, atD, room, nx⟩ => ?_
        subst ek
        obtain rfl : z = Value.ref c := ry
        exact putT_ok (X := X.blk s3 H3 sc ce fp) hu I11 atD hc room rv fun s12 I12 => over I12 nx
  exact codeAny_compStart_dict loop (T.self X.A 0 _ _ _ w4 loop)
/-- the dict as a value -/
theorem pe_dt {kx vx tg iter : Expr} {ifs : List Expr} {sc : Scope} {own : List (PySem.Str × Nat)} {pos : Pos} {wi : TI} {g : TG} {tt : TT} {tk tv : TE} (hu : X.A.units + 1 < cLine) (calm : X.calm = true) (nd : X.N.Nodup) (hi : PI X tg iter wi) (blk : BlkOk X.N X.env.scope sc own)
    (hg : ∀ (s : Shared) (H : Hp) (C : Addr) (cl : List (PySem.Str × Addr)) (fp : List Addr), PG (X.blk s H sc (compEnvC sc cl C X.env) fp) tg g) (ht : ∀ (s : Shared) (H : Hp) (C : Addr) (cl : List (PySem.Str × Addr)) (fp : List Addr), PTs (X.blk s H sc (compEnvC sc cl C X.env) fp) ifs tt)
    (hk : ∀ (s : Shared) (H : Hp) (C : Addr) (cl : List (PySem.Str × Addr)) (fp : List Addr), PE (X.blk s H sc (compEnvC sc cl C X.env) fp) kx tk)
    (he : ∀ (s : Shared) (H : Hp) (C : Addr) (cl : List (PySem.Str × Addr)) (fp : List Addr), PE (X.blk s H sc (compEnvC sc cl C X.env) fp) vx tv) (fold : ∀ x, foldedSetIterable iter X.env x = pure x := by intro _; rfl) :
    PE X (.DictComp kx vx [⟨tg, iter, ifs, 0⟩] sc pos) (tDt wi g tt tk tv (own.map (·.2))) := by
  refine ⟨fun pins s σ H Q I h => ?_⟩
  rw [arm_eval_DictComp]
  refine dt_core hu calm nd I hi blk hg ht hk he fold h fun D C s' m H' J q ns f => ⟨m, ns, fun h'' sb => ?_⟩
  obtain ⟨k0, k1, k2, k3, k4, k5⟩ := f
  exact ⟨.ref D, H', J.turned (t' := s'.toks) (fun b o nb k => (sb.2 b nb).trans k) k0 k1 k3 k4 k5, rfl, q⟩
end
/-! ### items -/
/-- the pairs of the locked dict at d, each in a new tuple -/
def ItiT (d : Addr) (o : Obj) (kvs : List (List Key × V)) : It :=
  ⟨fun i H => H d = some (.frz o (.dT kvs)) ∧ i < kvs.length, fun i H x H' => ∃ T k v q, kvs[i]? = some (k, v) ∧ x = .ref T ∧ H T = none ∧ H q = some (.tup (k.map kV)) ∧ H' = upd H T (.tup [.ref q, v]), fun i H => H d = some (.frz o (.dT kvs)) ∧ kvs.length ≤ i⟩
section
variable {P : Program} {w : World} {K : PySem.W.Frag} {d : Addr} {o : Obj} {es : Array DictEntry} {ep : Nat}
/-- what the lock tells of a dict with tuple keys, its values too -/
theorem frzV {X : Cx} {pins : List (Addr × Obj)} {σ : L2.St} {H : Hp} {s : Shared} {kvs : List (List Key × V)} (I : Inv X pins σ H s) (h : H d = some (.frz o (.dT kvs))) :
    (d == sysModules) = false ∧ s.heap.get? d = some o ∧ o.ExactDict ∧ ∃ (es : Array DictEntry) (ep : Nat), o.data = .dict es ep ∧ es.size = kvs.length ∧
      ∀ (i : Nat) (k : List Key) (v : V), kvs[i]? = some (k, v) → ∃ (en : DictEntry) (q : Addr), es[i]? = some en ∧ en.key = .ref q ∧ H q = some (.tup (k.map kV)) ∧ RelV v en.val := by
  obtain ⟨hd, z, hs, xs, pr, o', es, ep, ho, hx, hdt, he, _⟩ := I.hok d _ h
  rw [hd] at ho
  cases ho
  refine ⟨hs, hd, hx, es, ep, hdt, ?_, fun i k v e => ?_⟩
  · have l1 : es.size = xs.length := size_of_entries he
    have l2 : kvs.length = xs.length := Paired.length pr
    omega
  · obtain ⟨b, hb, e1, e2, e3⟩ := paired_get pr e
    have q := entry_at he i
    rw [hb] at q
    exact ⟨_, b.2.1, q, rfl, e2, e3⟩
theorem turn_itemsT {kvs : List (List Key × V)} {elts : List Expr} {kk : Nat} {tpos : Pos} (it : Addr) (hod : o.data = .dict es ep) :
    Turn P w K (.Tuple elts kk tpos) (ItiT d o kvs) [it] it (fun i h => ∃ ok ov, IsItemIter h it d i kvs.length ep ok ov) where
  mem := by simp
  obj := fun i h st b hb => by
    obtain rfl : b = it := by simpa using hb
    obtain ⟨ok, ov, e⟩ := st
    exact ⟨_, e, fun v z => nomatch z⟩
  keep := fun i h h' st k => let ⟨ok, ov, e⟩ := st; ⟨ok, ov, k it (by simp) _ e⟩
  item := by
    intro X hP hw hK calm i pins s σ H E I hf st go
    subst hP hw hK
    obtain ⟨hd, lt⟩ := go
    obtain ⟨hs, at_, hx, es', ep', hdt, sz, ent⟩ := frzV I hd
    obtain ⟨rfl, rfl⟩ := dict_ep hod hdt
    obtain ⟨⟨k, v⟩, hkv⟩ : ∃ p, kvs[i]? = some p := ⟨kvs[i], List.getElem?_eq_getElem lt⟩
    obtain ⟨en, q, hen, hkey, hq, rv⟩ := ent i k v hkv
    obtain ⟨ok, ov, he⟩ := st
    rw [← sz] at he
    have lti : it < s.heap.objs.size := Heap.lt_size he
    have li : i < es'.size := by omega
    have een : es'[i] = en := by
      rw [Array.getElem?_eq_getElem li] at hen
      exact Option.some.inj hen
    refine DT.nextI he ⟨o, at_, hx, hdt⟩ li fun h' ho hT hz hk => ?_
    rw [een] at ho hT
    refine ⟨_, rfl, wpAny_letOwnedTupleGo_items (s := { s with heap := h' }) ho fun h'' he' sb => ?_⟩
    have hT2 : h''.get? s.heap.objs.size = some { cls := .type "tuple", data := .seq #[en.key, en.val] } := (sb.2 _ (Nat.ne_of_gt lti)).trans hT
    have new : ObjOk X.prog X.w (upd H s.heap.objs.size (.tup [.ref q, v])) h'' s.heap.objs.size (.tup [.ref q, v]) :=
      ⟨by show 2 ≤ sizeLine; decide, [en.key, en.val], .cons hkey (.cons rv .nil), ⟨_, hT2, rfl, _, rfl⟩⟩
    have I1 : Inv X pins σ (upd H s.heap.objs.size (.tup [.ref q, v])) { s with heap := h'' } :=
      I.turnedNew (t' := s.toks) (ch := [it]) (fun b ob hb e => (sb.2 b (by simpa using hb)).trans (hk b ob (by simpa using hb) e)) hf (Nat.le_refl _) new
    refine ⟨.ref s.heap.objs.size, _, I1, rfl, ⟨_, k, v, q, hkv, rfl, I.hok.fresh (Nat.le_refl _), hq, rfl⟩, ⟨en.key, en.val, ?_⟩, fun b hb => ?_⟩
    · rw [← sz]
      exact he'
    · obtain rfl : b = it := by simpa using hb
      rw [upd_ne (Nat.ne_of_lt lti)]
      exact (hf b (by simp)).1
  done := by
    intro X hP hw hK calm i pins s σ H E I hf st stop
    subst hP hw hK
    obtain ⟨hd, le⟩ := stop
    obtain ⟨f0, f1, f2, f3, f4, f5⟩ := hf it (by simp)
    obtain ⟨hs, at_, hx, es', ep', hdt, sz, ent⟩ := frzV I hd
    obtain ⟨rfl, rfl⟩ := dict_ep hod hdt
    obtain ⟨ok, ov, he⟩ := st
    rw [← sz] at he
    exact DT.endI (I.ok.hd calm) he ⟨o, at_, hx, hdt⟩ (by omega) fun h' eb => ⟨rfl, I.turned (t' := s.toks) (fun b ob hb e => eb b ob hb e) f0 f1 f3 f4 f5⟩
  self := fun A i s Q E st h => let ⟨_, _, e⟩ := st; PySem.W.kcp_self e h
end
def iItemsT (td : TE) : TI := fun σ H R => td σ H fun x H1 => ∃ d o kvs, x = .ref d ∧ H1 d = some (.frz o (.dT kvs)) ∧ R (ItiT d o kvs) H1
theorem pi_itemsT {X : Cx} {e : Expr} {td : TE} {apos cpos tpos : Pos} {elts : List Expr} {kk : Nat} (he : PE X e td) (hbase : attributeBase e "items" X.env (eval e X.env) = eval e X.env := by rfl) (hline : (apos.endLine == cpos.line) = true := by rfl) :
    PI X (.Tuple elts kk tpos) (.Call (.Attribute e "items" apos) [] [] cpos) (iItemsT td) := by
  refine ⟨fun pins s σ H R I h => ?_⟩
  refine wpAny_Call_method (T := "dict") (id := "dict.items") hbase rfl hline F.plainAttrs_dict F.slot_dict_items F.type_dict_items (thn (he.run pins s σ H _ I h) fun u s1 ⟨x, H1, I1, rx, d, o, kvs, ex, hd, q⟩ => ?_)
  subst ex
  obtain rfl : u = Value.ref d := rx
  obtain ⟨hs, at_, hx, es, ep, hdt, sz, ent⟩ := frzV I1 hd
  have raw : DT.Raw s1.heap d es ep := ⟨o, at_, hx, hdt⟩
  refine ⟨raw.typeIs, fun a ea => ?_, ?_⟩
  · cases ea
    exact ⟨o, at_, hx.2.1⟩
  have I2 : Inv X pins σ H1 { s1 with heap := s1.heap.push { cls := .type "dict_items", data := .fields #[.ref d] } } := I1.kept (t' := s1.toks) fun b ob z => Heap.get?_push_of_some _ z
  have fin : wpAny (model X.prog X.w) X.A (pyIter (.ref s1.heap.objs.size)) (PIE X pins σ (.Tuple elts kk tpos) R) X.xe { s1 with heap := s1.heap.push { cls := .type "dict_items", data := .fields #[.ref d] } } := by
    refine DT.iterI (d := d) ⟨_, Heap.get?_push_size _ rfl, rfl, rfl⟩ (raw.push _) (pi_one (tk := s1.toks) I2 _ (turn_itemsT _ hdt) ⟨.none, .none, ?_⟩ q)
    rw [← sz]
    exact Heap.get?_push_size _ rfl
  show wpAny _ _ (callWith cpos (.builtin "dict.items") [.ref d] [] []) _ X.xe s1
  exact method_meetsIn F.slot_dict_items F.entry_dict_items rfl (PySem.evalArgs_none ⟨rfl, raw.typeIs, F.args_dict_items_1 _, _, DT.meetsItems (es := es) (ep := ep) hs, raw, fin⟩)
theorem walk_itemsT {d : Addr} {o : Obj} {kvs : List (List Key × V)} : Walk (ItiT d o kvs) kvs.length (fun H => H d = some (.frz o (.dT kvs))) (fun i H x H' => ∃ T k v q, kvs[i]? = some (k, v) ∧ x = .ref T ∧ H T = none ∧ H q = some (.tup (k.map kV)) ∧ H' = upd H T (.tup [.ref q, v])) :=
  ⟨fun _ _ hi q => ⟨q, hi⟩, fun _ q => ⟨q, Nat.le_refl _⟩, fun _ _ _ _ _ _ y => y⟩
end K65

set_option maxHeartbeats 3200000
/-! K65SortT: sorted(a dict with tuple keys of texts). -/
namespace K65
open PySem PySem.Spec PyProof.Rows L2 PySem.W
theorem alike_strs : ∀ xs ys : List Str, alikeAll (xs.map PyData.str) (ys.map PyData.str) = true
  | [], _ => by simp [alikeAll]
  | _ :: _, [] => by simp [alikeAll]
  | x :: xs, y :: ys => by
    show alikeAll (.str x :: xs.map .str) (.str y :: ys.map .str) = true
    rw [alikeAll, alike_strs xs ys]
    simp [alike]
theorem reads_none {h : Heap} : ∀ {xs : List Str} {vs : List Value} {as : List Addr}, ReadsAll h vs (xs.map PyData.str) as → as = []
  | [], _, _, r => by
    cases r
    rfl
  | x :: r, _, _, q => by
    cases q with
    | cons h1 h2 =>
      cases h1
      rw [reads_none h2]
      rfl
theorem paired_keys {α β γ : Type} {F : α × β → α × γ → Prop} (hF : ∀ p q, F p q → p.1 = q.1) : ∀ {l : List (α × β)} {m : List (α × γ)}, Paired F l m → m.map (·.1) = l.map (·.1)
  | _, _, .nil => rfl
  | _, _, .cons h t => by rw [List.map_cons, List.map_cons, paired_keys hF t, hF _ _ h]
/-- the texts of a key -/
def unK (k : List Key) : List Str := k.filterMap fun y => match y with
  | .inr x => some x
  | .inl _ => none
theorem unK_inr : ∀ S : List Str, unK (S.map Sum.inr) = S
  | [] => rfl
  | x :: r => by
    show x :: unK (r.map Sum.inr) = x :: r
    rw [unK_inr r]
theorem dpAll_strs' {K : PySem.W.Frag} {H : Hp} : ∀ xs : List Str, DpAll K H (xs.map V.str) (xs.map PyData.str)
  | [] => .nil
  | x :: r => .cons (.str x) (dpAll_strs' r)
section
variable {X : Cx}
theorem cr_sortedDT (calm : X.calm = true) (hu : X.A.units + 64 < cLine) : CallR X (.builtin "sorted") (fun xs H Q => ∃ (d : Addr) (kvs : List (List Key × V)) (ks : List (List Str)), xs = [V.ref d] ∧ Rd H d (.dT kvs) ∧ kvs.map (·.1) = ks.map (fun k => k.map Sum.inr) ∧ (∀ k ∈ ks, k ≠ []) ∧
    ∀ (p : Addr) (qs : List (Addr × List Str)), (qs.map Prod.snd).Perm ks → (∀ q ∈ qs, H q.1 = some (.tup (q.2.map V.str))) → H p = none → Q (.ref p) (upd H p (.lst (qs.map fun q => .ref q.1)))) := by
  intro pins s σ H xs us Q I r h
  obtain ⟨d, kvs, ks, rfl, hd, hks, hne, q⟩ := h
  obtain ⟨u, rfl, ru⟩ := vals1 r
  cases ru
  obtain ⟨z, hs, es', pr, o, es, ep, ho, hx, hdt, he, hn⟩ := (show ObjOk X.prog X.w H s.heap d (.dT kvs) from hd.ok I.hok)
  have l1 : es.size = es'.length := size_of_entries he
  have l2 : kvs.length = es'.length := Paired.length pr
  -- the keys' own tuples, and their texts
  obtain ⟨bs, eb⟩ : ∃ bs : List (Addr × List Str), bs = es'.map fun x => (x.2.1, unK x.1) := ⟨_, rfl⟩
  have ek : es'.map (·.1) = kvs.map (·.1) :=
     paired_keys (fun _ _ h => h.1) pr
  have snd : bs.map Prod.snd = ks := by
    rw [eb, List.map_map]
    have e1 : es'.map (Prod.snd ∘ fun x => (x.2.1, unK x.1)) = (es'.map (·.1)).map unK := by
      rw [List.map_map]
      rfl
    rw [e1, ek, hks, List.map_map]
    have e2 : (unK ∘ fun k : List Str => (k.map Sum.inr : List Key)) = id := funext unK_inr
    rw [e2, List.map_id]
  have tups : ∀ b ∈ bs, H b.1 = some (.tup (b.2.map V.str)) := by
    intro b hb
    rw [eb] at hb
    obtain ⟨x, hx1, rfl⟩ := List.mem_map.mp hb
    have m1 : x.1 ∈ ks.map (fun k => (k.map Sum.inr : List Key)) := by
      rw [← hks, ← ek]
      exact List.mem_map_of_mem hx1
    obtain ⟨k, _, e⟩ := List.mem_map.mp m1
    obtain ⟨i, hi⟩ := List.getElem?_of_mem hx1
    obtain ⟨y, hy, f1, f2, _⟩ := L2.DX.pget pr hi
    show H x.2.1 = some (.tup ((unK x.1).map V.str))
    rw [f1, ← e] at f2
    rw [← e, unK_inr, f2, List.map_map]
    rfl
  refine Calls.call_function_entry PyProof.Rows.kind_sorted PyProof.Rows.plain_sorted PyProof.Rows.entry_sorted (PyProof.Rows.args_sorted1 _) ?_
  unfold Builtin.«sorted»
  refine wpAny_bind (m := checkCount "sorted" 1 1 _) (wpAny_pure ?_)
  refine wpAny_bind (PySem.W.kdu_collect (A := X.A.in1) (kdl_raw hs hx hdt) (I.ok.hd calm) ho (by omega) fun h' tk acc kp it => ?_)
  have I1 : Inv X pins σ H { s with heap := h', toks := tk } := I.kept kp
  have ea : acc.toList = bs.map fun b => Value.ref b.1 := by
    have hl : acc.toList.length = es'.length := by rw [Array.length_toList, it.1]; exact l1
    rw [eb, List.map_map]
    apply List.ext_getElem?
    intro j
    rw [List.getElem?_map]
    cases hj : acc.toList[j]? with
    | none =>
      have h1 := List.getElem?_eq_none_iff.mp hj
      rw [List.getElem?_eq_none (by omega)]
      rfl
    | some v =>
      obtain ⟨en, hen, hv⟩ := it.2 j v (by rw [← Array.getElem?_toList]; exact hj)
      have qe := entry_at he j
      rw [hen] at qe
      cases hb : es'[j]? with
      | none =>
        rw [hb] at qe
        exact nomatch (show some en = none from qe)
      | some b =>
        rw [hb] at qe
        have e2 : en = entryOfKey (tupleKind (mixKind X.prog X.w)) b := Option.some.inj qe
        rw [hv, e2]
        rfl
  have lb : bs.length = kvs.length := by rw [eb, List.length_map]; omega
  have la : acc.toList.length = bs.length := by rw [ea, List.length_map]
  refine wpAny_bind (wpAny_newList ?_ (by rw [la]; omega))
  have hoL : (h'.push (seqObj "list" acc.toList.toArray 0)).get? h'.objs.size = some (seqObj "list" acc.toList.toArray 0) := Heap.get?_push_size _ rfl
  show wpAny _ _ _ _ _ { s with heap := h'.push (seqObj "list" acc.toList.toArray 0), toks := tk }
  have each : ∀ {R : Value → Addr × List Str → Prop} {l : List (Addr × List Str)}, (∀ b ∈ l, R (.ref b.1) b) → EachIs R (l.map fun b => Value.ref b.1) l := fun {R l} => by
    induction l with
    | nil => intro _; exact .nil
    | cons a t ih => intro hR; exact .cons (hR a List.mem_cons_self) (ih fun b hb => hR b (List.mem_cons_of_mem _ hb))
  have un : ∀ {R : Value → Addr × List Str → Prop} {vs : List Value} {l : List (Addr × List Str)}, EachIs R vs l → (∀ v b, R v b → v = .ref b.1) → vs = l.map fun b => Value.ref b.1 := fun {R vs l} e hR => by
    induction e with
    | nil => rfl
    | cons h1 t ih => rw [List.map_cons, ih, hR _ _ h1]
  refine wpAny_bind (wpAny_holding (PySem.W.list_sort_data (R := fun v b => v = Value.ref b.1) (enc := fun b : Addr × List Str => PyData.tuple (b.2.map .str)) (bs := bs) (s := { s with heap := h'.push (seqObj "list" acc.toList.toArray 0), toks := tk }) hoL (by rw [ea]; exact each fun b hb => rfl) ?_ ?_ ?_ (by omega) (fun b hb => ?_) fun out lo eo => ?_))
  · suffices key : ∀ vs : List Value, vs = bs.map (fun b => Value.ref b.1) → EachIs (fun v b => ∃ as, Reads (h'.push (seqObj "list" acc.toList.toArray 0)) v (PyData.tuple (b.2.map .str)) as ∧ h'.objs.size ∉ as) vs bs from key _ ea
    rintro vs rfl
    refine each fun b hb => ?_
    have I2 : Inv X pins σ H { s with heap := h'.push (seqObj "list" acc.toList.toArray 0), toks := tk } := I1.kept (t' := tk) fun b ob z => Heap.get?_push_of_some _ z
    obtain ⟨as, ra⟩ := Dp.reads I2 (.tuple (b.2.map .str)) (.ref b.1) (.ref b.1) (.tup (.inl (.inl (tups b hb))) (dpAll_strs' b.2)) rfl
    have e0 : as = [] := by
      cases ra with
      | tuple h1 h2 h3 h4 => exact reads_none h4
    refine ⟨as, ra, ?_⟩
    rw [e0]
    exact fun m => by cases m
  · intro x hx1 y hy1
    obtain ⟨a, _, rfl⟩ := List.mem_map.mp hx1
    obtain ⟨b, _, rfl⟩ := List.mem_map.mp hy1
    show alikeAll _ _ = true
    exact alike_strs _ _
  · refine .inl fun d hd => ?_
    obtain ⟨b, hb, rfl⟩ := List.mem_map.mp hd
    have m1 : b.2 ∈ ks := snd ▸ List.mem_map_of_mem hb
    cases e : b.2 with
    | nil => exact absurd e (hne _ m1)
    | cons x t => exact ⟨.str x, t.map .str, rfl⟩
  · have : PyData.depth (.tuple (b.2.map PyData.str)) ≤ 2 := by
      have key : ∀ l : List Str, PyData.depthAll (l.map PyData.str) ≤ 1 := by
        intro l
        induction l with
        | nil => simp [PyData.depthAll]
        | cons a t ih =>
          simp only [List.map_cons, PyData.depthAll, PyData.depth]
          omega
      have := key b.2
      simp only [PyData.depth]
      omega
    show X.A.in1.units + 1 + PyData.depth (.tuple (b.2.map PyData.str)) < cLine
    have e1 : X.A.in1.units = X.A.units + 1 := rfl
    omega
  · refine wpAny_pure ⟨_, rfl, ?_⟩
    have eo2 := un eo fun v b e => e
    obtain ⟨e', he'⟩ := PyProof.Rows.sortedHeap_at (vs := acc.toList) (out := out.toArray) hoL
    have pm : (bs.mergeSort (PySem.W.dataLe false fun b : Addr × List Str => PyData.tuple (b.2.map .str))).Perm bs := List.mergeSort_perm _ _
    have short : ((bs.mergeSort (PySem.W.dataLe false fun b : Addr × List Str => PyData.tuple (b.2.map .str))).map fun q => V.ref q.1).length ≤ sizeLine := by
      rw [List.length_map, pm.length_eq]
      omega
    have vals : ∀ l : List (Addr × List Str), Vals (l.map fun q => V.ref q.1) (l.map fun b => Value.ref b.1) := by
      intro l
      induction l with
      | nil => exact .nil
      | cons a t ih => exact .cons rfl ih
    refine ⟨.ref h'.objs.size, upd H h'.objs.size (.lst ((bs.mergeSort _).map fun q => V.ref q.1)), I1.laid (t' := tk) (fun b u e => ?_) (Nat.le_refl _) (show ObjOk X.prog X.w _ _ _ (.lst _) from ⟨short, out, e', eo2 ▸ vals _, he'⟩), rfl,
      q _ _ (snd ▸ pm.map _) (fun b hb => tups b (pm.mem_iff.mp hb)) (I1.hok.fresh (Nat.le_refl _))⟩
    have lt : b < h'.objs.size := Heap.lt_size e
    rw [PyProof.Rows.sortedHeap_old (Nat.ne_of_lt lt) (by rw [size_push']; exact Nat.lt_succ_of_lt lt)]
    exact Heap.get?_push_of_some _ e
end
end K65

set_option maxHeartbeats 200000
/-! K65Best: best, bounds. -/
namespace K65
open PySem L2
section
variable {P : Program} {w : World} {K : PySem.W.Frag} {mg : Str → Option Value} {base : Heap}
/-- the things a plan is asked of: a history, and commits of it -/
structure AskIn (T : W K mg) (ex : Bool) (H : Hp) (g : Gr) (h st kd e kn t : Addr) (ks : List (Str × V)) (ns : List Str) : Prop where
  hist : HistAt T H g h st kd e kn
  ok : g.Ok
  kw : KnowsAt ex H g kn ks
  ne : kd ≠ kn
  at_ : SqT K H t (ns.map V.str)
  one : 1 ≤ ns.length
  few : ns.length ≤ 12
  nd : ns.Nodup
  sub : ∀ n ∈ ns, n ∈ g.ns
theorem AskIn.check {T : W K mg} {ex : Bool} {H : Hp} {g : Gr} {h st kd e kn t : Addr} {ks : List (Str × V)} {ns : List Str} {Q : VK} {E : XK} (x : AskIn T ex H g h st kd e kn t ks ns)
    (k : ∀ (H' : Hp) (ks' : List (Str × V)), But kn H H' → PastAt T ex H' g ⟨h, st, kd, e, kn, ks'⟩ ns → SqT K H' t (ns.map V.str) → (∀ n, (valV ks n).isSome = true → (valV ks' n).isSome = true) → Q .non H') : spCheckSet T [.ref h, .ref t] H Q E := by
  unfold spCheckSet
  exact ⟨ex, g, h, st, kd, e, kn, t, ks, ns, rfl, x.hist, x.ok, x.kw, x.ne, x.at_, x.one, x.few, x.nd, x.sub, fun H' ks' bt kw has mono => k H' ks' bt ⟨x.hist.but x.ne x.kw.at_ bt, x.ok, kw, x.ne, x.sub, has⟩ (but_sqt x.kw.at_ bt x.at_) mono⟩
/-- a new thing at k, then all but k as it was -/
theorem but_new {kn k : Addr} {H H1 H2 : Hp} {u : HO} (b1 : But kn H H1) (hk : H1 k = none) (b2 : But k (upd H1 k u) H2) : But kn H H2 := fun b o e n => by
  have e1 := b1 b o e n
  have nk : b ≠ k := ne_of_none e1 hk
  exact b2 b o (by rw [upd_ne nk]; exact e1) nk
def spBest (T : W K mg) : Sp := fun vs H Q _ => ∃ (ex : Bool) (g : Gr) (h st kd e kn t : Addr) (ks : List (Str × V)) (ns : List Str), vs = [.ref h, .ref t] ∧ AskIn T ex H g h st kd e kn t ks ns ∧
  ∀ (H' : Hp) (ks' : List (Str × V)) (p : Addr) (v : V) (pl : Tree Str) (S : List Str), But kn H H' → PastAt T ex H' g ⟨h, st, kd, e, kn, ks'⟩ ns → H' p = some (.tup [.int pl.depth, v]) → PlanV H' v pl → S.Perm ns → PyProof.Rows.sortedS S = true → Plan (RB g) S pl → IsMin (RB g) S pl.depth → Q (.ref p) H'
theorem sc_best : FnScope ["history", "names", "some", "known", "depth"] ["history", "names"] (defScope s_best) := ⟨rfl, rfl, rfl, by decide +kernel, rfl, by decide +kernel, by decide +kernel⟩
theorem ok_best (T : W K mg) : FnOk P w K mg base CX0 20 T.a_best T.d_best ["history", "names"] (spBest T) := by
  have b0 := T.F_check_set.binds (ps := ["history", "names"]) fun _ _ _ _ _ _ us hl => match us, hl with | [_, _], _ => rfl
  have b1 := T.F_solve.binds (ps := ["history", "some", "known"]) fun _ _ _ _ _ _ us hl => match us, hl with | [_, _, _], _ => rfl
  have b2 := T.F_planned.binds (ps := ["history", "some", "known"]) fun _ _ _ _ _ _ us hl => match us, hl with | [_, _, _], _ => rfl
  refine T.F_best.ok sc_best (fun vs H Q E h => ?_) (fun cdv A0 outer s H vs Q E hr h => ?_)
  · obtain ⟨ex, g, h, st, kd, e, kn, t, ks, ns, rfl, _⟩ := h
    rfl
  · obtain ⟨ex, g, h, st, kd, e, kn, t, ks, ns, rfl, x, k⟩ := h
    have nd := sc_best.nd
    refine ⟨_, pss_cons (ps_expr (pe_call (ok_check_set T) (hr.mono (by decide)) rfl T.g_check_set T.F_check_set.kp b0 .nil pass0 (pa_cons (pv 0) (pa_cons (pv 1) pa_nil))))
      (pss_cons (ps_set (i := 2) nd rfl (Or.inl rfl) (pe_callTy call_tuple_of (by rfl) T.z_tuple (by decide +kernel) (pa_cons (pe_callB cr_sortedTup (by rfl) T.z_sorted (by decide +kernel) (pa_cons (pv 1) pa_nil)) pa_nil)))
      (pss_cons (ps_set (i := 3) nd rfl (Or.inl rfl) pe_dnewT)
      (pss_cons (ps_set (i := 4) nd rfl (Or.inl rfl) (pe_call (ok_solve T 12) hr rfl T.g_solve T.F_solve.kp b1 .nil pass0 (pa_cons (pv 0) (pa_cons (pv 2) (pa_cons (pv 3) pa_nil)))))
      (pss_one (ps_ret (pe_tup (pa_cons (pv 4) (pa_cons (pe_call (ok_planned T 12) hr rfl T.g_planned T.F_planned.kp b2 .nil pass0 (pa_cons (pv 0) (pa_cons (pv 2) (pa_cons (pv 3) pa_nil)))) pa_nil)))))))), ?_⟩
    refine ⟨_, rfl, _, rfl, x.check fun H1 ks' bt1 past1 at1 _ => ?_⟩
    -- some = tuple(sorted(names))
    refine ⟨_, rfl, t, ns, rfl, at1, by have := x.few; omega, fun S p pm so hp => ?_⟩
    refine ⟨p, _, rfl, .inl ⟨SqL.of upd_same, fun ts hts => ?_⟩⟩
    have s1 : Same H1 (upd H1 p (.lst (S.map V.str))) := same_new hp
    have s2 := same_new (o := .tup (S.map V.str)) hts
    have s12 := s1.trans s2
    -- known = {}
    refine fun k0 hk0 => ?_
    have s3 := same_new (o := .dT []) hk0
    have s13 := s12.trans s3
    have bt3 := bt1.trans (Same.but s13 (k := kn))
    have hts3 := s3 _ _ (upd_same (H := upd H1 p (.lst (S.map V.str))) (a := ts) (o := .tup (S.map V.str)))
    have len : S.length = ns.length := pm.length_eq
    have nodS : S.Nodup := pm.nodup_iff.mpr x.nd
    refine ⟨_, rfl, _, rfl, _, rfl, ex, g, ⟨h, st, kd, e, kn, ks'⟩, ns, S, S, ts, k0, [], rfl, ⟨past1.same s13, fun n hn => pm.mem_iff.mp hn, by rw [len]; exact x.one, hts3, ⟨upd_same, fun _ h => by cases h⟩, .nil, List.Sublist.refl _, nodS, by rw [len]; exact x.few⟩, by rw [len]; exact x.few,
      fun H4 d kv' bt4 kn4 ok4 _ _ mn kk => ?_⟩
    have in4 : SolveIn T ex H4 g ⟨h, st, kd, e, kn, ks'⟩ ns S S ts k0 kv' := ⟨(past1.same s13).but (u := .dT []) upd_same trivial bt4, fun n hn => pm.mem_iff.mp hn, by rw [len]; exact x.one, but_tup (u := .dT []) upd_same trivial bt4 hts3, kn4, ok4, List.Sublist.refl _, nodS, by rw [len]; exact x.few⟩
    refine ⟨_, rfl, _, rfl, _, rfl, _, rfl, ex, g, ⟨h, st, kd, e, kn, ks'⟩, ns, S, S, ts, k0, kv', rfl, in4, by rw [len]; exact x.few, kk, fun H5 v pl s5 pv5 pl5 mn5 => ?_⟩
    have ed : d = pl.depth := mn.inj mn5
    subst ed
    refine ⟨(by show 2 ≤ sizeLine; decide), fun q hq => ?_⟩
    have s6 := same_new (o := .tup [.int pl.depth, v]) hq
    have btA : But kn H H4 := but_new (bt1.trans (Same.but s12)) hk0 bt4
    exact k _ ks' q v pl S (btA.trans (Same.but (s5.trans s6))) (in4.past.same (s5.trans s6)) upd_same (pv5.same s6) pm so pl5 mn5
end
end K65

set_option maxHeartbeats 200000
/-! K65Bounds: bounds. -/
namespace K65
open PySem L2
theorem yesT {σ : L2.St} {H : Hp} {F G : Hp → Prop} (h : F H) : tYes σ H (fun b H3 => if b = true then F H3 else G H3) := iteT (B := G H) h
/-- the row of a set -/
def rowOf (kv : List Row) (S : List Str) : Row := (kv.find? fun r => decide (r.key = S)).getD ⟨S, 0, 0, Str.empty⟩
theorem rowOf_in {kv : List Row} {S : List Str} (h : S ∈ keysOf kv) : rowOf kv S ∈ kv ∧ (rowOf kv S).key = S := by
  unfold rowOf
  cases e : kv.find? fun r => decide (r.key = S) with
  | none =>
    obtain ⟨r, hr, eq⟩ := List.mem_map.mp h
    have := List.find?_eq_none.mp e r hr
    simp [eq] at this
  | some r =>
    have z := List.find?_some e
    exact ⟨List.mem_of_find?_eq_some e, of_decide_eq_true z⟩
theorem KOk.again {R : Str → Str → Bool} {T0 : List Str} {kv kv' : List Row} (o : KOk R T0 kv) (p : (keysOf kv').Perm (keysOf kv)) (h : ∀ r ∈ kv', r ∈ kv) : KOk R T0 kv' :=
  ⟨p.nodup_iff.mpr o.nd, fun r hr => o.sub r (h r hr), fun r hr => o.two r (h r hr), fun r hr => o.min r (h r hr), fun r hr => o.tst r (h r hr), fun r hr => o.dep r (h r hr), fun r hr m hm =>
    have ⟨a, b⟩ := o.cl r (h r hr) m hm
    ⟨a.imp id fun z => p.mem_iff.mpr z, b.imp id fun z => p.mem_iff.mpr z⟩⟩
abbrev rowB (r : Row) : List Key × V := (r.key.map Sum.inr, .int r.d)
/-- the table of bounds stands at k -/
def TabAt (H : Hp) (k : Addr) (kv : List Row) : Prop := H k = some (.dT (kv.map rowB))
theorem valV_rowB {kv : List Row} {S : List Str} : (∃ r ∈ kv, r.key = S ∧ valV (kv.map rowB) (S.map Sum.inr) = some (.int r.d)) ∨ (¬ S ∈ keysOf kv ∧ valV (kv.map rowB) (S.map Sum.inr) = none) := by
  induction kv with
  | nil => exact .inr ⟨(fun h => by cases h), rfl⟩
  | cons r t ih =>
    by_cases e : r.key = S
    · refine .inl ⟨r, List.mem_cons_self, e, ?_⟩
      rw [List.map_cons, valV_pos (show (rowB r).1 = S.map Sum.inr by rw [← e])]
    · rw [List.map_cons, valV_neg fun z => e (inr_inj z)]
      rcases ih with ⟨x, hx, h1, h2⟩ | ⟨h1, h2⟩
      · exact .inl ⟨x, List.mem_cons_of_mem _ hx, h1, h2⟩
      · exact .inr ⟨fun h => (List.mem_cons.mp h).elim (fun z => e z.symm) h1, h2⟩
section
variable {P : Program} {w : World} {K : PySem.W.Frag} {mg : Str → Option Value} {base : Heap}
def spBounds (T : W K mg) : Sp := fun vs H Q _ => ∃ (ex : Bool) (g : Gr) (h st kd e kn t : Addr) (ks : List (Str × V)) (ns : List Str), vs = [.ref h, .ref t] ∧ AskIn T ex H g h st kd e kn t ks ns ∧
  ∀ (H' : Hp) (ks' : List (Str × V)) (D : Addr) (kv : List Row) (S : List Str), But kn H H' → PastAt T ex H' g ⟨h, st, kd, e, kn, ks'⟩ ns → TabAt H' D kv → KOk (RB g) S kv → S.Perm ns → PyProof.Rows.sortedS S = true → Kn kv S → Q (.ref D) H'
theorem sc_bounds : FnScope ["history", "names", "known", "some"] ["history", "names"] (defScope s_bounds) := ⟨rfl, rfl, rfl, by decide +kernel, rfl, by decide +kernel, by decide +kernel⟩
theorem ok_bounds (T : W K mg) : FnOk P w K mg base CX0 20 T.a_bounds T.d_bounds ["history", "names"] (spBounds T) := by
  have b0 := T.F_check_set.binds (ps := ["history", "names"]) fun _ _ _ _ _ _ us hl => match us, hl with | [_, _], _ => rfl
  have b1 := T.F_solve.binds (ps := ["history", "some", "known"]) fun _ _ _ _ _ _ us hl => match us, hl with | [_, _, _], _ => rfl
  refine T.F_bounds.ok sc_bounds (fun vs H Q E h => ?_) (fun cdv A0 outer s H vs Q E hr h => ?_)
  · obtain ⟨ex, g, h, st, kd, e, kn, t, ks, ns, rfl, _⟩ := h
    rfl
  · obtain ⟨ex, g, h, st, kd, e, kn, t, ks, ns, rfl, x, k⟩ := h
    have nd := sc_bounds.nd
    have hu := hu_of hr
    refine ⟨_, pss_cons (ps_expr (pe_call (ok_check_set T) (hr.mono (by decide)) rfl T.g_check_set T.F_check_set.kp b0 .nil pass0 (pa_cons (pv 0) (pa_cons (pv 1) pa_nil))))
      (pss_cons (ps_set (i := 2) nd rfl (Or.inr rfl) pe_dnewT)
      (pss_cons (ps_expr (pe_call (ok_solve T 12) hr rfl T.g_solve T.F_solve.kp b1 .nil pass0 (pa_cons (pv 0) (pa_cons (pe_callTy call_tuple_of (by rfl) T.z_tuple (by decide +kernel) (pa_cons (pe_callB cr_sortedTup (by rfl) T.z_sorted (by decide +kernel) (pa_cons (pv 1) pa_nil)) pa_nil)) (pa_cons (pv 2) pa_nil)))))
      (pss_one (ps_ret (pe_dt (own := [("some", 3)]) (g := gName 3) (tt := tYes) (tk := tVar 3) (tv := tOp (rIxT K) (tDGet (tVar 2) (tVar 3)) (tC (.int 0))) hu rfl nd (pi_list (pe_callB (cr_sortedDT rfl hr.units) (by rfl) T.z_sorted (by decide +kernel) (pa_cons (pv 2) pa_nil))) (blkOk_by (N := ["history", "names", "known", "some"]) (sc := defScope s_bounds) (by decide +kernel))
        (fun _ _ _ _ _ => pg_name (i := 3) nd rfl (Or.inl rfl)) (fun _ _ _ _ _ => pts_nil) (fun _ _ _ _ _ => pv 3) (fun _ _ _ _ _ => pe_ix ix_tup (pe_dget hu (pv 2) (pv 3) fun _ _ => rfl) pe_int fun _ _ => rfl)))))), ?_⟩
    refine ⟨_, rfl, _, rfl, x.check fun H1 ks' bt1 past1 at1 _ => ?_⟩
    -- known = {}
    refine fun k0 hk0 => ?_
    have s0 := same_new (o := .dT []) hk0
    have nk0 : ∀ b o, H1 b = some o → b ≠ k0 := fun b o e => ne_of_none e hk0
    -- tuple(sorted(names))
    refine ⟨_, rfl, _, rfl, t, ns, rfl, sqt_same s0 at1, by have := x.few; omega, fun S p pm so hp => ?_⟩
    refine ⟨p, _, rfl, .inl ⟨SqL.of upd_same, fun ts hts => ?_⟩⟩
    have s1 := same_new (o := .lst (S.map V.str)) hp
    have s2 := same_new (o := .tup (S.map V.str)) hts
    have s02 := (s0.trans s1).trans s2
    have hk3 := s2 _ _ (s1 _ _ (upd_same (H := H1) (a := k0) (o := .dT [])))
    have hts3 := upd_same (H := upd (upd H1 k0 (.dT [])) p (.lst (S.map V.str))) (a := ts) (o := .tup (S.map V.str))
    have len : S.length = ns.length := pm.length_eq
    have nodS : S.Nodup := pm.nodup_iff.mpr x.nd
    refine ⟨_, rfl, ex, g, ⟨h, st, kd, e, kn, ks'⟩, ns, S, S, ts, k0, [], rfl, ⟨past1.same s02, fun n hn => pm.mem_iff.mp hn, by rw [len]; exact x.one, hts3, ⟨hk3, fun _ h => by cases h⟩, .nil, List.Sublist.refl _, nodS, by rw [len]; exact x.few⟩, by rw [len]; exact x.few,
      fun H4 d kv bt4 kn4 ok4 _ _ mn kk => ?_⟩
    have btA : But kn H H4 := fun b o e n => by
      have e1 := bt1 b o e n
      exact bt4 b o (s02 _ _ e1) (nk0 b o e1)
    have past4 := (past1.same s02).but hk3 trivial bt4
    -- {some: known[some][0] for some in sorted(known)}
    refine ⟨_, rfl, k0, _, keysOf kv, rfl, .inl kn4.at_, ?_, fun y hy => ?_, fun l qs pq hq hl => ?_⟩
    · unfold keysOf
      rw [List.map_map, List.map_map]
      rfl
    · obtain ⟨r, hr', rfl⟩ := List.mem_map.mp hy
      intro z
      have := ok4.two r hr'
      rw [z] at this
      simp at this
    have sl := same_new (o := .lst (qs.map fun q : Addr × List Str => V.ref q.1)) hl
    refine ⟨l, rfl, ⟨_, SqL.of upd_same⟩, fun D hD => ?_⟩
    have kq : ∀ q ∈ qs, q.2 ∈ keysOf kv := fun q hq' => pq.mem_iff.mp (List.mem_map_of_mem hq')
    have lenq : qs.length ≤ 4096 := by
      have z := pq.length_eq
      rw [List.length_map] at z
      have z2 : (keysOf kv).length = kv.length := List.length_map ..
      have := ok4.few (by rw [len]; exact x.few)
      omega
    have nodq : (qs.map Prod.snd).Nodup := pq.nodup_iff.mpr ok4.nd
    refine ⟨fun i m H' => m = qs.length - i ∧ i ≤ qs.length ∧ Same (upd H4 l (.lst (qs.map fun q : Addr × List Str => V.ref q.1))) H' ∧ H' D = some (.dT ((qs.take i).map fun q => rowB (rowOf kv q.2))), ⟨qs.length, by simp, Nat.zero_le _, same_new hD, upd_same⟩, ?_⟩
    rintro i m H' ⟨rfl, hi, s5, h5⟩
    have hl5 := s5 _ _ (upd_same (H := H4) (a := l))
    by_cases lt : i < qs.length
    · refine .inr ⟨⟨_, _, SqL.of hl5, List.getElem?_eq_getElem (by rw [List.length_map]; exact lt)⟩, fun H6 => Same (upd H4 l (.lst (qs.map fun q : Addr × List Str => V.ref q.1))) H6 ∧ H6 D = some (.dT ((qs.take (i + 1)).map fun q => rowB (rowOf kv q.2))), fun H6 q => ⟨_, by omega, rfl, lt, q.1, q.2⟩, fun y H6 z => ?_⟩
      obtain ⟨rfl, z⟩ := z
      have ey : y = .ref qs[i].1 := by
        have q := z _ (SqL.of hl5)
        rw [List.getElem?_map, List.getElem?_eq_getElem lt] at q
        exact (Option.some.inj q).symm
      subst ey
      have hqi : qs[i] ∈ qs := List.getElem_mem lt
      obtain ⟨in1, in2⟩ := rowOf_in (kq _ hqi)
      have tq : H6 qs[i].1 = some (.tup ((qs[i].2.map Sum.inr : List Key).map kV)) := by
        rw [kV_strs]
        exact s5 _ _ (sl _ _ (hq _ hqi))
      have kn6 := (kn4.same sl).same s5
      have v6 : valV (kv.map rowT) (qs[i].2.map Sum.inr) = some (.ref (rowOf kv qs[i].2).ad) := by
        rcases valV_rows (kv := kv) (S := qs[i].2) with ⟨r, hr', e1, e2⟩ | ⟨no, _⟩
        · have : r = rowOf kv qs[i].2 := by
            obtain ⟨a, ha⟩ := List.getElem?_of_mem hr'
            obtain ⟨b, hb⟩ := List.getElem?_of_mem in1
            have ka : (keysOf kv)[a]? = some qs[i].2 := by unfold keysOf; rw [List.getElem?_map, ha, ← e1]; rfl
            have kb : (keysOf kv)[b]? = some qs[i].2 := by unfold keysOf; rw [List.getElem?_map, hb]; show some _ = _; rw [in2]
            have := nd_ix ok4.nd ka kb
            subst this
            rw [ha] at hb
            exact Option.some.inj hb
          rw [← this]
          exact e2
        · exact absurd (kq _ hqi) no
      have g6 : DGet H6 k0 (.ref qs[i].1) (some (.ref (rowOf kv qs[i].2).ad)) := v6 ▸ DGet.t kn6.at_ tq
      refine ⟨rfl, yesT ⟨_, rfl, _, rfl, _, rfl, k0, _, rfl, g6, (rowOf kv qs[i].2).ad, _, _, .int (rowOf kv qs[i].2).d, rfl, rfl, .inl (.inl (kn6.rows _ in1)), atI_nat (j := 0) rfl, ?_⟩⟩
      refine ⟨_, qs[i].2.map Sum.inr, qs[i].1, rfl, tq, h5, ?_, fun b o e => ?_, ?_⟩
      · rw [List.length_map, List.length_take]
        exact Nat.lt_of_le_of_lt (by omega : _ ≤ 4096) (by decide)
      · rw [upd_ne (ne_of_none e hD)]
        exact s5 _ _ e
      · have no : valV ((qs.take i).map fun q => rowB (rowOf kv q.2)) (qs[i].2.map Sum.inr) = none := by
          cases e : valV ((qs.take i).map fun q => rowB (rowOf kv q.2)) (qs[i].2.map Sum.inr) with
          | none => rfl
          | some u =>
            obtain ⟨p', hp', ep⟩ := List.mem_map.mp (valV_in e)
            obtain ⟨q', hq', rfl⟩ := List.mem_map.mp hp'
            have e3 : q'.2 = qs[i].2 := by
              have e4 : (rowOf kv q'.2).key = qs[i].2 := inr_inj ep
              rwa [(rowOf_in (kq q' (List.mem_of_mem_take hq'))).2] at e4
            obtain ⟨a, ha⟩ := List.getElem?_of_mem hq'
            have la : a < i := by
              have := (List.getElem?_eq_some_iff.mp ha).1
              rw [List.length_take] at this
              omega
            have ha2 : qs[a]? = some q' := by rwa [List.getElem?_take_of_lt la] at ha
            have k1 : (qs.map Prod.snd)[a]? = some qs[i].2 := by rw [List.getElem?_map, ha2]; show some q'.2 = _; rw [e3]
            have k2 : (qs.map Prod.snd)[i]? = some qs[i].2 := by rw [List.getElem?_map, List.getElem?_eq_getElem lt]; rfl
            have := nd_ix nodq k1 k2
            omega
        rw [upd_same, putK_new _ no, take_snoc (List.getElem?_eq_getElem lt), List.map_append]
        show some (HO.dT (_ ++ [((qs[i].2.map Sum.inr : List Key), V.int (rowOf kv qs[i].2).d)])) = some (HO.dT (_ ++ [rowB (rowOf kv qs[i].2)]))
        rw [show rowB (rowOf kv qs[i].2) = ((qs[i].2.map Sum.inr : List Key), V.int (rowOf kv qs[i].2).d) by show ((rowOf kv qs[i].2).key.map Sum.inr, _) = _; rw [in2]]
    · have ei : i = qs.length := by omega
      subst ei
      rw [List.take_length] at h5
      have keys : keysOf (qs.map fun q => rowOf kv q.2) = qs.map Prod.snd := by
        unfold keysOf
        rw [List.map_map]
        exact List.map_congr_left fun q hq' => (rowOf_in (kq q hq')).2
      have sub : ∀ r ∈ qs.map (fun q => rowOf kv q.2), r ∈ kv := fun r hr' => by
        obtain ⟨q, hq', rfl⟩ := List.mem_map.mp hr'
        exact (rowOf_in (kq q hq')).1
      refine .inl ⟨⟨_, SqL.of hl5, by rw [List.length_map]; exact Nat.le_refl _⟩, k H' ks' D (qs.map fun q => rowOf kv q.2) S (btA.trans (Same.but (sl.trans s5))) (past4.same (sl.trans s5)) ?_ (ok4.again (by rw [keys]; exact pq) sub) pm so (kk.imp id fun z => ?_)⟩
      · unfold TabAt
        rw [h5, List.map_map]
        rfl
      · rw [keys]
        exact pq.mem_iff.mpr z
end
end K65

set_option maxHeartbeats 200000
/-! K65Shows: is_bound, holds, shows_best. -/
namespace K65
open PySem L2
section
variable {P : Program} {w : World} {K : PySem.W.Frag} {mg : Str → Option Value} {base : Heap}
def spIsBound (K : PySem.W.Frag) : Sp := fun vs H Q _ => ∃ (hv : V) (t q : Addr) (ns S : List Str) (d : Int), vs = [hv, .ref t, .ref q, .int d] ∧ SqT K H t (ns.map V.str) ∧ SqT K H q (S.map V.str) ∧ 2 ≤ S.length ∧ S.length ≤ 12 ∧ (∀ n ∈ S, n ∈ ns) ∧ S.Nodup ∧ PyProof.Rows.sortedS S = true ∧ (∀ n ∈ S, IsId n) ∧ 1 ≤ d ∧
  ∀ H', Same H H' → Q (.bl true) H'
theorem sc_is_bound : FnScope ["history", "names", "some", "number", "name"] ["history", "names", "some", "number"] (defScope s_is_bound) := ⟨rfl, rfl, rfl, by decide +kernel, rfl, by decide +kernel, by decide +kernel⟩
theorem ok_is_bound (T : W K mg) : FnOk P w K mg base CX0 2 T.a_is_bound T.d_is_bound ["history", "names", "some", "number"] (spIsBound K) := by
  have b0 := T.F_is_whole.binds (ps := ["thing"]) fun _ _ _ _ _ _ us hl => match us, hl with | [_], _ => rfl
  refine T.F_is_bound.ok sc_is_bound (fun vs H Q E h => ?_) (fun cdv A0 outer s H vs Q E hr h => ?_)
  · obtain ⟨hv, t, q, ns, S, d, rfl, _⟩ := h
    rfl
  · obtain ⟨hv, t, q, ns, S, d, rfl, ht, hq, two, few, sub, nod, so, ids, d1, k⟩ := h
    have nd := sc_is_bound.nd
    refine ⟨_, pss_cons (ps_if (PW.pt (pw_or (pt_not (pt_val (pe_callB call_isi (by rfl) T.z_isinstance (by decide +kernel) (pa_cons (pv 2) (pa_cons (pe_bltn (v := .ty "tuple") (by rfl) T.z_tuple (by decide +kernel) rfl) pa_nil)))))
        (pw_or (pt_cmpR op_lt (pe_callB call_len_seq (by rfl) T.z_len PySem.boot_len (pa_cons (pv 2) pa_nil)) pe_int (nomark _))
        (pw_or (pt_not (pt_val (pe_call (ok_is_whole T) hr rfl T.g_is_whole T.F_is_whole.kp b0 .nil pass0 (pa_cons (pv 3) pa_nil)))) (pw_or1 (pt_cmpR op_lt (pv 3) pe_int (nomark _))))))) (pss_one (ps_ret pe_bl)) pss_nil)
      (pss_cons (ps_if (pt_not (pt_val (pe_callB (cr_all rfl) (by rfl) T.z_all (by decide +kernel) (pa_cons
          (pe_lc (own := [("name", 4)]) (g := gName 4) (tt := tYes) rfl nd (pi_tup (pv 2)) (blkOk_by (N := ["history", "names", "some", "number", "name"]) (sc := defScope s_is_bound) (by decide +kernel))
            (fun _ _ _ _ _ => pg_name (i := 4) nd rfl (Or.inl rfl)) (fun _ _ _ _ _ => pts_nil)
            (te := tAndV (tCB (rIsi K) (tCons (tVar 4) (tCons (tC (.ty "str")) tNil))) (tOp (rIn K false) (tVar 4) (tVar 1)))
            (fun _ _ _ _ _ => pe_and (pe_callB call_isi (by rfl) T.z_isinstance (by decide +kernel) (pa_cons (pv 4) (pa_cons (pe_bltn (v := .ty "str") (by rfl) T.z_str (by decide +kernel) rfl) pa_nil))) (pe_one (pe_cmpR op_in_seq (pv 4) (pv 1) rfl)))) pa_nil)))) (pss_one (ps_ret pe_bl)) pss_nil)
      (pss_one (ps_ret (pe_cmpR (op_eqD hr.units) (pe_callTy call_list_of (by rfl) T.z_list (by decide +kernel) (pa_cons (pv 2) pa_nil))
        (pe_callB (cr_sortedTx rfl) (by rfl) T.z_sorted (by decide +kernel) (pa_cons (pe_callTy (cr_setTx rfl) (by rfl) T.z_set (by decide +kernel) (pa_cons (pv 2) pa_nil)) pa_nil)) (nomark _))))), ?_⟩
    refine ⟨_, rfl, _, _, _, _, true, rfl, .ty "tuple", ty_sqt hq, kit_ty (by decide +kernel), true, rfl, iteF ?_⟩
    refine ⟨_, rfl, q, _, rfl, .inr hq, _, _, rfl, rfl, false, bF (by rw [List.length_map]; omega), iteF ?_⟩
    refine ⟨_, rfl, d, rfl, true, rfl, iteF ⟨_, rfl, _, _, rfl, rfl, false, bF (by omega), iteF ?_⟩⟩
    -- if not all([..])
    refine ⟨_, rfl, q, rfl, ⟨_, hq⟩, fun D hD => lc_fmT (K := K) S V.str (fun _ => true) (fun _ => .bl true) hq (Nat.le_trans few (by decide)) hD (fun n hn H' B C s1 hB _ => ?_) fun H' s1 hd => ?_⟩
    · refine ⟨rfl, lcY ⟨_, rfl, _, _, _, _, true, rfl, .ty "str", .base (.str n), kit_ty (by decide +kernel), true, rfl, iteT ⟨_, rfl, _, rfl, t, _, rfl, .inr (sqt_same s1 ht), rfl, flat_strs _, ?_⟩⟩⟩
      rw [inV_strs, decide_eq_true (sub n hn)]
      exact hB rfl _ (Same.refl _)
    rw [flt] at hd
    refine ⟨D, List.replicate S.length true, rfl, SqL.of (by rw [hd, List.map_const', List.map_replicate]), ?_⟩
    rw [List.all_eq_true.mpr fun b hb => by rw [List.eq_of_mem_replicate hb]; rfl]
    refine ⟨true, rfl, iteF ?_⟩
    -- list(some) == sorted(set(some))
    have hq1 := sqt_same s1 hq
    refine ⟨_, rfl, q, _, rfl, .inr hq1, fun l hl => ?_⟩
    have s2 := same_new (o := .lst (S.map V.str)) hl
    refine ⟨_, rfl, q, S, rfl, sqt_same s2 hq1, nod, by omega, fun p hp => ?_⟩
    have s3 := same_new (o := TxSetO w p S) hp
    refine ⟨p, S, rfl, upd_same, by omega, fun ys r pm sy hr2 => ?_⟩
    have e : ys = S := sorted_uniq pm so sy
    subst e
    have s4 := same_new (o := .lst (ys.map V.str)) hr2
    refine ⟨.list (ys.map PyData.str), .list (ys.map PyData.str), .lst (SqL.of (s4 _ _ (s3 _ _ upd_same))) (dpAll_strs ys), .lst (SqL.of upd_same) (dpAll_strs ys), shaped_ids ids, shaped_ids ids, ?_⟩
    rw [SeqAt.eqv_refl _ (SeqAt.canLay_of_shaped (shaped_ids ids))]
    exact k _ (((s1.trans s2).trans s3).trans s4)
/-! ### holds -/
theorem min_le {R : Str → Str → Bool} {S : List Str} {m : Str} {d d1 d2 : Nat} (h : IsMin R S d) (t : IsTest R S m) (h1 : IsMin R (badOf R S m) d1) (h2 : IsMin R (goodOf R S m) d2) : d ≤ 1 + max d1 d2 := by
  obtain ⟨⟨t1, p1, e1⟩, _⟩ := h1
  obtain ⟨⟨t2, p2, e2⟩, _⟩ := h2
  have z := h.2 _ (.node S m t1 t2 t p1 p2)
  have e : (Tree.node m t1 t2).depth = 1 + max t1.depth t2.depth := rfl
  omega
/-- what the table gives for a part -/
theorem tab_get {R : Str → Str → Bool} {H : Hp} {D b : Addr} {T0 Sq : List Str} {kv : List Row} (rd : Rd H D (.dT (kv.map rowB))) (o : KOk R T0 kv) (kk : Kn kv Sq) (hb : H b = some (.tup (Sq.map V.str))) : ∃ (v : Option V) (d : Nat), DGet H D (.ref b) v ∧ v.getD (.int 0) = .int d ∧ IsMin R Sq d := by
  have g : DGet H D (.ref b) (valV (kv.map rowB) (Sq.map Sum.inr)) := .inr ⟨_, Sq.map Sum.inr, b, rd, rfl, by rw [kV_strs]; exact hb, rfl⟩
  rcases valV_rowB (kv := kv) (S := Sq) with ⟨r, hr, rfl, e⟩ | ⟨no, e⟩
  · exact ⟨_, r.d, g, by rw [e]; rfl, o.min r hr⟩
  · have h1 := kk.resolve_right no
    obtain ⟨x, rfl⟩ := List.length_eq_one_iff.mp h1
    exact ⟨_, 0, g, by rw [e]; rfl, isMin_one x⟩
def spHolds (T : W K mg) : Sp := fun vs H Q _ => ∃ (ex : Bool) (g : Gr) (A : Ads) (U T0 : List Str) (q D : Addr) (kv : List Row) (r : Row), vs = [.ref A.h, .ref q, .int r.d, .ref D] ∧ PastAt T ex H g A U ∧ (∀ n ∈ r.key, n ∈ U) ∧ SqT K H q (r.key.map V.str) ∧ Rd H D (.dT (kv.map rowB)) ∧ KOk (RB g) T0 kv ∧ r ∈ kv ∧ r.key.length ≤ 12 ∧
  ∀ H', Same H H' → Q (.bl true) H'
theorem sc_holds : FnScope ["history", "some", "number", "table", "name", "sets", "one"] ["history", "some", "number", "table"] (defScope s_holds) := ⟨rfl, rfl, rfl, by decide +kernel, rfl, by decide +kernel, by decide +kernel⟩
theorem ok_holds (T : W K mg) : FnOk P w K mg base CX0 7 T.a_holds T.d_holds ["history", "some", "number", "table"] (spHolds T) := by
  have b0 := T.F_parted.binds (ps := ["history", "some", "name"]) fun _ _ _ _ _ _ us hl => match us, hl with | [_, _, _], _ => rfl
  refine T.F_holds.ok sc_holds (fun vs H Q E h => ?_) (fun cdv A0 outer s H vs Q E hr h => ?_)
  · obtain ⟨ex, g, A, U, T0, q, D, kv, r, rfl, _⟩ := h
    rfl
  · obtain ⟨ex, g, A, U, T0, q, D, kv, r, rfl, past, sub, hq, rd, o, hr1, few, k⟩ := h
    have nd := sc_holds.nd
    have hu := hu_of hr
    refine ⟨_, pss_cons (ps_for PassesOwn.never rfl (pi_tup (pv 1)) (pg_name (i := 4) nd rfl (Or.inl rfl))
        (pss_cons (ps_set (i := 5) nd rfl (Or.inl rfl) (pe_call (ok_parted T) hr rfl T.g_parted T.F_parted.kp b0 .nil pass0 (pa_cons (pv 0) (pa_cons (pv 1) (pa_cons (pv 4) pa_nil)))))
        (pss_one (ps_if (PW.pt (pw_and (pt_cmpR op_gt (pv 2) pe_int (nomark _)) (pw_and (pt_cmp (pc_notN (pv 5))) (pw_and1 (pt_cmpR op_lt (pe_callB (cr_max rfl) (by rfl) T.z_max (by decide +kernel) (pa_cons
            (pe_lc (own := [("one", 6)]) (g := gName 6) (tt := tYes) rfl nd (pi_tup (pv 5)) (blkOk_by (N := ["history", "some", "number", "table", "name", "sets", "one"]) (sc := defScope s_holds) (by decide +kernel))
              (fun _ _ _ _ _ => pg_name (i := 6) nd rfl (Or.inl rfl)) (fun _ _ _ _ _ => pts_nil)
              (fun _ _ _ _ _ => pe_dget2 hu (pv 3) (pv 6) pe_int ⟨rfl, rfl, rfl, rfl⟩)) pa_nil)) (pe_op op_sub (pv 2) pe_int) (nomark _)))))) (pss_one (ps_ret pe_bl)) pss_nil))))
      (pss_one (ps_ret pe_bl)), ?_⟩
    refine ⟨_, rfl, q, rfl, ⟨_, hq⟩, for_tup (K := K) (xs := r.key.map V.str) (fun i σ H' => (∃ b4 b5 b6, σ = [some (.ref A.h), some (.ref q), some (.int r.d), some (.ref D), b4, b5, b6]) ∧ Same H H') ⟨⟨_, _, _, rfl⟩, Same.refl _⟩ (fun i σ H' _ z => sqt_same z.2 hq) ?_ ?_⟩
    · rintro i v σ H1 hv ⟨⟨b4, b5, b6, rfl⟩, s1⟩
      rw [List.getElem?_map] at hv
      obtain ⟨m, hm, rfl⟩ := Option.map_eq_some_iff.mp hv
      have mem : m ∈ r.key := List.mem_of_getElem? hm
      refine ⟨_, rfl, _, rfl, _, rfl, ex, g, A, U, r.key, m, q, rfl, past.same s1, sub m mem, sqt_same s1 hq, by omega, fun eq H2 s2 => ?_, fun neq H2 p b c s2 hp hb hc => ?_⟩
      · refine ⟨_, rfl, _, _, rfl, rfl, _, rfl, ?_⟩
        by_cases h1 : (1 : Int) < r.d
        · rw [decide_eq_true h1]
          exact iteT ⟨_, rfl, _, rfl, iteF (iteF ⟨⟨_, _, _, rfl⟩, s1.trans s2⟩)⟩
        · rw [decide_eq_false h1]
          exact iteF (iteF ⟨⟨_, _, _, rfl⟩, s1.trans s2⟩)
      · refine ⟨_, rfl, _, _, rfl, rfl, _, rfl, ?_⟩
        by_cases h1 : (1 : Int) < r.d
        · rw [decide_eq_true h1]
          refine iteT ⟨_, rfl, _, rfl, ?_⟩
          rw [show decide (V.ref p = V.non) = false from decide_eq_false (by intro z; cases z)]
          have tst : IsTest (RB g) r.key m := ⟨mem, neq⟩
          obtain ⟨k1, k2⟩ := o.cl r hr1 m tst
          have rd2 := rd_same (s1.trans s2) rd
          obtain ⟨v1, d1, _, f1, m1⟩ := tab_get rd2 o k1 hb
          obtain ⟨v2, d2, _, f2, m2⟩ := tab_get rd2 o k2 hc
          refine iteT ⟨_, rfl, p, rfl, ⟨_, .inl (.inl hp)⟩, fun E0 hE0 => ?_⟩
          refine lc_fmT (K := K) [(b, badOf (RB g) r.key m, d1), (c, goodOf (RB g) r.key m, d2)] (fun z => .ref z.1) (fun _ => true) (fun z => .int z.2.2) (.inl (.inl hp)) (by show 2 ≤ sizeLine; decide) hE0 (fun z hz H' B C s3 hB _ => ?_) fun H' s3 hd => ?_
          · have rd3 := rd_same s3 rd2
            have go : ∀ {x : Addr} {Sq : List Str} {dq : Nat}, H' x = some (.tup (Sq.map V.str)) → Kn kv Sq → IsMin (RB g) Sq dq → ∃ v, DGet H' D (.ref x) v ∧ v.getD (.int 0) = .int dq := fun hx kx mx => by
              obtain ⟨v, d', g1, g2, g3⟩ := tab_get rd3 o kx hx
              rw [mx.inj g3]
              exact ⟨v, g1, g2⟩
            obtain ⟨v, g1, g2⟩ : ∃ v, DGet H' D (.ref z.1) v ∧ v.getD (.int 0) = .int z.2.2 := by
              rcases List.mem_cons.mp hz with rfl | hz
              · exact go (s3 _ _ hb) k1 m1
              · rw [List.mem_singleton.mp hz]
                exact go (s3 _ _ hc) k2 m2
            refine ⟨rfl, lcY ⟨_, rfl, D, rfl, .inr ⟨_, rd3⟩, _, rfl, v, g1, ?_⟩⟩
            rw [g2]
            exact hB rfl _ (Same.refl _)
          · rw [flt] at hd
            refine ⟨E0, [(d1 : Int), (d2 : Int)], rfl, SqL.of hd, (by show 0 < 2; decide), fun M hM hmax => ?_⟩
            have le := min_le (o.min r hr1) tst m1 m2
            have a1 := hmax d1 (by simp)
            have a2 := hmax d2 (by simp)
            refine ⟨_, rfl, _, _, rfl, rfl, _, _, rfl, rfl, false, bF (by omega), iteF ⟨⟨_, _, _, rfl⟩, (s1.trans s2).trans s3⟩⟩
        · rw [decide_eq_false h1]
          exact iteF (iteF ⟨⟨_, _, _, rfl⟩, s1.trans s2⟩)
    · rintro σ H1 ⟨⟨b4, b5, b6, rfl⟩, s1⟩
      exact k H1 s1
end
end K65

set_option maxHeartbeats 200000
/-! K65Shows2: shows_best. -/
namespace K65
open PySem L2
section
variable {P : Program} {w : World} {K : PySem.W.Frag} {mg : Str → Option Value} {base : Heap}
theorem same_unlock2 {H H' : Hp} {d : Addr} {od : Obj} {u : HO} (hd : H d = some u) (s : Same (upd H d (.frz od u)) H') : Same H (upd H' d u) := same_unlock hd s
def spShows (T : W K mg) : Sp := fun vs H Q _ => ∃ (ex : Bool) (g : Gr) (h st kd e kn t D : Addr) (ks : List (Str × V)) (ns S : List Str) (kv : List Row) (d : Int), vs = [.ref h, .ref t, .int d, .ref D] ∧ AskIn T ex H g h st kd e kn t ks ns ∧ TabAt H D kv ∧ KOk (RB g) S kv ∧ S.Perm ns ∧
  PyProof.Rows.sortedS S = true ∧ ((S.length = 1 ∧ d ≤ 0) ∨ ∃ r ∈ kv, r.key = S ∧ d ≤ r.d) ∧ ∀ H', But kn H H' → Q (.bl true) H'
theorem sc_shows : FnScope ["history", "names", "depth", "bounds", "some", "number"] ["history", "names", "depth", "bounds"] (defScope s_shows_best) := ⟨rfl, rfl, rfl, by decide +kernel, rfl, by decide +kernel, by decide +kernel⟩
theorem ok_shows (T : W K mg) : FnOk P w K mg base CX0 8 T.a_shows_best T.d_shows_best ["history", "names", "depth", "bounds"] (spShows T) := by
  have b0 := T.F_check_set.binds (ps := ["history", "names"]) fun _ _ _ _ _ _ us hl => match us, hl with | [_, _], _ => rfl
  have b1 := T.F_is_whole.binds (ps := ["thing"]) fun _ _ _ _ _ _ us hl => match us, hl with | [_], _ => rfl
  have b2 := T.F_is_bound.binds (ps := ["history", "names", "some", "number"]) fun _ _ _ _ _ _ us hl => match us, hl with | [_, _, _, _], _ => rfl
  have b3 := T.F_holds.binds (ps := ["history", "some", "number", "table"]) fun _ _ _ _ _ _ us hl => match us, hl with | [_, _, _, _], _ => rfl
  refine T.F_shows_best.ok sc_shows (fun vs H Q E h => ?_) (fun cdv A0 outer s H vs Q E hr h => ?_)
  · obtain ⟨ex, g, h, st, kd, e, kn, t, D, ks, ns, S, kv, d, rfl, _⟩ := h
    rfl
  · obtain ⟨ex, g, h, st, kd, e, kn, t, D, ks, ns, S, kv, d, rfl, x, tab, o, pm, so, last, k⟩ := h
    have nd := sc_shows.nd
    have hu := hu_of hr
    refine ⟨_, pss_cons (ps_expr (pe_call (ok_check_set T) hr rfl T.g_check_set T.F_check_set.kp b0 .nil pass0 (pa_cons (pv 0) (pa_cons (pv 1) pa_nil))))
      (pss_cons (ps_if (PW.pt (pw_or (pt_not (pt_val (pe_callB call_isi (by rfl) T.z_isinstance (by decide +kernel) (pa_cons (pv 3) (pa_cons (pe_bltn (v := .ty "dict") (by rfl) T.z_dict (by decide +kernel) rfl) pa_nil)))))
        (pw_or1 (pt_not (pt_val (pe_call (ok_is_whole T) (hr.mono (by decide)) rfl T.g_is_whole T.F_is_whole.kp b1 .nil pass0 (pa_cons (pv 2) pa_nil))))))) (pss_one (ps_ret pe_bl)) pss_nil)
      (pss_cons (ps_if (pt_not (pt_val (pe_callB (cr_all rfl) (by rfl) T.z_all (by decide +kernel) (pa_cons (pe_lock
          (pe_lc (own := [("some", 4), ("number", 5)]) (g := gTup K 2 (gCons (gName 4) (gCons (gName 5) gNil))) (tt := tYes) rfl nd (pi_itemsT (pv 3)) (blkOk_by (N := ["history", "names", "depth", "bounds", "some", "number"]) (sc := defScope s_shows_best) (by decide +kernel))
            (fun _ _ _ _ _ => pg_tup rfl (pgs_cons (pg_name (i := 4) nd rfl (Or.inl rfl)) (pgs_cons (pg_name (i := 5) nd rfl (Or.inl rfl)) pgs_nil))) (fun _ _ _ _ _ => pts_nil)
            (fun _ _ _ _ _ => pe_call (ok_is_bound T) (hr.mono (by decide)) rfl T.g_is_bound T.F_is_bound.kp b2 .nil pass0 (pa_cons (pv 0) (pa_cons (pv 1) (pa_cons (pv 4) (pa_cons (pv 5) pa_nil))))))) pa_nil)))) (pss_one (ps_ret pe_bl)) pss_nil)
      (pss_cons (ps_if (pt_not (pt_val (pe_callB (cr_all rfl) (by rfl) T.z_all (by decide +kernel) (pa_cons (pe_lock
          (pe_lc (own := [("some", 4), ("number", 5)]) (g := gTup K 2 (gCons (gName 4) (gCons (gName 5) gNil))) (tt := tYes) rfl nd (pi_itemsT (pv 3)) (blkOk_by (N := ["history", "names", "depth", "bounds", "some", "number"]) (sc := defScope s_shows_best) (by decide +kernel))
            (fun _ _ _ _ _ => pg_tup rfl (pgs_cons (pg_name (i := 4) nd rfl (Or.inl rfl)) (pgs_cons (pg_name (i := 5) nd rfl (Or.inl rfl)) pgs_nil))) (fun _ _ _ _ _ => pts_nil)
            (fun _ _ _ _ _ => pe_call (ok_holds T) hr rfl T.g_holds T.F_holds.kp b3 .nil pass0 (pa_cons (pv 0) (pa_cons (pv 4) (pa_cons (pv 5) (pa_cons (pv 3) pa_nil))))))) pa_nil)))) (pss_one (ps_ret pe_bl)) pss_nil)
      (pss_one (ps_ret (pe_cmpR op_ge (pe_dget2 hu (pv 3) (pe_callTy call_tuple_of (by rfl) T.z_tuple (by decide +kernel) (pa_cons (pe_callB cr_sortedTup (by rfl) T.z_sorted (by decide +kernel) (pa_cons (pv 1) pa_nil)) pa_nil)) pe_int ⟨rfl, rfl, rfl, rfl⟩) (pv 2) (nomark _))))))), ?_⟩
    refine ⟨_, rfl, _, rfl, x.check fun H1 ks' bt1 past1 at1 _ => ?_⟩
    have tab1 : H1 D = some (.dT (kv.map rowB)) := bt1 _ _ tab (ne_of tab x.kw.at_ (by intro z; cases z))
    refine ⟨_, rfl, _, _, _, _, true, rfl, .ty "dict", .base (.dT tab1), kit_ty (by decide +kernel), true, rfl, iteF ?_⟩
    refine ⟨_, rfl, d, rfl, true, rfl, iteF ?_⟩
    have len : S.length = ns.length := pm.length_eq
    have fewS : S.length ≤ 12 := by rw [len]; exact x.few
    have nodS : S.Nodup := pm.nodup_iff.mpr x.nd
    have fewk : kv.length ≤ 4096 := o.few fewS
    have kmem : ∀ r ∈ kv, (∀ n ∈ r.key, n ∈ ns) ∧ r.key.length ≤ 12 := fun r hr1 => ⟨fun n hn => pm.mem_iff.mp ((o.sub r hr1).subset hn), Nat.le_trans (o.sub r hr1).length_le fewS⟩
    -- the items' turns
    have turn : ∀ {H0 : Hp} {od : Obj} {E0 : Addr} {te : TE} {Qd : Hp → Prop}, H0 D = some (.frz od (.dT (kv.map rowB))) → H0 E0 = none →
        (∀ (r : Row) (q T0 : Addr) (H' : Hp) (B : V → Hp → Prop), r ∈ kv → Same H0 H' → H' q = some (.tup (r.key.map V.str)) → (∀ H4, Same H' H4 → B (.bl true) H4) →
          te [some (.ref h), some (.ref t), some (.int d), some (.ref D), some (.ref q), some (.int r.d)] H' B) →
        (∀ H', Same H0 H' → H' E0 = some (.lst (List.replicate kv.length (.bl true))) → Qd H') →
        ∃ W : Nat → Nat → Hp → Prop, (∃ m, W 0 m (upd H0 E0 (.lst []))) ∧ ∀ i m H, W i m H →
          ((ItiT D od (kv.map rowB)).stop i H ∧ Qd H) ∨ ((ItiT D od (kv.map rowB)).go i H ∧ ∃ Nx : Hp → Prop, (∀ H', Nx H' → ∃ m', m' < m ∧ W (i + 1) m' H') ∧ ∀ x H', (ItiT D od (kv.map rowB)).yld i H x H' → gTup K 2 (gCons (gName 4) (gCons (gName 5) gNil)) x (wipe [some (.ref h), some (.ref t), some (.int d), some (.ref D), none, none] [4, 5]) H' fun σ2 H2 => wipe σ2 [4, 5] = wipe [some (.ref h), some (.ref t), some (.int d), some (.ref D), none, none] [4, 5] ∧ tYes σ2 H2 fun b H3 =>
            if b = true then te σ2 H3 fun y H4 => ∃ acc, H4 E0 = some (.lst acc) ∧ acc.length < sizeLine ∧ Nx (upd H4 E0 (.lst (acc ++ [y]))) else Nx H3) := by
      intro H0 od E0 te Qd fr hE body fin
      refine lc_it walk_itemsT (fun i H' => i ≤ kv.length ∧ Same H0 H' ∧ H' E0 = some (.lst (List.replicate i (.bl true)))) ⟨Nat.zero_le _, same_new hE, upd_same⟩ (fun i H' _ q => q.2.1 _ _ fr) ?_ (fun H' q => ?_)
      · rintro i y H2 H3 hi ⟨le, s2, h2⟩ ⟨p, key, v, q, e1, rfl, hp, hq, rfl⟩
        rw [List.getElem?_map] at e1
        obtain ⟨r, hr1, e2⟩ := Option.map_eq_some_iff.mp e1
        obtain ⟨rfl, rfl⟩ := Prod.mk.inj e2
        have lt : i < kv.length := (List.getElem?_eq_some_iff.mp hr1).1
        have s3 := same_new (o := .tup [.ref q, .int r.d]) hp
        rw [kV_strs] at hq
        refine ⟨p, _, rfl, .inl (.inl upd_same), rfl, _, _, rfl, _, _, rfl, rfl, rfl, yesT (body r q p _ _ (List.mem_of_getElem? hr1) (s2.trans s3) (s3 _ _ hq) fun H4 s4 => ⟨_, s4 _ _ (s3 _ _ h2), ?_, lt, same_mut ((s2.trans s3).trans s4) hE, by rw [upd_same, List.replicate_succ']⟩)⟩
        rw [List.length_replicate]
        exact Nat.lt_of_lt_of_le (by omega : i < 5000) (by decide)
      · rw [List.length_map] at q
        exact fin H' q.2.1 q.2.2
    have lockf : ∀ (H2 : Hp) (od : Obj), But D H2 (upd H2 D (.frz od (.dT (kv.map rowB)))) := fun H2 od b u e n => by rw [upd_ne n]; exact e
    have bools : ∀ (E0 : Addr) (H' : Hp), H' E0 = some (.lst (List.replicate kv.length (.bl true))) → E0 ≠ D → SqL K (upd H' D (.dT (kv.map rowB))) E0 ((List.replicate kv.length true).map V.bl) := fun E0 H' h n => SqL.of (by rw [upd_ne n, List.map_replicate]; exact h)
    have allT : ((List.replicate kv.length true).all id) = true := List.all_eq_true.mpr fun b hb => by rw [List.eq_of_mem_replicate hb]; rfl
    -- all([is_bound(..) ..])
    refine ⟨D, _, tab1, trivial, fun od => ⟨_, rfl, D, od, _, rfl, upd_same, fun E0 hE0 => turn upd_same hE0 (fun r q T0 H' B hr1 s2 hq kB => ?_) (fun H' s2 hd => ?_)⟩⟩
    · refine ⟨_, rfl, _, rfl, _, rfl, _, rfl, _, t, q, ns, r.key, r.d, rfl, sqt_same s2 (lo_sqt tab1 trivial (lockf H1 od) at1), .inl (.inl hq), o.two r hr1, (kmem r hr1).2, (kmem r hr1).1, nodS.sublist (o.sub r hr1), sorted_sub (o.sub r hr1) so, fun n hn => x.ok.ids n (x.sub n ((kmem r hr1).1 n hn)), ?_, kB⟩
      have := isMin_pos (o.min r hr1) (o.two r hr1)
      omega
    have nE : E0 ≠ D := fun z => by rw [z, upd_same] at hE0; cases hE0
    refine ⟨s2 _ _ upd_same, E0, List.replicate kv.length true, rfl, bools E0 H' hd nE, ?_⟩
    rw [allT]
    refine ⟨true, rfl, iteF ?_⟩
    have s3 : Same H1 (upd H' D (.dT (kv.map rowB))) := same_unlock tab1 s2
    have tab3 : (upd H' D (.dT (kv.map rowB))) D = some (.dT (kv.map rowB)) := upd_same
    generalize upd H' D (.dT (kv.map rowB)) = H3 at s3 tab3
    -- all([holds(..) ..])
    refine ⟨D, _, tab3, trivial, fun od2 => ⟨_, rfl, D, od2, _, rfl, upd_same, fun E1 hE1 => turn upd_same hE1 (fun r q T0 H' B hr1 s4 hq kB => ?_) (fun H' s4 hd => ?_)⟩⟩
    · exact ⟨_, rfl, _, rfl, _, rfl, _, rfl, ex, g, ⟨h, st, kd, e, kn, ks'⟩, ns, S, q, D, kv, r, rfl, ((past1.same s3).but tab3 trivial (lockf H3 od2)).same s4, (kmem r hr1).1, .inl (.inl hq), .inr ⟨od2, s4 _ _ upd_same⟩, o, hr1, (kmem r hr1).2, kB⟩
    have nE1 : E1 ≠ D := fun z => by rw [z, upd_same] at hE1; cases hE1
    refine ⟨s4 _ _ upd_same, E1, List.replicate kv.length true, rfl, bools E1 H' hd nE1, ?_⟩
    rw [allT]
    refine ⟨true, rfl, iteF ?_⟩
    have s5 : Same H3 (upd H' D (.dT (kv.map rowB))) := same_unlock tab3 s4
    have tab5 : (upd H' D (.dT (kv.map rowB))) D = some (.dT (kv.map rowB)) := upd_same
    generalize upd H' D (.dT (kv.map rowB)) = H5 at s5 tab5
    -- bounds.get(tuple(sorted(names)), 0) >= depth
    have s15 := s3.trans s5
    refine ⟨_, rfl, D, rfl, .inr ⟨_, .inl tab5⟩, _, rfl, t, ns, rfl, sqt_same s15 at1, by have := x.few; omega, fun S' p pm' so' hp => ?_⟩
    have eS : S' = S := sorted_uniq (pm'.trans pm.symm) so so'
    subst eS
    refine ⟨p, _, rfl, .inl ⟨SqL.of upd_same, fun ts hts => ?_⟩⟩
    have s6 := same_new (o := .lst (S'.map V.str)) hp
    have s7 := same_new (o := .tup (S'.map V.str)) hts
    have g1 : DGet (upd (upd H5 p (.lst (S'.map V.str))) ts (.tup (S'.map V.str))) D (.ref ts) (valV (kv.map rowB) (S'.map Sum.inr)) := .inr ⟨_, S'.map Sum.inr, ts, .inl (s7 _ _ (s6 _ _ tab5)), rfl, by rw [kV_strs]; exact upd_same, rfl⟩
    refine ⟨_, g1, _, rfl, ?_⟩
    have fin := k _ (bt1.trans (Same.but ((s15.trans s6).trans s7)))
    rcases valV_rowB (kv := kv) (S := S') with ⟨r, hr1, e1, e2⟩ | ⟨no, e2⟩
    · rw [e2]
      have le : d ≤ r.d := by
        rcases last with ⟨l1, _⟩ | ⟨r2, hr2, e3, le⟩
        · have := o.two r hr1
          rw [e1] at this
          omega
        · have m1 := o.min r hr1
          have m2 := o.min r2 hr2
          rw [e1] at m1
          rw [e3] at m2
          rw [m1.inj m2]
          exact le
      exact ⟨_, _, rfl, rfl, qT (Q := Q) le fin⟩
    · rw [e2]
      have le : d ≤ 0 := by
        rcases last with ⟨_, l1⟩ | ⟨r2, hr2, e3, _⟩
        · exact l1
        · exact absurd (List.mem_map.mpr ⟨r2, hr2, e3⟩) no
      exact ⟨_, _, rfl, rfl, qT (Q := Q) le fin⟩
end
end K65

set_option maxHeartbeats 200000
/-! K65Led: the search led by next, as a plan. -/
namespace K65
open PySem
variable {g : Gr}
/-- how many are left at the worst -/
noncomputable def worst (g : Gr) (C : List Str) (n : Str) : Nat := max (badOf (RB g) C n).length (C.length - (badOf (RB g) C n).length)
noncomputable abbrev keyD (g : Gr) (C : List Str) (n : Str) : PyData := .tuple [.int (worst g C n), .int (0 - g.tm n), .str n]
/-- what next gives -/
def Best (g : Gr) (C : List Str) (n : Str) : Prop := IsTest (RB g) C n ∧ ∀ m, IsTest (RB g) C m → W.dataLt (keyD g C m) (keyD g C n) = false
theorem Best.uniq {C : List Str} {n m : Str} (h : Best g C n) (k : Best g C m) : n = m := by
  have a := h.2 m k.1
  have b := k.2 n h.1
  rw [lt_iis] at a b
  have a := of_decide_eq_false a
  have b := of_decide_eq_false b
  have e1 : (worst g C m : Int) = worst g C n := by
    rcases Int.lt_trichotomy (worst g C m : Int) (worst g C n) with q | q | q
    · exact absurd (.inl q) a
    · exact q
    · exact absurd (.inl q) b
  have e2 : 0 - g.tm m = 0 - g.tm n := by
    rcases Int.lt_trichotomy (0 - g.tm m) (0 - g.tm n) with q | q | q
    · exact absurd (.inr ⟨e1, .inl q⟩) a
    · exact q
    · exact absurd (.inr ⟨e1.symm, .inl q⟩) b
  refine les_anti (les_iff.mpr fun q => a (.inr ⟨e1, .inr ⟨e2, q⟩⟩)) (les_iff.mpr fun q => b (.inr ⟨e1.symm, .inr ⟨e2.symm, q⟩⟩))
theorem best_some {C : List Str} (h : ∃ n, IsTest (RB g) C n) : ∃ n, Best g C n := by
  classical
  obtain ⟨n0, h0⟩ := h
  have hf : n0 ∈ C.filter fun m => decide (IsTest (RB g) C m) := List.mem_filter.mpr ⟨h0.1, decide_eq_true h0⟩
  match e : C.filter fun m => decide (IsTest (RB g) C m), hf with
  | a :: r, _ =>
    obtain ⟨h1, h2, h3⟩ := minD_least (r.map (keyD g C)) (keyD g C a)
    have all : ∀ m, IsTest (RB g) C m → m = a ∨ m ∈ r := fun m hm => by
      have z : m ∈ C.filter fun m => decide (IsTest (RB g) C m) := List.mem_filter.mpr ⟨hm.1, decide_eq_true hm⟩
      rw [e] at z
      exact List.mem_cons.mp z
    have tst : ∀ m, m ∈ a :: r → IsTest (RB g) C m := fun m hm => by
      rw [← e] at hm
      exact of_decide_eq_true (List.mem_filter.mp hm).2
    have fin : ∀ n, n ∈ a :: r → W.minD (keyD g C a) (r.map (keyD g C)) = keyD g C n → Best g C n := fun n hn en => by
      rw [en] at h2 h3
      refine ⟨tst n hn, fun m hm => ?_⟩
      rcases all m hm with rfl | q
      · exact h2
      · exact h3 _ (List.mem_map_of_mem q)
    rcases h1 with q | q
    · exact ⟨a, fin a List.mem_cons_self q⟩
    · obtain ⟨n, hn, en⟩ := List.mem_map.mp q
      exact ⟨n, fin n (List.mem_cons_of_mem _ hn) en.symm⟩
inductive Led (g : Gr) : List Str → Tree Str → Prop
  | leaf (x : Str) : Led g [x] (.leaf x)
  | node {C : List Str} {n : Str} {b t : Tree Str} : Best g C n → Led g (badOf (RB g) C n) b → Led g (goodOf (RB g) C n) t → Led g C (.node n b t)
theorem Led.plan {C : List Str} {t : Tree Str} (h : Led g C t) : Plan (RB g) C t := by
  induction h with
  | leaf x => exact .leaf x
  | node hb _ _ i1 i2 => exact .node _ _ _ _ hb.1 i1 i2
theorem led_some (o : g.Ok) : ∀ (k : Nat) (C : List Str), C.length ≤ k → 1 ≤ C.length → C.Nodup → (∀ x ∈ C, x ∈ g.ns) → ∃ t, Led g C t := by
  intro k
  induction k with
  | zero => intro C h1 h2; omega
  | succ k ih =>
    intro C h1 h2 nd sub
    by_cases e : C.length = 1
    · obtain ⟨x, rfl⟩ := List.length_eq_one_iff.mp e
      exact ⟨_, .leaf x⟩
    · obtain ⟨n, hn⟩ := best_some (exists_test (R := RB g) nd (fun a b ha hb p q => Reach.anti o (sub a ha) (sub b hb) (rb_iff.mp p) (rb_iff.mp q)) (by omega))
      have h3 := good_pos hn.1
      have h4 := bad_pos (fun x _ => rb_refl g x) hn.1.1
      have h5 := len_split (R := RB g) C n
      obtain ⟨b, hb⟩ := ih (badOf (RB g) C n) (by omega) h4 (nd.filter _) fun x hx => sub x (mem_bad.mp hx).1
      obtain ⟨t, ht⟩ := ih (goodOf (RB g) C n) (by omega) h3 (nd.filter _) fun x hx => sub x (mem_good.mp hx).1
      exact ⟨_, .node hn hb ht⟩
/-- on a chain it halves -/
theorem led_log {f : Str → Nat} {C : List Str} {t : Tree Str} (h : Led g C t) : Chain (RB g) f C → ∀ d, C.length ≤ 2 ^ d → t.depth ≤ d := by
  induction h with
  | leaf x => intro _ d _; exact Nat.zero_le _
  | @node C n b t hb l1 l2 i1 i2 =>
    intro c d hd
    have h3 := good_pos hb.1
    have h4 := bad_pos (fun x _ => rb_refl g x) hb.1.1
    have h5 := len_split (R := RB g) C n
    cases d with
    | zero => simp at hd; omega
    | succ d =>
      rw [Nat.pow_succ] at hd
      obtain ⟨m, hm, em⟩ := chain_rank C.length C rfl c ((C.length + 1) / 2) (by omega) (by omega)
      have tm : IsTest (RB g) C m := ⟨hm, by omega⟩
      have le := hb.2 m tm
      rw [lt_iis] at le
      have le := of_decide_eq_false le
      have w : ¬ ((worst g C m : Int) < (worst g C n : Int)) := fun q => le (.inl q)
      have wm : worst g C m ≤ 2 ^ d := by
        unfold worst
        rw [em]
        omega
      have wn : worst g C n ≤ 2 ^ d := by omega
      unfold worst at wn
      have a := i1 (c.filter _) d (by omega)
      have a2 := i2 (c.filter _) d (by omega)
      show 1 + max b.depth t.depth ≤ d + 1
      omega
theorem led_isLog {f : Str → Nat} {C : List Str} {t : Tree Str} (h : Led g C t) (c : Chain (RB g) f C) : IsLog C.length t.depth := ⟨plan_low h.plan, fun e he => led_log h c e he⟩
/-- sorted lists without repeats, the same members: the same list -/
theorem same_sorted {xs ys : List Str} (h1 : xs.Nodup) (h2 : ys.Nodup) (s1 : PyProof.Rows.sortedS xs = true) (s2 : PyProof.Rows.sortedS ys = true) (h : ∀ x, x ∈ xs ↔ x ∈ ys) : xs = ys :=
  sorted_uniq (List.perm_ext_iff_of_nodup h1 h2 |>.mpr h) s2 s1
end K65

set_option maxHeartbeats 200000
/-! K65Search: Search(..), marked, candidates. -/
namespace K65
open PySem L2
section
variable {P : Program} {w : World} {K : PySem.W.Frag} {mg : Str → Option Value} {base : Heap}
/-- a mark: where it stands, its word, its name -/
abbrev Mk3 := Addr × Str × Str
structure SearchAt (T : W K mg) (H : Hp) (s : Addr) (h ml : Addr) (ms : List Mk3) : Prop where
  ins : ∃ dx, H s = some (.ins T.CSearch dx [("past", .ref h), ("marks", .ref ml)])
  at_ : H ml = some (.lst (ms.map fun m => .ref m.1))
  obj : ∀ m ∈ ms, H m.1 = some (.tup [.str m.2.1, .str m.2.2])
  few : ms.length ≤ 40
theorem SearchAt.same {T : W K mg} {H H' : Hp} {s h ml : Addr} {ms : List Mk3} (x : SearchAt T H s h ml ms) (e : Same H H') : SearchAt T H' s h ml ms :=
  ⟨let ⟨dx, z⟩ := x.ins; ⟨dx, e _ _ z⟩, e _ _ x.at_, fun m hm => e _ _ (x.obj m hm), x.few⟩
def namesOf (ms : List Mk3) (word : Str) : List Str := (ms.filter fun m => decide (m.2.1 = word)).map fun m => m.2.2
def spSearchInit (T : W K mg) : Sp := fun vs H Q _ => ∃ (s dx h : Addr), vs = [.ref s, .ref h] ∧ H s = some (.ins T.CSearch dx []) ∧
  ∀ (H' : Hp) (ml : Addr), H ml = none → SearchAt T H' s h ml [] → But s H H' → Q .non H'
theorem sc_seinit : FnScope ["self", "history"] ["self", "history"] (defScope s_Search_DinitD) := ⟨rfl, rfl, rfl, by decide +kernel, rfl, by decide +kernel, by decide +kernel⟩
theorem ok_seinit (T : W K mg) : FnOk P w K mg base CX0 1 T.a_Search_DinitD T.d_Search_DinitD ["self", "history"] (spSearchInit T) := by
  refine T.F_Search_DinitD.ok sc_seinit (fun vs H Q E h => ?_) (fun cdv A outer s H vs Q E hr h => ?_)
  · obtain ⟨s, dx, h, rfl, _⟩ := h
    rfl
  · obtain ⟨p, dx, h, rfl, hp, k⟩ := h
    refine ⟨_, pss_cons (ps_fld (pv 0) (pv 1) rfl) (pss_one (ps_fld (pv 0) (pe_lst pa_nil) rfl)), ?_⟩
    refine ⟨_, rfl, _, rfl, p, T.CSearch, dx, [], rfl, hp, T.clSearch, T.nSearch_past, (by show 0 < 1000; decide), ?_⟩
    refine ⟨(by show 0 ≤ sizeLine; decide), fun ml hml => ?_⟩
    have npm : p ≠ ml := ne_of_none upd_same hml
    have hm0 : H ml = none := by rwa [upd_ne npm.symm] at hml
    refine ⟨_, rfl, p, T.CSearch, dx, [("past", .ref h)], rfl, by rw [upd_ne npm, upd_same]; rfl, T.clSearch, T.nSearch_marks, (by show 1 < 1000; decide), ?_⟩
    refine k _ ml hm0 ⟨⟨dx, upd_same⟩, by rw [upd_ne npm.symm, upd_same]; rfl, (fun _ h => by cases h), by show 0 ≤ 40; decide⟩ fun b o e hb => ?_
    rw [upd_ne hb, upd_ne (ne_of_none e hm0), upd_ne hb]
    exact e
/-! ### marked -/
def spMarked (T : W K mg) : Sp := fun vs H Q _ => ∃ (s h ml : Addr) (ms : List Mk3) (word : Str), vs = [.ref s, .str word] ∧ SearchAt T H s h ml ms ∧ ∀ (H' : Hp) (D : Addr), Same H H' → H D = none → H' D = some (.lst ((namesOf ms word).map V.str)) → Q (.ref D) H'
theorem sc_marked : FnScope ["self", "word", "one", "name"] ["self", "word"] (defScope s_Search_marked) := ⟨rfl, rfl, rfl, by decide +kernel, rfl, by decide +kernel, by decide +kernel⟩
theorem ok_marked (T : W K mg) : FnOk P w K mg base CX0 1 T.a_Search_marked T.d_Search_marked ["self", "word"] (spMarked T) := by
  refine T.F_Search_marked.ok sc_marked (fun vs H Q E h => ?_) (fun cdv A outer s H vs Q E hr h => ?_)
  · obtain ⟨s, h, ml, ms, word, rfl, _⟩ := h
    rfl
  · obtain ⟨p, h, ml, ms, word, rfl, x, k⟩ := h
    have nd := sc_marked.nd
    obtain ⟨dx, hp⟩ := x.ins
    refine ⟨_, pss_one (ps_ret (pe_lc (own := [("one", 2), ("name", 3)]) (g := gTup K 2 (gCons (gName 2) (gCons (gName 3) gNil))) (tt := tTest (tOp rEq (tVar 2) (tVar 1))) (te := tVar 3) rfl nd (pi_list (pe_fld (pv 0) rfl)) (blkOk_by (N := ["self", "word", "one", "name"]) (sc := defScope s_Search_marked) (by decide +kernel))
      (fun _ _ _ _ _ => pg_tup rfl (pgs_cons (pg_name (i := 2) nd rfl (Or.inl rfl)) (pgs_cons (pg_name (i := 3) nd rfl (Or.inl rfl)) pgs_nil))) (fun _ _ _ _ _ => pts_one (pt_cmpR op_eq (pv 2) (pv 1) (nomark _))) (fun _ _ _ _ _ => pv 3))), ?_⟩
    refine ⟨_, rfl, p, T.CSearch, dx, _, _, rfl, hp, T.clSearch, T.nSearch_marks, rfl, ml, rfl, ⟨_, SqL.of x.at_⟩, fun D hD => lc_fmL (K := K) ms (fun m => .ref m.1) (fun m => decide (m.2.1 = word)) (fun m => .str m.2.2) (SqL.of x.at_) (Nat.le_trans x.few (by decide)) hD (fun m hm H' B C s1 hB hC => ?_) fun H' s1 hd => ?_⟩
    · refine ⟨m.1, _, rfl, .inl (.inl (s1 _ _ (x.obj m hm))), rfl, _, _, rfl, _, _, rfl, rfl, rfl, _, rfl, _, rfl, rfl, _, rfl, ?_⟩
      by_cases e : m.2.1 = word
      · rw [show decide (V.str m.2.1 = V.str word) = true from decide_eq_true (by rw [e])]
        exact iteT ⟨_, rfl, hB (decide_eq_true e) _ (Same.refl _)⟩
      · rw [show decide (V.str m.2.1 = V.str word) = false from decide_eq_false fun z => e (by injection z)]
        exact iteF (hC (decide_eq_false e) _ (Same.refl _))
    · refine k H' D s1 hD ?_
      rw [hd]
      unfold namesOf
      rw [List.map_map]
      rfl
end
end K65

set_option maxHeartbeats 200000
/-! K65Cand: candidates. -/
namespace K65
open PySem L2
section
variable {P : Program} {w : World} {K : PySem.W.Frag} {mg : Str → Option Value} {base : Heap}
/-- the dict of all below n is locked -/
theorem PastAt.lock {T : W K mg} {H : Hp} {g : Gr} {A : Ads} {S fs : List Str} {n : Str} {d : Addr} (x : PastAt T true H g A S) (hn : n ∈ S) (hv : valV A.ks n = some (.ref d)) (hd : H d = some (.dK (fs.map tr))) (od : Obj) :
    PastAt T false (upd H d (.frz od (.dK (fs.map tr)))) g A S := by
  obtain ⟨⟨⟨dx, dd, z⟩, ⟨dy, q⟩, v, ls, y, f⟩, ok, kw, ne, sub, has⟩ := x
  obtain ⟨d0, _, e0, nk, _⟩ := kw.get hv
  cases e0
  have oth : ∀ (b : Addr) (o : HO), H b = some o → b ≠ d → (upd H d (.frz od (.dK (fs.map tr)))) b = some o := fun b o e h => by rw [upd_ne h]; exact e
  have kd : A.kd ≠ d := fun e => by
    obtain ⟨a, c, z1, _⟩ := f n (sub n hn)
    rw [e, hd] at y
    injection y with y
    injection y with y
    rw [← y, valV_tr] at z1
    split at z1 <;> cases z1
  have sq : ∀ {a : Addr} {xs : List V}, SqT K H a xs → SqT K (upd H d (.frz od (.dK (fs.map tr)))) a xs := fun h => by
    rcases h with (h | ⟨o, h⟩) | h
    · exact .inl (.inl (oth _ _ h (ne_of h hd (by intro z; cases z))))
    · exact .inl (.inr ⟨o, oth _ _ h (ne_of h hd (by intro z; cases z))⟩)
    · exact .inr h
  refine ⟨⟨⟨dx, dd, oth _ _ z (ne_of z hd (by intro z; cases z))⟩, ⟨dy, oth _ _ q (ne_of q hd (by intro z; cases z))⟩, sq v, ls, oth _ _ y kd, fun m hm => ?_⟩, ok, ⟨oth _ _ kw.at_ nk.symm, kw.nd, kw.in_, fun p hp => ?_⟩, ne, sub, has⟩
  · obtain ⟨a, c, z1, ⟨e1, t, p, y1, y2, y3⟩, z3⟩ := f m hm
    exact ⟨a, c, z1, ⟨e1, t, p, oth _ _ y1 (ne_of y1 hd (by intro z; cases z)), oth _ _ y2 (ne_of y2 hd (by intro z; cases z)), sq y3⟩, z3⟩
  · obtain ⟨d', fs', z1, z2, z3, z4⟩ := kw.rd p hp
    refine ⟨d', fs', z1, z2, ?_, z4⟩
    by_cases e : d' = d
    · rw [e] at z3 ⊢
      have z3 : H d = some (.dK (fs'.map tr)) := z3
      rw [hd] at z3
      injection z3 with z3
      exact .inr ⟨od, by rw [upd_same, z3]⟩
    · exact .inl (oth _ _ z3 e)
/-- who is left -/
def Left (g : Gr) (bs gs : List Str) (x : Str) : Prop := (∀ b ∈ bs, RB g b x = true) ∧ ∀ y ∈ gs, RB g y x = false
/-- what a search stands on -/
structure SeIn (T : W K mg) (H : Hp) (g : Gr) (A : Ads) (U : List Str) (s ml : Addr) (ms : List Mk3) : Prop where
  past : PastAt T true H g A U
  se : SearchAt T H s A.h ml ms
  sub : ∀ m ∈ ms, m.2.2 ∈ U
theorem SeIn.same {T : W K mg} {H H' : Hp} {g : Gr} {A : Ads} {U : List Str} {s ml : Addr} {ms : List Mk3} (x : SeIn T H g A U s ml ms) (e : Same H H') : SeIn T H' g A U s ml ms := ⟨x.past.same e, x.se.same e, x.sub⟩
theorem SeIn.names {T : W K mg} {H : Hp} {g : Gr} {A : Ads} {U : List Str} {s ml : Addr} {ms : List Mk3} (x : SeIn T H g A U s ml ms) (word : Str) : ∀ n ∈ namesOf ms word, n ∈ U := fun n hn => by
  obtain ⟨m, hm, rfl⟩ := List.mem_map.mp hn
  exact x.sub m (List.mem_filter.mp hm).1
theorem names_few {ms : List Mk3} (h : ms.length ≤ 40) (word : Str) : (namesOf ms word).length ≤ 40 := by
  unfold namesOf
  rw [List.length_map]
  exact Nat.le_trans (List.length_filter_le _ _) h
@[irreducible] def spCand (T : W K mg) : Sp := fun vs H Q _ => ∃ (g : Gr) (A : Ads) (U : List Str) (s ml : Addr) (ms : List Mk3), vs = [.ref s] ∧ SeIn T H g A U s ml ms ∧ namesOf ms "bad" ≠ [] ∧
  ∀ (H' : Hp) (t : Addr) (C : List Str), Same H H' → H' t = some (.tup (C.map V.str)) → C.Nodup → PyProof.Rows.sortedS C = true → (∀ x, x ∈ C ↔ Left g (namesOf ms "bad") (namesOf ms "good") x) → Q (.ref t) H'
theorem sc_cand : FnScope ["self", "bad", "good", "found", "name", "one"] ["self"] (defScope s_Search_candidates) := ⟨rfl, rfl, rfl, by decide +kernel, rfl, by decide +kernel, by decide +kernel⟩
theorem ok_cand (T : W K mg) : FnOk P w K mg base CX0 6 T.a_Search_candidates T.d_Search_candidates ["self"] (spCand T) := by
  have b0 := T.F_Search_marked.binds (ps := ["self", "word"]) fun _ _ _ _ _ _ us hl => match us, hl with | [_, _], _ => rfl
  have b1 := T.F_History_below.binds (ps := ["self", "name"]) fun _ _ _ _ _ _ us hl => match us, hl with | [_, _], _ => rfl
  refine T.F_Search_candidates.ok sc_cand (fun vs H Q E h => ?_) (fun cdv A0 outer s H vs Q E hr h => ?_)
  · unfold spCand at h
    obtain ⟨g, A, U, s, ml, ms, rfl, _⟩ := h
    rfl
  · unfold spCand at h
    obtain ⟨g, A, U, p, ml, ms, rfl, x, ne, k⟩ := h
    have nd := sc_cand.nd
    have hu := hu_of hr
    refine ⟨_, pss_cons (ps_asg (pe_tup (pa_cons (pe_meth (pv 0) T.clSearch T.m_Search_marked (ok_marked T) (hr.mono (by decide)) b0 .nil pass0 (pa_cons pe_str pa_nil)) (pa_cons (pe_meth (pv 0) T.clSearch T.m_Search_marked (ok_marked T) (hr.mono (by decide)) b0 .nil pass0 (pa_cons pe_str pa_nil)) pa_nil)))
        (pg_tup rfl (pgs_cons (pg_name (i := 1) nd rfl (Or.inr rfl)) (pgs_cons (pg_name (i := 2) nd rfl (Or.inr rfl)) pgs_nil))))
      (pss_cons (ps_if (pt_cmpR (op_eqD hr.units) (pv 1) (pe_lst pa_nil) (nomark _)) (pss_one (ps_ret (pe_tup pa_nil))) pss_nil)
      (pss_cons (ps_lock (ps_setLc (i := 3) (own := [("name", 4)]) (g := gName 4) (tt := tB (tCB (rAll K) (tCons (tLc (iList K (tVar 1)) (gName 5) tYes (tDIn (tVar 4) (tMeth T.CHistory "below" (spBelow T) [] E0 (tFld K (tVar 0) "past") (tCons (tVar 5) tNil))) [5]) tNil))) (te := tVar 4) rfl nd rfl rfl (sw_true rfl rfl rfl (by decide +kernel))
          (pi_keys (pe_meth (pe_fld (pv 0) rfl) T.clHistory T.m_History_below (ok_below T) hr b1 .nil pass0 (pa_cons (pe_ix ix_list (pv 1) pe_int fun _ _ => rfl) pa_nil))) (blkOk_by (N := ["self", "bad", "good", "found", "name", "one"]) (sc := defScope s_Search_candidates) (by decide +kernel))
          (fun _ _ _ _ _ => pg_name (i := 4) nd rfl (Or.inr rfl))
          (fun _ _ _ _ _ => pts_one (pt_val (pe_callB (cr_all rfl) (by rfl) T.z_all (by decide +kernel) (pa_cons
            (pe_lc (own := [("one", 5)]) (g := gName 5) (tt := tYes) (te := tDIn (tVar 4) (tMeth T.CHistory "below" (spBelow T) [] E0 (tFld K (tVar 0) "past") (tCons (tVar 5) tNil))) rfl nd (pi_list (pv 1)) (blkOk_by (by rfl))
              (fun _ _ _ _ _ => pg_name (i := 5) nd rfl (Or.inl rfl)) (fun _ _ _ _ _ => pts_nil)
              (fun _ _ _ _ _ => pe_cmp (pc_din hu (pv 4) (pe_meth (pe_fld (pv 0) rfl) T.clHistory T.m_History_below (ok_below T) hr b1 .nil pass0 (pa_cons (pv 5) pa_nil))))) pa_nil))))
          (fun _ _ _ _ _ => pv 4)))
      (pss_one (ps_ret (pe_callTy call_tuple_of (by rfl) T.z_tuple (by decide +kernel) (pa_cons (pe_callB cr_sortedS (by rfl) T.z_sorted (by decide +kernel) (pa_cons
        (pe_lc (own := [("name", 4)]) (g := gName 4) (tt := tNot (tB (tCB (rAny K) (tCons (tLc (iList K (tVar 2)) (gName 5) tYes (tDIn (tVar 4) (tMeth T.CHistory "below" (spBelow T) [] E0 (tFld K (tVar 0) "past") (tCons (tVar 5) tNil))) [5]) tNil)))) (te := tVar 4) rfl nd (pi_list (pv 3)) (blkOk_by (N := ["self", "bad", "good", "found", "name", "one"]) (sc := defScope s_Search_candidates) (by decide +kernel))
          (fun _ _ _ _ _ => pg_name (i := 4) nd rfl (Or.inr rfl))
          (fun _ _ _ _ _ => pts_one (pt_not (pt_val (pe_callB (cr_any rfl) (by rfl) T.z_any (by decide +kernel) (pa_cons
            (pe_lc (own := [("one", 5)]) (g := gName 5) (tt := tYes) (te := tDIn (tVar 4) (tMeth T.CHistory "below" (spBelow T) [] E0 (tFld K (tVar 0) "past") (tCons (tVar 5) tNil))) rfl nd (pi_list (pv 2)) (blkOk_by (by rfl))
              (fun _ _ _ _ _ => pg_name (i := 5) nd rfl (Or.inl rfl)) (fun _ _ _ _ _ => pts_nil)
              (fun _ _ _ _ _ => pe_cmp (pc_din hu (pv 4) (pe_meth (pe_fld (pv 0) rfl) T.clHistory T.m_History_below (ok_below T) hr b1 .nil pass0 (pa_cons (pv 5) pa_nil))))) pa_nil)))))
          (fun _ _ _ _ _ => pv 4)) pa_nil)) pa_nil)))))), ?_⟩
    obtain ⟨bs, ebs⟩ : ∃ bs, namesOf ms "bad" = bs := ⟨_, rfl⟩
    obtain ⟨gs, egs⟩ : ∃ gs, namesOf ms "good" = gs := ⟨_, rfl⟩
    have subB : ∀ n ∈ bs, n ∈ U := ebs ▸ x.names "bad"
    have subG : ∀ n ∈ gs, n ∈ U := egs ▸ x.names "good"
    have fewB : bs.length ≤ sizeLine := Nat.le_trans (ebs ▸ names_few x.se.few "bad") (by decide)
    have fewG : gs.length ≤ sizeLine := Nat.le_trans (egs ▸ names_few x.se.few "good") (by decide)
    rw [ebs] at ne
    obtain ⟨b0', bt, eb0⟩ := List.exists_cons_of_ne_nil ne
    have hb0 : b0' ∈ bs := by rw [eb0]; exact List.mem_cons_self
    obtain ⟨dx, hp⟩ := x.se.ins
    obtain ⟨dh, dd, hi⟩ := x.past.hist.ins
    -- bad, good = ..
    refine ⟨_, rfl, p, dx, _, rfl, hp, rfl, p, A.h, ml, ms, "bad", rfl, x.se, fun H1 Db s1 _ h1 => ?_⟩
    rw [ebs] at h1
    refine ⟨_, rfl, p, dx, _, rfl, s1 _ _ hp, rfl, p, A.h, ml, ms, "good", rfl, x.se.same s1, fun H2 Dg s2 _ h2 => ?_⟩
    rw [egs] at h2
    refine ⟨(by show 2 ≤ sizeLine; decide), fun t0 ht0 => ?_⟩
    have s3 := same_new (o := .tup [.ref Db, .ref Dg]) ht0
    refine ⟨t0, _, rfl, .inl (.inl upd_same), rfl, _, _, rfl, _, _, rfl, rfl, ?_⟩
    have s03 := (s1.trans s2).trans s3
    have h13 := s3 _ _ (s2 _ _ h1)
    have h23 := s3 _ _ h2
    generalize upd H2 t0 (.tup [.ref Db, .ref Dg]) = H3 at s3 s03 h13 h23
    -- if bad == []
    refine ⟨_, rfl, (by show 0 ≤ sizeLine; decide), fun l hl => ⟨.list (bs.map PyData.str), .list [], .lst (SqL.of ((same_new hl) _ _ h13)) (dpAll_strs bs), .lst (SqL.of upd_same) .nil, shaped_ids fun n hn => x.past.ok.ids n (x.past.sub n (subB n hn)), by decide, _, rfl, ?_⟩⟩
    rw [eqv_nil, eb0]
    refine iteF ?_
    have s4 := same_new (o := .lst []) hl
    have s04 := s03.trans s4
    have h14 := s4 _ _ h13
    have h24 := s4 _ _ h23
    generalize upd H3 l (.lst []) = H4 at s4 s04 h14 h24
    have past4 := x.past.same s04
    -- the dict of all below bad[0]
    obtain ⟨v0, hv0⟩ := Option.isSome_iff_exists.mp (x.past.has b0' (subB b0' hb0))
    obtain ⟨d, fs, rfl, ndk, rd, nodf, ref⟩ := past4.kw.get hv0
    have hd4 : H4 d = some (.dK (fs.map tr)) := rd
    have fewF : fs.length ≤ sizeLine := Nat.le_trans (nodup_len nodf fun y hy => ((ref y).mp hy).mem past4.ok (past4.sub _ (subB b0' hb0))) (Nat.le_trans past4.ok.sm (by decide))
    refine ⟨d, _, hd4, trivial, fun od => ?_⟩
    have lk : But d H4 (upd H4 d (.frz od (.dK (fs.map tr)))) := fun b o e n => by rw [upd_ne n]; exact e
    have past5 := past4.lock (subB b0' hb0) hv0 hd4 od
    have kind : ∀ {a : Addr} {o : HO}, H4 a = some o → (∀ kvs, o ≠ .dK kvs) → (upd H4 d (.frz od (.dK (fs.map tr)))) a = some o := fun h n => lk _ _ h (ne_of h hd4 (n _))
    have hp5 := kind (s04 _ _ hp) (by intro kvs z; cases z)
    have hi5 := kind (s04 _ _ hi) (by intro kvs z; cases z)
    have h15 := kind h14 (by intro kvs z; cases z)
    have hd5 : (upd H4 d (.frz od (.dK (fs.map tr)))) d = some (.frz od (.dK (fs.map tr))) := upd_same
    obtain ⟨H5, eH5⟩ : ∃ H5, upd H4 d (.frz od (.dK (fs.map tr))) = H5 := ⟨_, rfl⟩
    rw [eH5] at past5 hp5 hi5 h15 hd5
    rw [eH5]
    refine ⟨_, rfl, p, T.CSearch, dx, _, _, rfl, hp5, T.clSearch, T.nSearch_past, rfl, A.h, dh, _, rfl, hi5, rfl, _, rfl, Db, _, _, .str b0', rfl, rfl, SqL.of h15, atI_nat (j := 0) (by rw [eb0]; rfl), below_known past5 (subB b0' hb0) fun d' fs' rd' _ _ hv' => ?_⟩
    rw [hv0] at hv'
    cases hv'
    refine ⟨d, od, rfl, .inl ⟨_, hd5, fun D hD => ?_⟩⟩
    refine lc_fmK (fs.map tr) (fun kv => kV kv.1) (fun _ => rfl) (fun kv => match kv.1 with | .inr y => bs.all (fun b => RB g b y) | .inl _ => false) (fun kv => kV kv.1) hd5 (by rw [List.length_map]; exact fewF) hD (fun kv hkv H6 B C s6 hB hC => ?_) fun H6 s6 hd6 => ?_
    · obtain ⟨y, hy, rfl⟩ := List.mem_map.mp hkv
      refine ⟨rfl, _, rfl, Db, rfl, ⟨_, SqL.of (s6 _ _ h15)⟩, fun D2 hD2 => lc_fmL (K := K) bs V.str (fun _ => true) (fun b => .bl (RB g b y)) (SqL.of (s6 _ _ h15)) fewB hD2 (fun b hb H7 B2 C2 s7 hB2 _ => ?_) fun H7 s7 hd7 => ?_⟩
      · have s57 := s6.trans s7
        refine ⟨rfl, lcY ⟨_, rfl, _, rfl, p, T.CSearch, dx, _, _, rfl, s57 _ _ hp5, T.clSearch, T.nSearch_past, rfl, A.h, dh, _, rfl, s57 _ _ hi5, rfl, _, rfl, below_known (past5.same s57) (subB b hb) fun d' fs' rd' _ re' _ => ?_⟩⟩
        obtain ⟨o, g1, g2⟩ := dget_tr (y := y) rd' re'
        refine ⟨d', o, rfl, g1, ?_⟩
        rw [g2]
        exact hB2 rfl _ (Same.refl _)
      · rw [flt] at hd7
        refine ⟨D2, bs.map fun b => RB g b y, rfl, SqL.of (by rw [hd7, List.map_map]; rfl), _, rfl, ?_⟩
        have ea : (bs.map fun b => RB g b y).all id = bs.all fun b => RB g b y := by rw [List.all_map]; rfl
        rw [ea]
        exact ite2 (fun q => ⟨_, rfl, hB q _ s7⟩) fun q => hC (Bool.eq_false_iff.mpr q) _ s7
    -- back: it may be written again
    rw [← eH5] at s6 hD
    have nDd : D ≠ d := fun z => by rw [z, upd_same] at hD; cases hD
    refine ⟨s6 _ _ upd_same, ?_⟩
    have s7 : Same H4 (upd H6 d (.dK (fs.map tr))) := same_unlock hd4 s6
    have e6 : (((fs.map tr).filter fun kv => match kv.1 with | .inr y => bs.all (fun b => RB g b y) | .inl _ => false).map fun kv => kV kv.1) = (fs.filter fun y => bs.all fun b => RB g b y).map V.str := by
      rw [List.filter_map, List.map_map]
      rfl
    rw [e6] at hd6
    have hd7 : (upd H6 d (.dK (fs.map tr))) D = some (.lst ((fs.filter fun y => bs.all fun b => RB g b y).map V.str)) := by rw [upd_ne nDd]; exact hd6
    generalize upd H6 d (.dK (fs.map tr)) = H7 at s7 hd7
    obtain ⟨F, eF⟩ : ∃ F, (fs.filter fun y => bs.all fun b => RB g b y) = F := ⟨_, rfl⟩
    rw [eF] at hd7
    have s07 := s04.trans s7
    have past7 := x.past.same s07
    have fewF2 : F.length ≤ 15 := by
      rw [← eF]
      exact Nat.le_trans (List.length_filter_le _ _) (Nat.le_trans (nodup_len nodf fun y hy => ((ref y).mp hy).mem past4.ok (past4.sub _ (subB b0' hb0))) past4.ok.sm)
    -- tuple(sorted([..]))
    refine ⟨_, rfl, D, rfl, ⟨_, SqL.of hd7⟩, fun D3 hD3 => lc_fmL (K := K) F V.str (fun y => !(gs.any fun b => RB g b y)) V.str (SqL.of hd7) (Nat.le_trans fewF2 (by decide)) hD3 (fun y hy H8 B C s8 hB hC => ?_) fun H8 s8 hd8 => ?_⟩
    · refine ⟨rfl, _, rfl, Dg, rfl, ⟨_, SqL.of (s8 _ _ (s7 _ _ h24))⟩, fun D4 hD4 => lc_fmL (K := K) gs V.str (fun _ => true) (fun b => .bl (RB g b y)) (SqL.of (s8 _ _ (s7 _ _ h24))) fewG hD4 (fun b hb H9 B2 C2 s9 hB2 _ => ?_) fun H9 s9 hd9 => ?_⟩
      · have s79 := s8.trans s9
        refine ⟨rfl, lcY ⟨_, rfl, _, rfl, p, T.CSearch, dx, _, _, rfl, s79 _ _ (s07 _ _ hp), T.clSearch, T.nSearch_past, rfl, A.h, dh, _, rfl, s79 _ _ (s07 _ _ hi), rfl, _, rfl, below_known (past7.same s79) (subG b hb) fun d' fs' rd' _ re' _ => ?_⟩⟩
        obtain ⟨o, g1, g2⟩ := dget_tr (y := y) rd' re'
        refine ⟨d', o, rfl, g1, ?_⟩
        rw [g2]
        exact hB2 rfl _ (Same.refl _)
      · rw [flt] at hd9
        refine ⟨D4, gs.map fun b => RB g b y, rfl, SqL.of (by rw [hd9, List.map_map]; rfl), _, rfl, ?_⟩
        have ea : (gs.map fun b => RB g b y).any id = gs.any fun b => RB g b y := by rw [List.any_map]; rfl
        rw [ea]
        exact ite2 (fun q => ⟨_, rfl, hB q _ s9⟩) fun q => hC (Bool.eq_false_iff.mpr q) _ s9
    refine ⟨D3, _, rfl, SqL.of hd8, Nat.lt_of_le_of_lt (List.length_filter_le _ _) (by omega), fun C l3 pm so hl3 => ?_⟩
    refine ⟨l3, _, rfl, .inl ⟨SqL.of upd_same, fun t ht => ?_⟩⟩
    have s9 := same_new (o := .lst (C.map V.str)) hl3
    have s10 := same_new (o := .tup (C.map V.str)) ht
    have nodF : F.Nodup := eF ▸ nodf.filter _
    refine k _ t C (((s07.trans s8).trans s9).trans s10) upd_same (pm.nodup_iff.mpr (nodF.filter _)) so fun y => ?_
    rw [pm.mem_iff, List.mem_filter, ← eF, List.mem_filter]
    unfold Left
    simp only [Bool.not_eq_true', List.all_eq_true, List.any_eq_false, ebs, egs]
    refine ⟨fun ⟨⟨_, h1⟩, h2⟩ => ⟨h1, fun z hz => by simpa using h2 z hz⟩, fun ⟨h1, h2⟩ => ⟨⟨(ref y).mpr (rb_iff.mp (h1 b0' hb0)), h1⟩, fun z hz => by simp [h2 z hz]⟩⟩
end
end K65

set_option maxHeartbeats 200000
/-! K65Search2: mark, bad, good. -/
namespace K65
open PySem L2
theorem eqv_nilT : ∀ ds : List PyData, PyData.eqv (.tuple ds) (.tuple []) = ds.isEmpty
  | [] => by decide
  | _ :: _ => by simp [PyData.eqv, PyData.eqvAll]
theorem shaped_idsT {xs : List Str} (h : ∀ x ∈ xs, IsId x) : SeqAt.shaped (.tuple (xs.map PyData.str)) = true := by
  have h1 := lay_strs xs fun x hx => asc_id (h x hx)
  have h2 := deep_strs xs
  have h3 : PyData.depth (.tuple (xs.map PyData.str)) ≤ 64 := by
    simp only [PyData.depth]
    omega
  show (PyData.canLay0 (.tuple (xs.map PyData.str)) && decide (PyData.depth (.tuple (xs.map PyData.str)) ≤ 64)) = true
  rw [Bool.and_eq_true]
  exact ⟨by simp only [PyData.canLay0]; exact h1, decide_eq_true h3⟩
section
variable {P : Program} {w : World} {K : PySem.W.Frag} {mg : Str → Option Value} {base : Heap}
def spMark (T : W K mg) : Sp := fun vs H Q _ => ∃ (g : Gr) (A : Ads) (U : List Str) (s ml : Addr) (ms : List Mk3) (word name : Str), vs = [.ref s, .str word, .str name] ∧ SeIn T H g A U s ml ms ∧ name ∈ U ∧ ms.length < 40 ∧ word ≠ "skip" ∧
  namesOf (ms ++ [(0, word, name)]) "bad" ≠ [] ∧ (∃ x, Left g (namesOf (ms ++ [(0, word, name)]) "bad") (namesOf (ms ++ [(0, word, name)]) "good") x) ∧ (∀ x, Left g (namesOf (ms ++ [(0, word, name)]) "bad") (namesOf (ms ++ [(0, word, name)]) "good") x → x ∈ g.ns) ∧
  ∀ (H' : Hp) (a : Addr), But ml H H' → SeIn T H' g A U s ml (ms ++ [(a, word, name)]) → Q .non H'
theorem namesOf_ad (ms : List Mk3) (a b : Addr) (w1 n word : Str) : namesOf (ms ++ [(a, w1, n)]) word = namesOf (ms ++ [(b, w1, n)]) word := by
  unfold namesOf
  rw [List.filter_append, List.filter_append, List.map_append, List.map_append]
  congr 1
  by_cases e : w1 = word <;> simp [e]
theorem SearchAt.add {T : W K mg} {H H' : Hp} {s h ml a : Addr} {ms : List Mk3} {word name : Str} (x : SearchAt T H s h ml ms) (few : ms.length < 40) (bt : But ml H H') (hl : H' ml = some (.lst ((ms ++ [(a, word, name)]).map fun m => .ref m.1))) (ha : H' a = some (.tup [.str word, .str name])) : SearchAt T H' s h ml (ms ++ [(a, word, name)]) := by
  obtain ⟨⟨dx, z⟩, at_, obj, _⟩ := x
  refine ⟨⟨dx, bt _ _ z (ne_of z at_ (by intro z; cases z))⟩, hl, fun m hm => ?_, by rw [List.length_append]; exact few⟩
  rcases List.mem_append.mp hm with q | q
  · exact bt _ _ (obj m q) (ne_of (obj m q) at_ (by intro z; cases z))
  · rw [List.mem_singleton.mp q]
    exact ha
theorem sc_mark : FnScope ["self", "word", "name"] ["self", "word", "name"] (defScope s_Search_mark) := ⟨rfl, rfl, rfl, by decide +kernel, rfl, by decide +kernel, by decide +kernel⟩
theorem ok_mark (T : W K mg) : FnOk P w K mg base CX0 7 T.a_Search_mark T.d_Search_mark ["self", "word", "name"] (spMark T) := by
  have b0 := T.F_Search_marked.binds (ps := ["self", "word"]) fun _ _ _ _ _ _ us hl => match us, hl with | [_, _], _ => rfl
  have b1 := T.F_History_below.binds (ps := ["self", "name"]) fun _ _ _ _ _ _ us hl => match us, hl with | [_, _], _ => rfl
  have b2 := T.F_Search_candidates.binds (ps := ["self"]) fun _ _ _ _ _ _ us hl => match us, hl with | [_], _ => rfl
  refine T.F_Search_mark.ok sc_mark (fun vs H Q E h => ?_) (fun cdv A0 outer s H vs Q E hr h => ?_)
  · obtain ⟨g, A, U, s, ml, ms, word, name, rfl, _⟩ := h
    rfl
  · obtain ⟨g, A, U, p, ml, ms, word, name, rfl, x, hn, few, nsk, ne, ⟨y0, hy0⟩, inU, k⟩ := h
    have nd := sc_mark.nd
    refine ⟨_, pss_cons (ps_expr (pe_meth (pe_fld (pv 0) rfl) T.clHistory T.m_History_below (ok_below T) (hr.mono (by decide)) b1 .nil pass0 (pa_cons (pv 2) pa_nil)))
      (pss_cons (ps_expr (pe_bm PySem.F.plainAttrs_list PySem.F.slot_list_append PySem.F.type_list_append mt_append (pe_fld (pv 0) rfl) (pa_cons (pe_tup (pa_cons (pv 1) (pa_cons (pv 2) pa_nil))) pa_nil)))
      (pss_one (ps_if (PW.pt (pw_and (pt_cmpR op_ne (pv 1) pe_str (nomark _)) (pw_and (pt_cmpR (op_neD hr.units) (pe_meth (pv 0) T.clSearch T.m_Search_marked (ok_marked T) (hr.mono (by decide)) b0 .nil pass0 (pa_cons pe_str pa_nil)) (pe_lst pa_nil) (nomark _))
        (pw_and1 (pt_cmpR (op_eqD hr.units) (pe_meth0 (pv 0) T.clSearch T.m_Search_candidates (ok_cand T) hr b2 .nil pass0) (pe_tup pa_nil) (nomark _)))))) pss_never pss_nil))), ?_⟩
    obtain ⟨dx, hp⟩ := x.se.ins
    obtain ⟨dh, dd, hi⟩ := x.past.hist.ins
    refine ⟨_, rfl, p, T.CSearch, dx, _, _, rfl, hp, T.clSearch, T.nSearch_past, rfl, A.h, dh, _, rfl, hi, rfl, _, rfl, below_known x.past hn fun d fs _ _ _ _ => ?_⟩
    -- self.marks.append((word, name))
    refine ⟨_, rfl, p, T.CSearch, dx, _, _, rfl, hp, T.clSearch, T.nSearch_marks, rfl, .inl ⟨rfl, _, SqL.of x.se.at_⟩, _, rfl, _, rfl, (by show 2 ≤ sizeLine; decide), fun a ha => ?_⟩
    have s1 := same_new (o := .tup [.str word, .str name]) ha
    have fl : (ms.map fun m => V.ref m.1).length < sizeLine := by
      rw [List.length_map]
      exact Nat.lt_of_lt_of_le few (by decide)
    refine ⟨ml, _, _, rfl, rfl, s1 _ _ x.se.at_, fl, ?_⟩
    have nam : ml ≠ a := ne_of_none x.se.at_ ha
    have bt : But ml H (upd (upd H a (.tup [.str word, .str name])) ml (.lst (ms.map (fun m => V.ref m.1) ++ [.ref a]))) := fun b o e n => by
      rw [upd_ne n]
      exact s1 _ _ e
    have se2 := x.se.add (a := a) (word := word) (name := name) few bt (by rw [upd_same, List.map_append]; rfl) (by rw [upd_ne nam.symm, upd_same])
    have in2 : SeIn T (upd (upd H a (.tup [.str word, .str name])) ml (.lst (ms.map (fun m => V.ref m.1) ++ [.ref a]))) g A U p ml (ms ++ [(a, word, name)]) :=
      ⟨x.past.but x.se.at_ trivial bt, se2, fun m hm => (List.mem_append.mp hm).elim (x.sub m) fun q => by rw [List.mem_singleton.mp q]; exact hn⟩
    generalize upd (upd H a (.tup [.str word, .str name])) ml (.lst (ms.map (fun m => V.ref m.1) ++ [.ref a])) = H2 at bt se2 in2
    rw [namesOf_ad ms 0 a] at ne
    rw [namesOf_ad ms 0 a, namesOf_ad ms 0 a] at hy0 inU
    obtain ⟨dx2, hp2⟩ := se2.ins
    -- if ..
    refine ⟨_, rfl, rfl, _, rfl, ?_⟩
    rw [show (!decide (V.str word = V.str "skip")) = true by rw [decide_eq_false fun z => nsk (by injection z)]; rfl]
    refine iteT ⟨_, rfl, p, dx2, _, rfl, hp2, rfl, p, A.h, ml, _, "bad", rfl, se2, fun H3 Db s3 _ h3 => ⟨(by show 0 ≤ sizeLine; decide), fun l hl => ?_⟩⟩
    have idb : ∀ n ∈ namesOf (ms ++ [(a, word, name)]) "bad", IsId n := fun n hn => x.past.ok.ids n (x.past.sub n (in2.names "bad" n hn))
    refine ⟨.list ((namesOf (ms ++ [(a, word, name)]) "bad").map PyData.str), .list [], .lst (SqL.of ((same_new hl) _ _ h3)) (dpAll_strs _), .lst (SqL.of upd_same) .nil, shaped_ids idb, by decide, _, rfl, ?_⟩
    rw [eqv_nil, show ((namesOf (ms ++ [(a, word, name)]) "bad").map PyData.str).isEmpty = false by
      cases e : namesOf (ms ++ [(a, word, name)]) "bad" with
      | nil => exact absurd e ne
      | cons q r => rfl]
    have s4 := s3.trans (same_new (o := .lst []) hl)
    refine iteT ⟨_, rfl, p, dx2, _, rfl, s4 _ _ hp2, rfl, ?_⟩
    unfold spCand
    refine ⟨g, A, U, p, ml, _, rfl, in2.same s4, ne, fun H5 t C s5 ht _ _ mem => ⟨(by show 0 ≤ sizeLine; decide), fun e he => ?_⟩⟩
    have s6 := same_new (o := .tup []) he
    have idC : ∀ n ∈ C, IsId n := fun n hn => x.past.ok.ids n (inU n ((mem n).mp hn))
    refine ⟨.tuple (C.map PyData.str), .tuple [], .tup (.inl (.inl (s6 _ _ ht))) (dpAll_strs C), .tup (.inl (.inl upd_same)) .nil, shaped_idsT idC, by decide, _, rfl, ?_⟩
    rw [eqv_nilT, show (C.map PyData.str).isEmpty = false by
      cases e : C with
      | nil =>
        have := (mem y0).mpr hy0
        rw [e] at this
        cases this
      | cons q r => rfl]
    exact iteF (k _ a (bt.trans (Same.but ((s4.trans s5).trans s6))) (in2.same ((s4.trans s5).trans s6)))
/-! ### bad, good -/
@[irreducible] def spMarkAs (T : W K mg) (word : Str) : Sp := fun vs H Q E => ∃ s v, vs = [.ref s, v] ∧ (∃ dx fs, H s = some (.ins T.CSearch dx fs) ∧ fs.lookup ("mark" : Str) = none) ∧ spMark T [.ref s, .str word, v] H (fun _ H' => Q .non H') E
theorem sc_bad : FnScope ["self", "name"] ["self", "name"] (defScope s_Search_bad) := ⟨rfl, rfl, rfl, by decide +kernel, rfl, by decide +kernel, by decide +kernel⟩
theorem sc_good : FnScope ["self", "name"] ["self", "name"] (defScope s_Search_good) := ⟨rfl, rfl, rfl, by decide +kernel, rfl, by decide +kernel, by decide +kernel⟩
theorem ok_bad (T : W K mg) : FnOk P w K mg base CX0 8 T.a_Search_bad T.d_Search_bad ["self", "name"] (spMarkAs T "bad") := by
  have b := T.F_Search_mark.binds (ps := ["self", "word", "name"]) fun _ _ _ _ _ _ us hl => match us, hl with | [_, _, _], _ => rfl
  refine T.F_Search_bad.ok sc_bad (fun vs H Q E h => ?_) (fun cdv A0 outer s H vs Q E hr h => ?_)
  · unfold spMarkAs at h
    obtain ⟨s, v, rfl, _⟩ := h
    rfl
  · unfold spMarkAs at h
    obtain ⟨p, v, rfl, ⟨dx, fs, hp, hl⟩, k⟩ := h
    exact ⟨_, pss_one (ps_expr (pe_meth (pv 0) T.clSearch T.m_Search_mark (ok_mark T) hr b .nil pass0 (pa_cons pe_str (pa_cons (pv 1) pa_nil)))), _, rfl, p, dx, fs, rfl, hp, hl, _, rfl, k⟩
theorem ok_good (T : W K mg) : FnOk P w K mg base CX0 8 T.a_Search_good T.d_Search_good ["self", "name"] (spMarkAs T "good") := by
  have b := T.F_Search_mark.binds (ps := ["self", "word", "name"]) fun _ _ _ _ _ _ us hl => match us, hl with | [_, _, _], _ => rfl
  refine T.F_Search_good.ok sc_good (fun vs H Q E h => ?_) (fun cdv A0 outer s H vs Q E hr h => ?_)
  · unfold spMarkAs at h
    obtain ⟨s, v, rfl, _⟩ := h
    rfl
  · unfold spMarkAs at h
    obtain ⟨p, v, rfl, ⟨dx, fs, hp, hl⟩, k⟩ := h
    exact ⟨_, pss_one (ps_expr (pe_meth (pv 0) T.clSearch T.m_Search_mark (ok_mark T) hr b .nil pass0 (pa_cons pe_str (pa_cons (pv 1) pa_nil)))), _, rfl, p, dx, fs, rfl, hp, hl, _, rfl, k⟩
end
end K65

set_option maxHeartbeats 200000
/-! K65Next: next, found. -/
namespace K65
open PySem L2
section
variable {P : Program} {w : World} {K : PySem.W.Frag} {mg : Str → Option Value} {base : Heap}
/-- what is left, as a sorted list -/
def IsLeft (g : Gr) (ms : List Mk3) (C : List Str) : Prop := C.Nodup ∧ PyProof.Rows.sortedS C = true ∧ ∀ x, x ∈ C ↔ Left g (namesOf ms "bad") (namesOf ms "good") x
theorem IsLeft.uniq {g : Gr} {ms : List Mk3} {C D : List Str} (h : IsLeft g ms C) (k : IsLeft g ms D) : C = D := same_sorted h.1 k.1 h.2.1 k.2.1 fun x => (h.2.2 x).trans (k.2.2 x).symm
@[irreducible] def spNext (T : W K mg) : Sp := fun vs H Q _ => ∃ (g : Gr) (A : Ads) (U : List Str) (s ml : Addr) (ms : List Mk3) (C : List Str), vs = [.ref s] ∧ SeIn T H g A U s ml ms ∧ namesOf ms "bad" ≠ [] ∧ namesOf ms "skip" = [] ∧ IsLeft g ms C ∧ (∀ x ∈ C, x ∈ U) ∧
  (∀ (H' : Hp) (n : Str), Same H H' → Best g C n → Q (.str n) H') ∧ ((¬ ∃ n, IsTest (RB g) C n) → ∀ H', Same H H' → Q .non H')
theorem sc_next : FnScope ["self", "some", "skipped", "rows", "name", "many", "one"] ["self"] (defScope s_Search_next) := ⟨rfl, rfl, rfl, by decide +kernel, rfl, by decide +kernel, by decide +kernel⟩
abbrev Row3 := Addr × Str
theorem rows3_alike (g : Gr) (C : List Str) (rs : List Row3) : W.AlikeAll (rs.map fun r => keyD g C r.2) := by
  refine ⟨fun x hx y hy => ?_, fun x hx => ?_⟩
  · obtain ⟨a, _, rfl⟩ := List.mem_map.mp hx
    obtain ⟨b, _, rfl⟩ := List.mem_map.mp hy
    simp [W.alike, W.alikeAll]
  · obtain ⟨a, _, rfl⟩ := List.mem_map.mp hx
    intro z
    cases z
theorem rows3_deep (g : Gr) (C : List Str) : ∀ rs : List Row3, PyData.depthAll (rs.map fun r => keyD g C r.2) ≤ 2
  | [] => by simp [PyData.depthAll]
  | r :: t => by
    have := rows3_deep g C t
    simp only [List.map_cons, PyData.depthAll, PyData.depth]
    omega
theorem rows3_lay (g : Gr) (C : List Str) : ∀ rs : List Row3, (∀ r ∈ rs, IsId r.2) → PyData.canLayAll0 (rs.map fun r => keyD g C r.2) = true
  | [], _ => by simp [PyData.canLayAll0]
  | r :: t, h => by
    have h1 := rows3_lay g C t fun x hx => h x (List.mem_cons_of_mem _ hx)
    simp only [List.map_cons, PyData.canLayAll0, PyData.canLay0, h1, strOk_asc (asc_id (h r List.mem_cons_self)), Bool.and_self]
theorem rows3_shaped {g : Gr} {C : List Str} {rs : List Row3} (h : ∀ r ∈ rs, IsId r.2) : SeqAt.shaped (.list (rs.map fun r => keyD g C r.2)) = true := by
  have h1 := rows3_lay g C rs h
  have h2 := rows3_deep g C rs
  have h3 : PyData.depth (.list (rs.map fun r => keyD g C r.2)) ≤ 64 := by
    simp only [PyData.depth]
    omega
  show (PyData.canLay0 (.list (rs.map fun r => keyD g C r.2)) && decide (PyData.depth (.list (rs.map fun r => keyD g C r.2)) ≤ 64)) = true
  rw [Bool.and_eq_true]
  exact ⟨by simp only [PyData.canLay0]; exact h1, decide_eq_true h3⟩
theorem rows3_dp {H : Hp} {g : Gr} {C : List Str} : ∀ {rs : List Row3}, (∀ r ∈ rs, H r.1 = some (.tup [.int (worst g C r.2), .int (0 - g.tm r.2), .str r.2])) → DpAll K H (rs.map fun r => .ref r.1) (rs.map fun r => keyD g C r.2)
  | [], _ => .nil
  | r :: t, h => .cons (.tup (.inl (.inl (h r List.mem_cons_self))) (.cons (.int _) (.cons (.int _) (.cons (.str _) .nil)))) (rows3_dp fun x hx => h x (List.mem_cons_of_mem _ hx))
structure Rows3 (g : Gr) (C : List Str) (H0 H' : Hp) (l : Addr) (i : Nat) (rs : List Row3) : Prop where
  sm : Same H0 H'
  at_ : H' l = some (.lst (rs.map fun r => .ref r.1))
  len : rs.length ≤ i
  obj : ∀ r ∈ rs, H' r.1 = some (.tup [.int (worst g C r.2), .int (0 - g.tm r.2), .str r.2])
  tst : ∀ r ∈ rs, IsTest (RB g) C r.2
  all : ∀ j m, j < i → C[j]? = some m → IsTest (RB g) C m → ∃ r ∈ rs, r.2 = m
theorem cand_ok {T : W K mg} {H : Hp} {g : Gr} {A : Ads} {U : List Str} {s ml : Addr} {ms : List Mk3} {Q : VK} {E : XK} (x : SeIn T H g A U s ml ms) (ne : namesOf ms "bad" ≠ [])
    (k : ∀ (H' : Hp) (t : Addr) (C : List Str), Same H H' → H' t = some (.tup (C.map V.str)) → IsLeft g ms C → Q (.ref t) H') : spCand T [.ref s] H Q E := by
  unfold spCand
  exact ⟨g, A, U, s, ml, ms, rfl, x, ne, fun H' t C sm ht a b c => k H' t C sm ht ⟨a, b, c⟩⟩
theorem ok_next (T : W K mg) : FnOk P w K mg base CX0 7 T.a_Search_next T.d_Search_next ["self"] (spNext T) := by
  have b0 := T.F_Search_marked.binds (ps := ["self", "word"]) fun _ _ _ _ _ _ us hl => match us, hl with | [_, _], _ => rfl
  have b1 := T.F_History_below.binds (ps := ["self", "name"]) fun _ _ _ _ _ _ us hl => match us, hl with | [_, _], _ => rfl
  have b2 := T.F_Search_candidates.binds (ps := ["self"]) fun _ _ _ _ _ _ us hl => match us, hl with | [_], _ => rfl
  have b3 := T.F_commit_of.binds (ps := ["store", "name"]) fun _ _ _ _ _ _ us hl => match us, hl with | [_, _], _ => rfl
  have b4 := T.F_Commit_time.binds (ps := ["self"]) fun _ _ _ _ _ _ us hl => match us, hl with | [_], _ => rfl
  refine T.F_Search_next.ok sc_next (fun vs H Q E h => ?_) (fun cdv A0 outer s H vs Q E hr h => ?_)
  · unfold spNext at h
    obtain ⟨g, A, U, s, ml, ms, C, rfl, _⟩ := h
    rfl
  · unfold spNext at h
    obtain ⟨g, A, U, p, ml, ms, C, rfl, x, ne, nsk, hC, sub, k1, k2⟩ := h
    have nd := sc_next.nd
    have hu := hu_of hr
    refine ⟨_, pss_cons (ps_set (i := 1) nd rfl (Or.inl rfl) (pe_meth0 (pv 0) T.clSearch T.m_Search_candidates (ok_cand T) hr b2 .nil pass0))
      (pss_cons (ps_set (i := 2) nd rfl (Or.inl rfl) (pe_meth (pv 0) T.clSearch T.m_Search_marked (ok_marked T) (hr.mono (by decide)) b0 .nil pass0 (pa_cons pe_str pa_nil)))
      (pss_cons (ps_set (i := 3) nd rfl (Or.inl rfl) (pe_lst pa_nil))
      (pss_cons (ps_for PassesOwn.never rfl (pi_tup (pv 1)) (pg_name (i := 4) nd rfl (Or.inr rfl))
        (pss_cons (ps_set (i := 5) nd rfl (Or.inl rfl) (pe_callB call_len_seq (by rfl) T.z_len PySem.boot_len (pa_cons
          (pe_lc (own := [("one", 6)]) (g := gName 6) (tt := tB (tDIn (tVar 6) (tMeth T.CHistory "below" (spBelow T) [] E0 (tFld K (tVar 0) "past") (tCons (tVar 4) tNil)))) (te := tVar 6) rfl nd (pi_tup (pv 1)) (blkOk_by (N := ["self", "some", "skipped", "rows", "name", "many", "one"]) (sc := defScope s_Search_next) (by decide +kernel))
            (fun _ _ _ _ _ => pg_name (i := 6) nd rfl (Or.inl rfl)) (fun _ _ _ _ _ => pts_one (pt_cmp (pc_din hu (pv 6) (pe_meth (pe_fld (pv 0) rfl) T.clHistory T.m_History_below (ok_below T) (hr.mono (by decide)) b1 .nil pass0 (pa_cons (pv 4) pa_nil))))) (fun _ _ _ _ _ => pv 6)) pa_nil)))
        (pss_one (ps_if (PW.pt (pw_and (pt_cmpR op_lt (pv 5) (pe_callB call_len_seq (by rfl) T.z_len PySem.boot_len (pa_cons (pv 1) pa_nil)) (nomark _)) (pw_and1 (pt_cmpR op_notIn_seq (pv 4) (pv 2) rfl))))
          (pss_one (ps_expr (pe_bm PySem.F.plainAttrs_list PySem.F.slot_list_append PySem.F.type_list_append mt_append (pv 3) (pa_cons (pe_tup
            (pa_cons (pe_callB (call_max2 rfl) (by rfl) T.z_max (by decide +kernel) (pa_cons (pv 5) (pa_cons (pe_op op_sub (pe_callB call_len_seq (by rfl) T.z_len PySem.boot_len (pa_cons (pv 1) pa_nil)) (pv 5)) pa_nil)))
            (pa_cons (pe_op op_sub pe_int (pe_prop (pe_call (ok_commit_of T) (hr.mono (by decide)) rfl T.g_commit_of T.F_commit_of.kp b3 .nil pass0 (pa_cons (pe_fld (pe_fld (pv 0) rfl) rfl) (pa_cons (pv 4) pa_nil))) T.clCommit T.P_Commit_time (ok_time T) (hr.mono (by decide)) b4 .nil pass0 rfl))
            (pa_cons (pv 4) pa_nil)))) pa_nil)))) pss_nil))))
      (pss_one (ps_ret (pe_ifExp (pt_cmpR (op_neD hr.units) (pv 3) (pe_lst pa_nil) (nomark _)) (pe_ix ix_tup (pe_callB (cr_minD rfl hr.units) (by rfl) T.z_min (by decide +kernel) (pa_cons (pv 3) pa_nil)) pe_int fun _ _ => rfl) pe_non)))))), ?_⟩
    obtain ⟨dx, hp⟩ := x.se.ins
    obtain ⟨dh, dd, hi⟩ := x.past.hist.ins
    obtain ⟨kvs, hkd, hkv⟩ := x.past.hist.kept
    have fewC : C.length ≤ 15 := Nat.le_trans (nodup_len hC.1 fun y hy => x.past.sub y (sub y hy)) x.past.ok.sm
    have idC : ∀ n ∈ C, IsId n := fun n hn => x.past.ok.ids n (x.past.sub n (sub n hn))
    -- some = self.candidates()
    refine ⟨_, rfl, p, dx, _, rfl, hp, rfl, cand_ok x ne fun H1 t C' s1 ht hC' => ?_⟩
    obtain rfl : C' = C := hC'.uniq hC
    -- skipped = self.marked('skip')
    refine ⟨_, rfl, p, dx, _, rfl, s1 _ _ hp, rfl, p, A.h, ml, ms, "skip", rfl, x.se.same s1, fun H2 Ds s2 _ h2 => ?_⟩
    rw [nsk] at h2
    have s12 := s1.trans s2
    -- rows = []
    refine ⟨(by show 0 ≤ sizeLine; decide), fun l hl => ?_⟩
    have ht2 : SqT K H2 t (C'.map V.str) := .inl (.inl (s2 _ _ ht))
    refine ⟨_, rfl, t, rfl, ⟨_, sqt_same (same_new hl) ht2⟩, for_tup (K := K) (xs := C'.map V.str) (fun i σ H' => (∃ b4 b5, σ = [some (.ref p), some (.ref t), some (.ref Ds), some (.ref l), b4, b5, none]) ∧ ∃ rs, Rows3 g C' H2 H' l i rs)
      ⟨⟨_, _, rfl⟩, [], same_new hl, upd_same, Nat.le_refl _, (fun _ h => by cases h), (fun _ h => by cases h), (fun j _ hj => absurd hj (Nat.not_lt_zero _))⟩ (fun i σ H' _ q => let ⟨_, _, z⟩ := q; sqt_same z.sm ht2) ?_ ?_⟩
    · rintro i v σ H3 hv ⟨⟨b4, b5, rfl⟩, rs, z⟩
      rw [List.getElem?_map] at hv
      obtain ⟨m, hm, rfl⟩ := Option.map_eq_some_iff.mp hv
      have mem : m ∈ C' := List.mem_of_getElem? hm
      have s3 := s12.trans z.sm
      have ht3 := sqt_same z.sm ht2
      -- many = len([..])
      refine ⟨_, rfl, t, rfl, ⟨_, ht3⟩, fun D hD => lc_fmT (K := K) C' V.str (RB g m) V.str ht3 (Nat.le_trans fewC (by decide)) hD (fun y hy H4 B C s4 hB hC2 => ?_) fun H4 s4 hd4 => ?_⟩
      · have s34 := s3.trans s4
        refine ⟨rfl, _, rfl, _, rfl, p, T.CSearch, dx, _, _, rfl, s34 _ _ hp, T.clSearch, T.nSearch_past, rfl, A.h, dh, _, rfl, s34 _ _ hi, rfl, _, rfl, below_known (x.past.same s34) (sub m mem) fun d fs rd _ re _ => ?_⟩
        obtain ⟨o, g1, g2⟩ := dget_tr (y := y) rd re
        refine ⟨d, o, rfl, g1, _, rfl, ?_⟩
        rw [g2]
        exact ite2 (fun q => ⟨_, rfl, hB q _ (Same.refl _)⟩) fun q => hC2 (Bool.eq_false_iff.mpr q) _ (Same.refl _)
      have s34 := s3.trans s4
      have z4 := z.sm.trans s4
      have l4 := s4 _ _ z.at_
      refine ⟨D, _, rfl, .inl (SqL.of hd4), ?_⟩
      rw [List.length_map]
      refine ⟨_, rfl, _, rfl, t, _, rfl, .inr (sqt_same z4 ht2), _, _, rfl, rfl, _, rfl, ?_⟩
      rw [List.length_map]
      have ek : C'.filter (RB g m) = badOf (RB g) C' m := rfl
      rw [ek]
      have lek : (badOf (RB g) C' m).length ≤ C'.length := List.length_filter_le _ _
      have keep : ∀ {H' : Hp}, Same H4 H' → ¬ IsTest (RB g) C' m → Rows3 g C' H2 H' l (i + 1) rs := fun e no => ⟨z4.trans e, e _ _ l4, Nat.le_succ_of_le z.len, fun r hr => e _ _ (s4 _ _ (z.obj r hr)), z.tst, fun j m' hj hm' ht' => by
        rcases Nat.lt_or_ge j i with q | q
        · exact z.all j m' q hm' ht'
        · obtain rfl : j = i := by omega
          rw [hm] at hm'
          cases hm'
          exact absurd ht' no⟩
      by_cases lt : ((badOf (RB g) C' m).length : Int) < (C'.length : Int)
      · rw [decide_eq_true lt]
        have tst : IsTest (RB g) C' m := ⟨mem, by omega⟩
        refine iteT ⟨_, rfl, _, rfl, Ds, _, rfl, .inl (SqL.of (z4 _ _ h2)), rfl, rfl, _, rfl, iteT ?_⟩
        obtain ⟨a, c, y1, y2, y3, y4⟩ := hkv m (x.past.sub m (sub m mem))
        obtain ⟨da, tz, pz, w1, w2, w3⟩ := y2.same s34
        refine ⟨_, rfl, .inl ⟨rfl, _, SqL.of l4⟩, _, rfl, _, rfl, t, _, rfl, .inr (sqt_same z4 ht2), _, rfl, _, _, rfl, rfl, _, _, rfl, ?_⟩
        refine ⟨_, rfl, p, T.CSearch, dx, _, _, rfl, s34 _ _ hp, T.clSearch, T.nSearch_past, rfl, A.h, T.CHistory, dh, _, _, rfl, s34 _ _ hi, T.clHistory, T.nHistory_held, rfl, _, rfl, A.st, A.kd, kvs, m, a, c, rfl, x.past.hist.st.same s34, s34 _ _ hkd, y1, y2.same s34, a, da, _, rfl, w1, a, da, tz, _, .int c.tm, rfl, w1, w2, rfl, _, _, rfl, rfl, _, rfl, ?_⟩
        refine ⟨(by show 3 ≤ sizeLine; decide), fun ra hra => ?_⟩
        have ew : (if ((C'.map V.str).length : Int) - ((badOf (RB g) C' m).length : Int) > ((badOf (RB g) C' m).length : Int) then ((C'.map V.str).length : Int) - ((badOf (RB g) C' m).length : Int) else ((badOf (RB g) C' m).length : Int)) = ((worst g C' m : Nat) : Int) := by
          unfold worst
          rw [List.length_map]
          split <;> omega
        have sR := same_new (o := .tup [.int (if ((C'.map V.str).length : Int) - ((badOf (RB g) C' m).length : Int) > ((badOf (RB g) C' m).length : Int) then ((C'.map V.str).length : Int) - ((badOf (RB g) C' m).length : Int) else ((badOf (RB g) C' m).length : Int)), .int (0 - c.tm), .str m]) hra
        refine ⟨l, _, _, rfl, rfl, sR _ _ l4, ?_, ⟨_, _, rfl⟩, rs ++ [(ra, m)], same_mut (z4.trans sR) hl, ?_, ?_, fun r hr => ?_, fun r hr => ?_, fun j m' hj hm' ht' => ?_⟩
        · have := z.len
          have : i < C'.length := (List.getElem?_eq_some_iff.mp hm).1
          rw [List.length_map]
          exact Nat.lt_of_le_of_lt (by omega : rs.length ≤ 15) (by decide)
        · rw [upd_same, List.map_append]
          rfl
        · rw [List.length_append]
          have := z.len
          show rs.length + 1 ≤ i + 1
          omega
        · have nl : ∀ {b : Addr} {xs : List V}, H4 b = some (.tup xs) → b ≠ l := fun h => ne_of h l4 (by intro z; cases z)
          rcases List.mem_append.mp hr with q | q
          · have q2 := s4 _ _ (z.obj r q)
            rw [upd_ne (nl q2)]
            exact sR _ _ q2
          · rw [List.mem_singleton.mp q, upd_ne (ne_of_none l4 hra).symm]
            show upd H4 ra _ ra = some (.tup [.int (worst g C' m), .int (0 - g.tm m), .str m])
            rw [upd_same, ← ew, ← y4]
        · rcases List.mem_append.mp hr with q | q
          · exact z.tst r q
          · rw [List.mem_singleton.mp q]
            exact tst
        · rcases Nat.lt_or_ge j i with q | q
          · obtain ⟨r, hr, e⟩ := z.all j m' q hm' ht'
            exact ⟨r, List.mem_append_left _ hr, e⟩
          · obtain rfl : j = i := by omega
            rw [hm] at hm'
            cases hm'
            exact ⟨_, List.mem_append_right _ (List.mem_singleton.mpr rfl), rfl⟩
      · rw [decide_eq_false lt]
        exact iteF (iteF ⟨⟨_, _, rfl⟩, rs, keep (Same.refl _) fun q => q.2 (by omega)⟩)
    · rintro σ H3 ⟨⟨b4, b5, rfl⟩, rs, z⟩
      rw [List.length_map] at z
      have s3 := s12.trans z.sm
      have all : ∀ m, IsTest (RB g) C' m → ∃ r ∈ rs, r.2 = m := fun m hm => by
        obtain ⟨j, hj⟩ := List.getElem?_of_mem hm.1
        exact z.all j m (List.getElem?_eq_some_iff.mp hj).1 hj hm
      refine ⟨_, rfl, (by show 0 ≤ sizeLine; decide), fun l0 hl0 => ?_⟩
      have s4 := same_new (o := .lst []) hl0
      have obj4 : ∀ r ∈ rs, (upd H3 l0 (.lst [])) r.1 = some (.tup [.int (worst g C' r.2), .int (0 - g.tm r.2), .str r.2]) := fun r hr => s4 _ _ (z.obj r hr)
      refine ⟨.list (rs.map fun r => keyD g C' r.2), .list [], .lst (SqL.of (s4 _ _ z.at_)) (rows3_dp obj4), .lst (SqL.of upd_same) .nil, rows3_shaped fun r hr => idC _ (z.tst r hr).1, by decide, _, rfl, ?_⟩
      rw [eqv_nil]
      match rs, z, all, obj4 with
      | [], z, all, obj4 => exact iteF (k2 (fun ⟨n, hn⟩ => by obtain ⟨r, hr, _⟩ := all n hn; cases hr) _ (s3.trans s4))
      | r1 :: rt, z, all, obj4 =>
        refine iteT ⟨_, rfl, l, _, keyD g C' r1.2, rt.map fun r : Row3 => keyD g C' r.2, rfl, SqL.of (s4 _ _ z.at_), rows3_dp (rs := r1 :: rt) obj4, rows3_alike g C' (r1 :: rt), Nat.le_trans (rows3_deep g C' (r1 :: rt)) (by decide), fun i v hi hm => ?_⟩
        rw [List.getElem?_map] at hi
        obtain ⟨r, hr1, rfl⟩ := Option.map_eq_some_iff.mp hi
        have hrm : r ∈ r1 :: rt := List.mem_of_getElem? hr1
        have em : keyD g C' r.2 = W.minD (keyD g C' r1.2) (rt.map fun r => keyD g C' r.2) := by
          have q : ((r1 :: rt).map fun r => keyD g C' r.2)[i]? = some (keyD g C' r.2) := by rw [List.getElem?_map, hr1]; rfl
          rw [show ((r1 :: rt).map fun r => keyD g C' r.2) = keyD g C' r1.2 :: rt.map (fun r => keyD g C' r.2) from rfl, hm] at q
          exact (Option.some.inj q).symm
        obtain ⟨_, le1, le2⟩ := minD_least (rt.map fun r => keyD g C' r.2) (keyD g C' r1.2)
        refine ⟨r.1, _, _, .str r.2, rfl, rfl, .inl (.inl (obj4 r hrm)), atI_nat (j := 2) rfl, k1 _ r.2 (s3.trans s4) ⟨z.tst r hrm, fun m hm' => ?_⟩⟩
        obtain ⟨y, hy, rfl⟩ := all m hm'
        rw [em]
        rcases List.mem_cons.mp hy with rfl | hy
        · exact le1
        · exact le2 _ (List.mem_map.mpr ⟨y, hy, rfl⟩)
/-! ### found -/
def spFound (T : W K mg) : Sp := fun vs H Q _ => ∃ (g : Gr) (A : Ads) (U : List Str) (s ml : Addr) (ms : List Mk3) (y : Str), vs = [.ref s] ∧ SeIn T H g A U s ml ms ∧ namesOf ms "bad" ≠ [] ∧ IsLeft g ms [y] ∧ ∀ (H' : Hp), Same H H' → Q (.str y) H'
theorem sc_found : FnScope ["self", "some"] ["self"] (defScope s_Search_found) := ⟨rfl, rfl, rfl, by decide +kernel, rfl, by decide +kernel, by decide +kernel⟩
theorem ok_found (T : W K mg) : FnOk P w K mg base CX0 7 T.a_Search_found T.d_Search_found ["self"] (spFound T) := by
  have b2 := T.F_Search_candidates.binds (ps := ["self"]) fun _ _ _ _ _ _ us hl => match us, hl with | [_], _ => rfl
  refine T.F_Search_found.ok sc_found (fun vs H Q E h => ?_) (fun cdv A0 outer s H vs Q E hr h => ?_)
  · obtain ⟨g, A, U, s, ml, ms, y, rfl, _⟩ := h
    rfl
  · obtain ⟨g, A, U, p, ml, ms, y, rfl, x, ne, hC, k⟩ := h
    have nd := sc_found.nd
    refine ⟨_, pss_cons (ps_set (i := 1) nd rfl (Or.inl rfl) (pe_meth0 (pv 0) T.clSearch T.m_Search_candidates (ok_cand T) hr b2 .nil pass0))
      (pss_cons (ps_if (pt_cmpR op_eq (pe_callB call_len_seq (by rfl) T.z_len PySem.boot_len (pa_cons (pv 1) pa_nil)) pe_int (nomark _)) (pss_one (ps_ret (pe_ix ix_tup (pv 1) pe_int fun _ _ => rfl))) pss_nil)
      (pss_one ps_never)), ?_⟩
    obtain ⟨dx, hp⟩ := x.se.ins
    refine ⟨_, rfl, p, dx, _, rfl, hp, rfl, cand_ok x ne fun H1 t C' s1 ht hC' => ?_⟩
    obtain rfl : C' = [y] := hC'.uniq hC
    exact ⟨_, rfl, t, _, rfl, .inr (.inl (.inl ht)), rfl, _, rfl, iteT ⟨_, rfl, t, _, _, _, rfl, rfl, .inl (.inl ht), atI_nat (j := 0) rfl, k H1 s1⟩⟩
end
end K65

set_option maxHeartbeats 200000
/-! K65Draw: the law's draw, shuffled, halvings. -/
namespace K65
open PySem L2
section
variable {P : Program} {w : World} {K : PySem.W.Frag} {mg : Str → Option Value} {base : Heap}
/-- the source of draws -/
def SrcAt (H : Hp) (s : Addr) : Prop := ∃ a b c : Int, H s = some (.lst [.int a, .int b, .int c])
def spDraw : Sp := fun vs H Q _ => ∃ (s : Addr) (n : Int), vs = [.ref s, .int n] ∧ SrcAt H s ∧ 1 ≤ n ∧ n ≤ 100 ∧ ∀ (H' : Hp) (d : Int), 0 ≤ d → d < n → But s H H' → SrcAt H' s → Q (.int d) H'
theorem sc_draw : FnScope ["_law_source", "_law_size", "_law_digit", "_law_number"] ["_law_source", "_law_size"] (defScope s_L_draw) := ⟨rfl, rfl, rfl, by decide +kernel, rfl, by decide +kernel, by decide +kernel⟩
theorem ok_draw (T : W K mg) : FnOk P w K mg base CX0 1 T.a_L_draw T.d_L_draw ["_law_source", "_law_size"] spDraw := by
  refine T.F_L_draw.ok sc_draw (fun vs H Q E h => ?_) (fun cdv A outer s H vs Q E hr h => ?_)
  · obtain ⟨s, n, rfl, _⟩ := h
    rfl
  · obtain ⟨p, n, rfl, ⟨a, b, c, hp⟩, n1, n2, k⟩ := h
    have nd := sc_draw.nd
    refine ⟨_, pss_cons (ps_if (pt_cmpR op_gt (pe_ix ix_list (pv 0) pe_int fun _ _ => rfl) pe_int (nomark _))
        (pss_cons (ps_set (i := 2) nd rfl (Or.inl rfl) (pe_op op_mod (pe_callTy call_int1 (by rfl) T.z_int (by decide +kernel) (pa_cons (pe_ix ix_list (pv 0) pe_int fun _ _ => rfl) pa_nil)) (pv 1)))
        (pss_cons (ps_asg (pe_op op_fdiv (pe_ix ix_list (pv 0) pe_int fun _ _ => rfl) (pv 1)) (pg_sub (pv 0) pe_int set_list)) (pss_one (ps_ret (pv 2))))) pss_nil)
      (pss_cons (ps_asg (pe_op op_add (pe_ix ix_list (pv 0) pe_int fun _ _ => rfl) pe_int) (pg_sub (pv 0) pe_int set_list))
      (pss_cons (ps_set (i := 3) nd rfl (Or.inl rfl) (pe_op op_mod (pe_callTy call_int1 (by rfl) T.z_int (by decide +kernel) (pa_cons
        (pe_op op_mul (pe_op op_add (pe_op op_add (pe_ix ix_list (pv 0) pe_int fun _ _ => rfl) (pe_op op_mul pe_int (pe_ix ix_list (pv 0) pe_int fun _ _ => rfl))) pe_int) pe_int) pa_nil)) pe_int))
      (pss_cons (ps_set (i := 3) nd rfl (Or.inl rfl) (pe_op op_mod (pe_callTy call_int1 (by rfl) T.z_int (by decide +kernel) (pa_cons (pe_op op_mul (pv 3) (pe_op op_add (pe_op op_fdiv (pv 3) pe_int) pe_int)) pa_nil)) pe_int))
      (pss_one (ps_ret (pe_op op_mod (pe_callTy call_int1 (by rfl) T.z_int (by decide +kernel) (pa_cons (pe_op op_mod (pe_callTy call_int1 (by rfl) T.z_int (by decide +kernel) (pa_cons (pe_op op_mul (pv 3) (pe_op op_add (pe_op op_fdiv (pv 3) pe_int) pe_int)) pa_nil)) pe_int) pa_nil)) (pv 1))))))), ?_⟩
    have but : ∀ {H' : Hp} {u : HO}, But p H' (upd H' p u) := fun b o e n => by rw [upd_ne n]; exact e
    refine ⟨_, rfl, p, _, _, .int a, rfl, rfl, SqL.of hp, atI_nat (j := 0) rfl, _, _, rfl, rfl, _, rfl, ?_⟩
    have md : ∀ x : Int, 0 ≤ x % n ∧ x % n < n := fun x => ⟨Int.emod_nonneg _ (by omega), Int.emod_lt_of_pos _ (by omega)⟩
    by_cases ha : (0 : Int) < a
    · rw [decide_eq_true ha]
      refine iteT ⟨_, rfl, p, _, _, .int a, rfl, rfl, SqL.of hp, atI_nat (j := 0) rfl, .inl ⟨_, rfl, _, rfl, _, _, rfl, rfl, (show (0 : Int) < n by omega), ?_⟩⟩
      refine ⟨_, rfl, p, _, _, .int a, rfl, rfl, SqL.of hp, atI_nat (j := 0) rfl, _, rfl, _, _, rfl, rfl, ⟨by omega, by omega⟩, _, rfl, p, _, _, 0, rfl, rfl, hp, rfl, ?_⟩
      exact ⟨_, rfl, k _ _ (md a).1 (md a).2 but ⟨_, _, _, upd_same⟩⟩
    · rw [decide_eq_false ha]
      refine iteF ?_
      refine ⟨_, rfl, p, _, _, .int c, rfl, rfl, SqL.of hp, atI_nat (j := 2) rfl, _, _, rfl, rfl, _, rfl, p, _, _, 2, rfl, rfl, hp, rfl, ?_⟩
      have hp2 : (upd H p (.lst ([V.int a, V.int b, V.int c].set 2 (.int (c + 1))))) p = some (.lst [.int a, .int b, .int (c + 1)]) := upd_same
      have bt2 : But p H (upd H p (.lst ([V.int a, V.int b, V.int c].set 2 (.int (c + 1))))) := but
      generalize upd H p (.lst ([V.int a, V.int b, V.int c].set 2 (.int (c + 1)))) = H2 at hp2 bt2
      refine ⟨_, rfl, p, _, _, .int b, rfl, rfl, SqL.of hp2, atI_nat (j := 1) rfl, _, rfl, p, _, _, .int (c + 1), rfl, rfl, SqL.of hp2, atI_nat (j := 2) rfl, _, _, rfl, rfl, .inl ⟨by decide, by decide⟩, _, _, rfl, rfl, _, _, rfl, rfl, _, _, rfl, rfl, .inr ⟨by decide, by decide⟩, .inl ⟨_, rfl, _, _, rfl, rfl, (by show (0 : Int) < 2147483647; decide), ?_⟩⟩
      have r1 : ∀ x : Int, 0 ≤ x % 2147483647 ∧ x % 2147483647 < 2147483647 := fun x => ⟨Int.emod_nonneg _ (by decide), Int.emod_lt_of_pos _ (by decide)⟩
      have q1 := r1 ((b + 104729 * (c + 1) + 1) * 48271)
      generalize (b + 104729 * (c + 1) + 1) * 48271 % 2147483647 = x at q1
      refine ⟨_, rfl, _, rfl, _, _, rfl, rfl, ⟨by decide, by decide⟩, _, _, rfl, rfl, _, _, rfl, rfl, .inl ⟨by omega, by omega⟩, .inl ⟨_, rfl, _, _, rfl, rfl, (by show (0 : Int) < 2147483647; decide), ?_⟩⟩
      have q2 := r1 (x * (x / 1009 + 69621))
      generalize x * (x / 1009 + 69621) % 2147483647 = y at q2
      refine ⟨_, rfl, _, rfl, _, _, rfl, rfl, ⟨by decide, by decide⟩, _, _, rfl, rfl, _, _, rfl, rfl, .inl ⟨by omega, by omega⟩, .inl ⟨_, rfl, _, _, rfl, rfl, (by show (0 : Int) < 2147483399; decide), .inl ⟨_, rfl, _, rfl, _, _, rfl, rfl, (show (0 : Int) < n by omega), ?_⟩⟩⟩
      exact k _ _ (md _).1 (md _).2 bt2 ⟨_, _, _, hp2⟩
/-! ### shuffled -/
def spShuffled : Sp := fun vs H Q _ => ∃ (s l : Addr) (xs : List Str), vs = [.ref s, .ref l] ∧ SrcAt H s ∧ H l = some (.lst (xs.map V.str)) ∧ xs.length ≤ 100 ∧ (∀ x ∈ xs, IsId x) ∧
  ∀ (H' : Hp) (D : Addr) (ys : List Str), But s H H' → SrcAt H' s → H D = none → H' D = some (.lst (ys.map V.str)) → ys.Perm xs → Q (.ref D) H'
theorem sc_shuffled : FnScope ["_law_source", "_law_items", "_law_left", "_law_found"] ["_law_source", "_law_items"] (defScope s_L_shuffled) := ⟨rfl, rfl, rfl, by decide +kernel, rfl, by decide +kernel, by decide +kernel⟩
theorem erase_map {α β : Type} (f : α → β) : ∀ (l : List α) (j : Nat), (l.map f).eraseIdx j = (l.eraseIdx j).map f
  | [], _ => rfl
  | _ :: _, 0 => rfl
  | a :: r, j + 1 => congrArg (f a :: ·) (erase_map f r j)
theorem perm_erase {α : Type} {l : List α} {k : Nat} {y : α} (h : l[k]? = some y) : (y :: l.eraseIdx k).Perm l := erase_perm l k y h
theorem ok_shuffled (T : W K mg) : FnOk P w K mg base CX0 2 T.a_L_shuffled T.d_L_shuffled ["_law_source", "_law_items"] spShuffled := by
  have b := T.F_L_draw.binds (ps := ["_law_source", "_law_size"]) fun _ _ _ _ _ _ us hl => match us, hl with | [_, _], _ => rfl
  refine T.F_L_shuffled.ok sc_shuffled (fun vs H Q E h => ?_) (fun cdv A outer s H vs Q E hr h => ?_)
  · obtain ⟨s, l, xs, rfl, _⟩ := h
    rfl
  · obtain ⟨p, l, xs, rfl, src, hl, few, ids, k⟩ := h
    have nd := sc_shuffled.nd
    refine ⟨_, pss_cons (ps_par (i := 2) (j := 3) rfl nd rfl rfl (by decide) rfl rfl (pa_cons (pe_callTy call_list_of (by rfl) T.z_list (by decide +kernel) (pa_cons (pv 1) pa_nil)) (pa_cons (pe_lst pa_nil) pa_nil)) (by rfl))
      (pss_cons (ps_while PassesOwn.never (pt_cmpR (op_neD hr.units) (pv 2) (pe_lst pa_nil) (nomark _))
        (pss_one (ps_expr (pe_bm PySem.F.plainAttrs_list PySem.F.slot_list_append PySem.F.type_list_append mt_append (pv 3) (pa_cons
          (pe_bm PySem.F.plainAttrs_list PySem.F.slot_list_pop PySem.F.type_list_pop mt_popAt (pv 2) (pa_cons (pe_call (ok_draw T) hr rfl T.g_L_draw T.F_L_draw.kp b .nil pass0 (pa_cons (pv 0) (pa_cons (pe_callB call_len_seq (by rfl) T.z_len PySem.boot_len (pa_cons (pv 2) pa_nil)) pa_nil))) pa_nil)) pa_nil)))))
      (pss_one (ps_ret (pv 3)))), ?_⟩
    refine ⟨_, rfl, l, _, rfl, .inl (SqL.of hl), fun lf hlf => ⟨(by show 0 ≤ sizeLine; decide), fun fd hfd => ⟨_, _, rfl, ?_⟩⟩⟩
    have s0 := (same_new (o := .lst (xs.map V.str)) hlf).trans (same_new (o := .lst []) hfd)
    have nlf : lf ≠ fd := ne_of_none upd_same hfd
    have hfd0 : H fd = none := (same_new hlf).free hfd
    obtain ⟨a0, b0, c0, hsrc⟩ := src
    have npl : p ≠ lf := ne_of_none hsrc hlf
    have npf : p ≠ fd := ne_of_none hsrc hfd0
    refine ⟨fun m σ H' => ∃ left found : List Str, m = left.length ∧ σ = [some (.ref p), some (.ref l), some (.ref lf), some (.ref fd)] ∧ But p H H' ∧ SrcAt H' p ∧ H' lf = some (.lst (left.map V.str)) ∧ H' fd = some (.lst (found.map V.str)) ∧ (found ++ left).Perm xs,
      ⟨_, xs, [], rfl, rfl, Same.but s0, ⟨a0, b0, c0, s0 _ _ hsrc⟩, by rw [upd_ne nlf, upd_same], by rw [upd_same]; rfl, .refl _⟩, ?_⟩
    rintro m σ H1 ⟨left, found, rfl, rfl, bt, src1, h1, h2, pm⟩
    have mem : ∀ x ∈ left, x ∈ xs := fun x hx => pm.mem_iff.mp (List.mem_append_right _ hx)
    have len := pm.length_eq
    rw [List.length_append] at len
    refine ⟨_, rfl, (by show 0 ≤ sizeLine; decide), fun e0 he0 => ?_⟩
    have s1 := same_new (o := .lst []) he0
    refine ⟨.list (left.map PyData.str), .list [], .lst (SqL.of (s1 _ _ h1)) (dpAll_strs left), .lst (SqL.of upd_same) .nil, shaped_ids fun x hx => ids x (mem x hx), by decide, _, rfl, ?_⟩
    rw [eqv_nil]
    have h1' := s1 _ _ h1
    have h2' := s1 _ _ h2
    have bt1 : But p H (upd H1 e0 (.lst [])) := bt.trans (Same.but s1)
    have src2 : SrcAt (upd H1 e0 (.lst [])) p := let ⟨a, b, c, z⟩ := src1; ⟨a, b, c, s1 _ _ z⟩
    generalize upd H1 e0 (.lst []) = H2 at h1' h2' bt1 src2
    by_cases hn : left = []
    · subst hn
      refine iteF ⟨_, rfl, k H2 fd found bt1 src2 hfd0 h2' (by rw [List.append_nil] at pm; exact pm)⟩
    · have pos : 1 ≤ left.length := List.length_pos_iff.mpr hn
      rw [show (!(left.map PyData.str).isEmpty) = true by cases left with | nil => exact absurd rfl hn | cons a r => rfl]
      refine iteT ⟨fun σ H' => ∃ left' found' : List Str, left'.length < left.length ∧ σ = [some (.ref p), some (.ref l), some (.ref lf), some (.ref fd)] ∧ But p H H' ∧ SrcAt H' p ∧ H' lf = some (.lst (left'.map V.str)) ∧ H' fd = some (.lst (found'.map V.str)) ∧ (found' ++ left').Perm xs,
        fun σ' H' ⟨left', found', lt, q⟩ => ⟨_, lt, left', found', rfl, q⟩, ?_⟩
      refine ⟨_, rfl, .inl ⟨rfl, _, SqL.of h2'⟩, _, rfl, .inl ⟨rfl, _, SqL.of h1'⟩, _, rfl, _, rfl, lf, _, rfl, .inl (SqL.of h1'), p, ((left.map V.str).length : Int), rfl, src2, by rw [List.length_map]; omega, by rw [List.length_map]; omega, fun H3 d d0 d1 bt3 src3 => ?_⟩
      rw [List.length_map] at d1
      obtain ⟨j, rfl⟩ := Int.eq_ofNat_of_zero_le d0
      have lt : j < left.length := by omega
      have h13 := bt3 _ _ h1' npl.symm
      have h23 := bt3 _ _ h2' npf.symm
      refine ⟨lf, left.map V.str, (j : Int), j, .str left[j], rfl, rfl, h13, by omega, by omega, ?_, by rw [List.getElem?_map, List.getElem?_eq_getElem lt]; rfl, ?_⟩
      · rw [List.length_map]
        unfold PySem.seqIndex?
        simp only [show ¬ ((j : Int) < 0) by omega, if_false]
        rw [if_pos (by simp; omega)]
        simp
      · have nfl : fd ≠ lf := nlf.symm
        have ee : (left.map V.str).eraseIdx j = (left.eraseIdx j).map V.str := erase_map ..
        rw [ee]
        refine ⟨fd, _, _, rfl, rfl, by rw [upd_ne nfl]; exact h23, ?_, left.eraseIdx j, found ++ [left[j]], ?_, rfl, ?_, ?_, ?_, ?_, ?_⟩
        · rw [List.length_map]
          exact Nat.lt_of_le_of_lt (by omega : found.length ≤ 100) (by decide)
        · rw [List.length_eraseIdx_of_lt lt]
          omega
        · intro b o e n
          rw [upd_ne (ne_of_none e hfd0), upd_ne (ne_of_none e hlf)]
          exact bt3 _ _ (bt1 _ _ e n) n
        · obtain ⟨a, b, c, z⟩ := src3
          exact ⟨a, b, c, by rw [upd_ne npf, upd_ne npl]; exact z⟩
        · rw [upd_ne nlf, upd_same]
        · rw [upd_same, List.map_append]
          rfl
        · refine List.Perm.trans ?_ pm
          rw [List.append_assoc]
          exact (erase_perm left j left[j] (List.getElem?_eq_getElem lt)).append_left found
end
end K65

set_option maxHeartbeats 200000
/-! K65Tup: tuple(list) whose object is known to bear no dict; names.index(x). -/
namespace K65
open PySem L2 PySem.Spec PyProof.Rows
section
variable {X : Cx}
theorem call_tupleF : CallR X (.type "tuple") (fun xs H Q => ∃ p ys, xs = [.ref p] ∧ SqL X.K H p ys ∧
    ∀ (t : Addr) (ob : Obj), H t = none → ob.cls = .type "tuple" → ob.dict = none → Q (.ref t) (upd H t (.frz ob (.tup ys)))) := by
  intro pins s σ H xs us Q I rel pre
  obtain ⟨p, ys, rfl, sq, fin⟩ := pre
  obtain ⟨u, rfl, r1⟩ := vals1 rel
  cases r1
  obtain ⟨vs, rv, pl, sz⟩ := I.list sq
  have sz2 : vs.toArray.size ≤ sizeLine := by
    rw [List.size_toArray, ← rv.length]
    exact sz
  refine call_tuple_list pl.isList (fun h2 kp => ?_) sz2
  have J : Inv X pins σ H { s with heap := h2 } := I.kept (t' := s.toks) kp
  have nw : IsTup (h2.push { cls := .type "tuple", data := .seq vs.toArray }) h2.objs.size vs.toArray := IsTup.new _ _
  have J2 : Inv X pins σ (upd H h2.objs.size (.frz { cls := .type "tuple", data := .seq vs.toArray } (.tup ys))) { s with heap := h2.push { cls := .type "tuple", data := .seq vs.toArray } } :=
    J.laid (t' := s.toks) (fun _ _ e => Heap.get?_push_of_some _ e) (Nat.le_refl _) ⟨Heap.get?_push_size _ rfl, sz, vs, rv, nw⟩
  exact ⟨V.ref h2.objs.size, _, J2, rfl, fin _ _ (J.hok.fresh (Nat.le_refl _)) rfl rfl⟩
/-- a frozen tuple that bears no dict -/
def FrzT (H : Hp) (p : Addr) (ys : List V) : Prop := ∃ ob : Obj, H p = some (.frz ob (.tup ys)) ∧ ob.cls = .type "tuple" ∧ ob.dict = none
theorem FrzT.seq {K : PySem.W.Frag} {H : Hp} {p : Addr} {ys : List V} (h : FrzT H p ys) : SqT K H p ys := let ⟨ob, e, _, _⟩ := h; .inl (.inr ⟨ob, e⟩)
def tIx (r : V → List V → Hp → VK → Prop) (to : TE) (t : TA) : TE := fun σ H Q => to σ H fun x H1 => (∃ p ys, x = .ref p ∧ FrzT H1 p ys) ∧ t σ H1 fun xs H2 => r x xs H2 Q
variable {o e : Expr} {es : List Expr} {to : TE} {t : TA} {name : Str} {apos cpos : Pos} {id : String} {r : V → List V → Hp → VK → Prop}
theorem pe_bmF (pa : PlainAttrs "tuple") (slot : Slot "tuple" name id) (hty : typeOf (.builtin id) = pure (.type "method_descriptor")) (hm : MtR X id r) (ho : PE X o to) (ha : PA X (e :: es) t)
    (hbase : attributeBase o name X.env (eval o X.env) = eval o X.env := by rfl)
    (hfew : ((backTo cpos (starEach (e :: es) X.env)).all (fun x => !x.1) && (backToKw cpos (keywordEach [] X.env)).all (fun x => x.1.isSome)
      && decide ((e :: es).length + ([] : List Keyword).length + (if ([] : List Keyword).isEmpty then 0 else 1) < 30)) = true := by rfl)
    (hline : (apos.endLine == cpos.line) = true := by rfl) (hs : starEach (e :: es) X.env = (false, eval e X.env) :: starEach es X.env := by rfl) (hplain : (backTo cpos (starEach es X.env)).any (·.1) = false := by rfl) :
    PE X (.Call (.Attribute o name apos) (e :: es) [] cpos) (tIx r to t) := by
  refine ⟨fun pins s σ H Q I h => wpAny_Call_method_late hbase hfew hline rfl (thn (ho.run pins s σ H _ I h) fun v s1 z => ?_)⟩
  obtain ⟨x, H1, I1, r1, ⟨p, ys, rfl, ob, eo, ec, ed⟩, q1⟩ := z
  cases r1
  have got := (I1.hok p _ eo).1
  refine ⟨"tuple", id, pa, slot, hty, ⟨ob, got, ec⟩, fun a z => ?_, ?_⟩
  · cases z
    exact ⟨ob, got, ed⟩
  · have hA := ha.run cpos pins s1 σ H1 _ I1 q1
    rw [hs] at hA ⊢
    exact Calls.callWith_builtin (by show (false || (backTo cpos (starEach es X.env)).any (·.1)) = false; rw [hplain] <;> rfl) (Calls.evalArgs_plain (thn hA fun us s2 ⟨vs, H2, I2, r2, q2⟩ => hm pins s2 σ H2 (.ref p) vs _ us Q I2 rfl r2 q2))
end
end K65

set_option maxHeartbeats 200000
/-! K65Law1: the law's halvings and tests. -/
namespace K65
open PySem L2
section
variable {P : Program} {w : World} {K : PySem.W.Frag} {mg : Str → Option Value} {base : Heap}
def spHalv : Sp := fun vs H Q _ => ∃ n : Nat, vs = [.int n] ∧ 1 ≤ n ∧ ∀ (d : Nat), IsLog n d → ∀ H', Same H H' → Q (.int d) H'
theorem sc_halv : FnScope ["_law_many", "_law_found", "_law_span"] ["_law_many"] (defScope s_L_halvings) := ⟨rfl, rfl, rfl, by decide +kernel, rfl, by decide +kernel, by decide +kernel⟩
theorem lt_pow (f : Nat) : f < 2 ^ f := Nat.lt_two_pow_self
theorem ok_halvings (T : W K mg) : FnOk P w K mg base CX0 1 T.a_L_halvings T.d_L_halvings ["_law_many"] spHalv := by
  refine T.F_L_halvings.ok sc_halv (fun vs H Q E h => ?_) (fun cdv A outer s H vs Q E hr h => ?_)
  · obtain ⟨n, rfl, _⟩ := h
    rfl
  · obtain ⟨n, rfl, one, k⟩ := h
    have nd := sc_halv.nd
    refine ⟨_, pss_cons (ps_asg (pe_tup (pa_cons pe_int (pa_cons pe_int pa_nil))) (pg_tup rfl (pgs_cons (pg_name (i := 1) nd rfl (Or.inl rfl)) (pgs_cons (pg_name (i := 2) nd rfl (Or.inl rfl)) pgs_nil))))
      (pss_cons (ps_while PassesOwn.never (pt_cmpR op_lt (pv 2) (pv 0) (nomark _))
        (pss_one (ps_par (i := 1) (j := 2) rfl nd rfl rfl (by decide) rfl rfl (pa_cons (pe_op op_add (pv 1) pe_int) (pa_cons (pe_op op_mul (pv 2) pe_int) pa_nil)) (by rfl))))
      (pss_one (ps_ret (pv 1)))), ?_⟩
    refine ⟨(by show 2 ≤ sizeLine; decide), fun tp htp => ⟨tp, _, rfl, .inl (.inl upd_same), rfl, _, _, rfl, _, _, rfl, rfl, ?_⟩⟩
    refine ⟨fun m σ H' => ∃ f : Nat, m + f = n ∧ σ = [some (.int n), some (.int (f : Nat)), some (.int ((2 ^ f : Nat) : Int))] ∧ Same H H' ∧ ∀ e, n ≤ 2 ^ e → f ≤ e, ⟨n, 0, by omega, rfl, same_new htp, fun _ _ => Nat.zero_le _⟩, ?_⟩
    rintro m σ H1 ⟨f, em, rfl, s1, low⟩
    refine ⟨_, rfl, _, rfl, _, _, rfl, rfl, _, rfl, ?_⟩
    by_cases lt : 2 ^ f < n
    · rw [show decide (((2 ^ f : Nat) : Int) < (n : Int)) = true from decide_eq_true (Int.ofNat_lt.mpr lt)]
      have := lt_pow f
      refine iteT ⟨fun σ H' => ∃ f' : Nat, f' = f + 1 ∧ σ = [some (.int n), some (.int (f' : Nat)), some (.int ((2 ^ f' : Nat) : Int))] ∧ Same H H' ∧ ∀ e, n ≤ 2 ^ e → f' ≤ e,
        fun σ' H' ⟨f', e', q⟩ => ⟨m - 1, by omega, f', by omega, q⟩, ?_⟩
      refine ⟨_, rfl, _, _, rfl, rfl, _, rfl, _, _, rfl, rfl, .inr ⟨by decide, by decide⟩, _, _, rfl, f + 1, rfl, ?_, s1, fun e he => ?_⟩
      · show [some (V.int n), some (.int ((f : Int) + 1)), some (.int (((2 ^ f : Nat) : Int) * 2))] = _
        rw [Nat.pow_succ]
        rfl
      · rcases Nat.lt_or_ge f e with q | q
        · exact q
        · have := Nat.pow_le_pow_right (by decide : 1 ≤ 2) q
          omega
    · rw [show decide (((2 ^ f : Nat) : Int) < (n : Int)) = false from decide_eq_false fun z => lt (Int.ofNat_lt.mp z)]
      exact iteF ⟨_, rfl, k f ⟨by omega, low⟩ H1 s1⟩
/-! ### tests -/
def spTests : Sp := fun vs H Q _ => ∃ (g : Gr) (v : V) (t : Tree Str) (rd : Addr) (ks : List (Str × V)) (S : List Str) (f : Str), vs = [v, .ref rd, .str f] ∧ PlanV H v t ∧ Plan (RB g) S t ∧ KnowsAt false H g rd ks ∧ (∀ n ∈ S, (valV ks n).isSome = true) ∧
  ∀ (H' : Hp) (p : Addr), Same H H' → H' p = some (.tup [.int (walk (RB g) f t).1, .str (walk (RB g) f t).2]) → Q (.ref p) H'
theorem sc_tests : FnScope ["_law_plan", "_law_reached_here", "_law_fault", "_law_count"] ["_law_plan", "_law_reached_here", "_law_fault"] (defScope s_L_tests) := ⟨rfl, rfl, rfl, by decide +kernel, rfl, by decide +kernel, by decide +kernel⟩
theorem ok_tests (T : W K mg) : FnOk P w K mg base CX0 1 T.a_L_tests T.d_L_tests ["_law_plan", "_law_reached_here", "_law_fault"] spTests := by
  refine T.F_L_tests.ok sc_tests (fun vs H Q E h => ?_) (fun cdv A outer s H vs Q E hr h => ?_)
  · obtain ⟨g, v, t, rd, ks, S, f, rfl, _⟩ := h
    rfl
  · obtain ⟨g, v, t, rd, ks, S, f, rfl, pv0, pl, kw, has, k⟩ := h
    have nd := sc_tests.nd
    have hu := hu_of hr
    refine ⟨_, pss_cons (ps_set (i := 3) nd rfl (Or.inl rfl) pe_int)
      (pss_cons (ps_while PassesOwn.never (pt_val (pe_callB call_isi (by rfl) T.z_isinstance (by decide +kernel) (pa_cons (pv 0) (pa_cons (pe_bltn (v := .ty "tuple") (by rfl) T.z_tuple (by decide +kernel) rfl) pa_nil))))
        (pss_cons (ps_set (i := 0) nd rfl (Or.inl rfl) (pe_ifExp (pt_cmp (pc_din hu (pv 2) (pe_dget hu (pv 1) (pe_ix ix_tup (pv 0) pe_int fun _ _ => rfl) fun _ _ => rfl)))
          (pe_ix ix_tup (pv 0) pe_int fun _ _ => rfl) (pe_ix ix_tup (pv 0) pe_int fun _ _ => rfl)))
        (pss_one (ps_set (i := 3) nd rfl (Or.inl rfl) (pe_op op_add (pv 3) pe_int)))))
      (pss_one (ps_ret (pe_tup (pa_cons (pv 3) (pa_cons (pv 0) pa_nil)))))), ?_⟩
    refine ⟨fun m σ H' => ∃ (c : Nat) (v' : V) (t' : Tree Str) (S' : List Str), m = t'.depth ∧ σ = [some v', some (.ref rd), some (.str f), some (.int (c : Nat))] ∧ Same H H' ∧ PlanV H v' t' ∧ Plan (RB g) S' t' ∧ (∀ n ∈ S', n ∈ S) ∧ c + (walk (RB g) f t').1 = (walk (RB g) f t).1 ∧ (walk (RB g) f t').2 = (walk (RB g) f t).2,
      ⟨_, 0, v, t, S, rfl, rfl, Same.refl _, pv0, pl, fun _ h => h, Nat.zero_add _, rfl⟩, ?_⟩
    rintro m σ H1 ⟨c, v', t', S', rfl, rfl, s1, pv1, pl1, sub, e1, e2⟩
    cases pv1 with
    | leaf x =>
      refine ⟨_, rfl, _, _, _, _, false, rfl, .ty "tuple", .base (.str x), kit_ty (by decide +kernel), false, rfl, iteF ?_⟩
      refine ⟨_, rfl, _, rfl, (by show 2 ≤ sizeLine; decide), fun p hp => k _ p (s1.trans (same_new hp)) ?_⟩
      rw [← e1, ← e2, upd_same]
      rfl
    | @node a n vb vg b gt ha pvb pvg =>
      cases pl1 with
      | node _ _ _ _ tst plb plg =>
        refine ⟨_, rfl, _, _, _, _, true, rfl, .ty "tuple", .base (.tup (s1 _ _ ha)), kit_ty (by decide +kernel), true, rfl, iteT ?_⟩
        refine ⟨fun σ H' => ∃ (c' : Nat) (v2 : V) (t2 : Tree Str) (S2 : List Str), t2.depth < (Tree.node n b gt).depth ∧ σ = [some v2, some (.ref rd), some (.str f), some (.int (c' : Nat))] ∧ Same H H' ∧ PlanV H v2 t2 ∧ Plan (RB g) S2 t2 ∧ (∀ n ∈ S2, n ∈ S) ∧ c' + (walk (RB g) f t2).1 = (walk (RB g) f t).1 ∧ (walk (RB g) f t2).2 = (walk (RB g) f t).2,
          fun σ' H' ⟨c', v2, t2, S2, lt, q⟩ => ⟨_, lt, c', v2, t2, S2, rfl, q⟩, ?_⟩
        have nS : n ∈ S := sub n tst.1
        have sq : SqT K H1 a [.str n, vb, vg] := .inl (.inl (s1 _ _ ha))
        have gs := has n nS
        obtain ⟨vv, hv⟩ := Option.isSome_iff_exists.mp gs
        obtain ⟨d, fs, rfl, _, rdx, fnd, re⟩ := kw.get hv
        have rdx1 : RdX false H1 d (.dK (fs.map tr)) := rdx.same s1
        obtain ⟨o, go, ho⟩ := dget_tr (y := f) rdx1 (fun y => (re y).trans rb_iff.symm)
        have gg : DGet H1 rd (.str n) (some (.ref d)) := by
          have z := DGet.k (k := Sum.inr n) (s1 _ _ kw.at_)
          rw [valV_inK, hv] at z
          exact z
        refine ⟨_, rfl, _, rfl, _, rfl, a, _, _, .str n, rfl, rfl, sq, atI_nat (j := 0) rfl, rd, _, rfl, gg, d, o, rfl, go, ?_⟩
        rw [ho]
        have wn := walk_node (RB g) f n b gt
        cases er : RB g n f with
        | true =>
          rw [er, if_pos rfl] at wn
          refine ⟨_, rfl, iteT ⟨_, rfl, a, _, _, vb, rfl, rfl, sq, atI_nat (j := 1) rfl, _, rfl, _, _, rfl, rfl, c + 1, vb, b, _, ?_, rfl, s1, pvb, plb, fun x hx => sub x (mem_bad.mp hx).1, ?_, ?_⟩⟩
          · show b.depth < 1 + max b.depth gt.depth
            omega
          · rw [← e1, wn]
            show c + 1 + _ = c + (1 + _)
            omega
          · rw [← e2, wn]
        | false =>
          rw [er, if_neg (by decide)] at wn
          refine ⟨_, rfl, iteF ⟨_, rfl, a, _, _, vg, rfl, rfl, sq, atI_nat (j := 2) rfl, _, rfl, _, _, rfl, rfl, c + 1, vg, gt, _, ?_, rfl, s1, pvg, plg, fun x hx => sub x (mem_good.mp hx).1, ?_, ?_⟩⟩
          · show gt.depth < 1 + max b.depth gt.depth
            omega
          · rw [← e1, wn]
            show c + 1 + _ = c + (1 + _)
            omega
          · rw [← e2, wn]
end
end K65

set_option maxHeartbeats 200000
/-! K65Law2: the law's search led by next. -/
namespace K65
open PySem L2
theorem namesOf_hit (ms : List Mk3) (a : Addr) (w n : Str) : namesOf (ms ++ [((a, w, n) : Mk3)]) w = namesOf ms w ++ [n] := by
  unfold namesOf
  rw [List.filter_append, List.map_append]
  simp
theorem namesOf_miss (ms : List Mk3) (a : Addr) {w n word : Str} (h : w ≠ word) : namesOf (ms ++ [((a, w, n) : Mk3)]) word = namesOf ms word := by
  unfold namesOf
  rw [List.filter_append, List.map_append]
  simp [h]
theorem bad_good : ("bad" : Str) ≠ "good" := by decide
theorem good_bad : ("good" : Str) ≠ "bad" := by decide
theorem bad_skip : ("bad" : Str) ≠ "skip" := by decide
theorem good_skip : ("good" : Str) ≠ "skip" := by decide
theorem left_bad {g : Gr} {ms : List Mk3} {a : Addr} {n x : Str} : Left g (namesOf (ms ++ [((a, "bad", n) : Mk3)]) "bad") (namesOf (ms ++ [((a, "bad", n) : Mk3)]) "good") x ↔ Left g (namesOf ms "bad") (namesOf ms "good") x ∧ RB g n x = true := by
  rw [namesOf_hit, namesOf_miss ms a bad_good]
  unfold Left
  constructor
  · rintro ⟨h1, h2⟩
    exact ⟨⟨fun b hb => h1 b (List.mem_append_left _ hb), h2⟩, h1 n (List.mem_append_right _ List.mem_cons_self)⟩
  · rintro ⟨⟨h1, h2⟩, h3⟩
    refine ⟨fun b hb => (List.mem_append.mp hb).elim (h1 b) fun z => ?_, h2⟩
    rw [List.mem_singleton.mp z]
    exact h3
theorem left_good {g : Gr} {ms : List Mk3} {a : Addr} {n x : Str} : Left g (namesOf (ms ++ [((a, "good", n) : Mk3)]) "bad") (namesOf (ms ++ [((a, "good", n) : Mk3)]) "good") x ↔ Left g (namesOf ms "bad") (namesOf ms "good") x ∧ RB g n x = false := by
  rw [namesOf_hit, namesOf_miss ms a good_bad]
  unfold Left
  constructor
  · rintro ⟨h1, h2⟩
    exact ⟨⟨h1, fun b hb => h2 b (List.mem_append_left _ hb)⟩, h2 n (List.mem_append_right _ List.mem_cons_self)⟩
  · rintro ⟨⟨h1, h2⟩, h3⟩
    refine ⟨h1, fun b hb => (List.mem_append.mp hb).elim (h2 b) fun z => ?_⟩
    rw [List.mem_singleton.mp z]
    exact h3
theorem IsLeft.bad {g : Gr} {ms : List Mk3} {C : List Str} (h : IsLeft g ms C) (a : Addr) (n : Str) : IsLeft g (ms ++ [((a, "bad", n) : Mk3)]) (badOf (RB g) C n) :=
  ⟨h.1.filter _, sorted_sub List.filter_sublist h.2.1, fun x => by rw [mem_bad, h.2.2 x, left_bad (a := a)]⟩
theorem IsLeft.good {g : Gr} {ms : List Mk3} {C : List Str} (h : IsLeft g ms C) (a : Addr) (n : Str) : IsLeft g (ms ++ [((a, "good", n) : Mk3)]) (goodOf (RB g) C n) :=
  ⟨h.1.filter _, sorted_sub List.filter_sublist h.2.1, fun x => by rw [mem_good, h.2.2 x, left_good (a := a)]⟩
section
variable {P : Program} {w : World} {K : PySem.W.Frag} {mg : Str → Option Value} {base : Heap}
theorem next_ok {T : W K mg} {H : Hp} {g : Gr} {A : Ads} {U : List Str} {s ml : Addr} {ms : List Mk3} {C : List Str} {n : Str} {Q : VK} {E : XK} (x : SeIn T H g A U s ml ms) (ne : namesOf ms "bad" ≠ []) (nsk : namesOf ms "skip" = []) (hC : IsLeft g ms C) (sub : ∀ x ∈ C, x ∈ U)
    (hb : Best g C n) (k : ∀ H', Same H H' → Q (.str n) H') : spNext T [.ref s] H Q E := by
  unfold spNext
  exact ⟨g, A, U, s, ml, ms, C, rfl, x, ne, nsk, hC, sub, fun H' m sm hm => hb.uniq hm ▸ k H' sm, fun no => absurd ⟨n, hb.1⟩ no⟩
theorem next_no {T : W K mg} {H : Hp} {g : Gr} {A : Ads} {U : List Str} {s ml : Addr} {ms : List Mk3} {C : List Str} {Q : VK} {E : XK} (x : SeIn T H g A U s ml ms) (ne : namesOf ms "bad" ≠ []) (nsk : namesOf ms "skip" = []) (hC : IsLeft g ms C) (sub : ∀ x ∈ C, x ∈ U)
    (no : ¬ ∃ n, IsTest (RB g) C n) (k : ∀ H', Same H H' → Q .non H') : spNext T [.ref s] H Q E := by
  unfold spNext
  exact ⟨g, A, U, s, ml, ms, C, rfl, x, ne, nsk, hC, sub, fun H' m sm hm => absurd ⟨m, hm.1⟩ no, fun _ => k⟩
theorem mark_bad {T : W K mg} {H : Hp} {g : Gr} {A : Ads} {U : List Str} {s ml : Addr} {ms : List Mk3} {n y : Str} {Q : VK} {E : XK} (x : SeIn T H g A U s ml ms) (hn : n ∈ U) (few : ms.length < 40)
    (hy : Left g (namesOf ms "bad") (namesOf ms "good") y ∧ RB g n y = true) (sub : ∀ y, RB g n y = true → y ∈ g.ns) (k : ∀ (H' : Hp) (a : Addr), But ml H H' → SeIn T H' g A U s ml (ms ++ [((a, "bad", n) : Mk3)]) → Q .non H') : spMarkAs T "bad" [.ref s, .str n] H Q E := by
  obtain ⟨dx, hs⟩ := x.se.ins
  unfold spMarkAs
  refine ⟨s, .str n, rfl, ⟨dx, _, hs, rfl⟩, g, A, U, s, ml, ms, "bad", n, rfl, x, hn, few, bad_skip, ?_, ⟨y, left_bad.mpr hy⟩, fun z hz => sub z (left_bad.mp hz).2, k⟩
  rw [namesOf_hit]
  simp
theorem mark_good {T : W K mg} {H : Hp} {g : Gr} {A : Ads} {U : List Str} {s ml : Addr} {ms : List Mk3} {n y : Str} {Q : VK} {E : XK} (x : SeIn T H g A U s ml ms) (hn : n ∈ U) (few : ms.length < 40) (ne : namesOf ms "bad" ≠ [])
    (hy : Left g (namesOf ms "bad") (namesOf ms "good") y ∧ RB g n y = false) (sub : ∀ y, Left g (namesOf ms "bad") (namesOf ms "good") y → y ∈ g.ns) (k : ∀ (H' : Hp) (a : Addr), But ml H H' → SeIn T H' g A U s ml (ms ++ [((a, "good", n) : Mk3)]) → Q .non H') : spMarkAs T "good" [.ref s, .str n] H Q E := by
  obtain ⟨dx, hs⟩ := x.se.ins
  unfold spMarkAs
  refine ⟨s, .str n, rfl, ⟨dx, _, hs, rfl⟩, g, A, U, s, ml, ms, "good", n, rfl, x, hn, few, good_skip, ?_, ⟨y, left_good.mpr hy⟩, fun z hz => sub z (left_good.mp hz).1, k⟩
  rw [namesOf_miss ms 0 good_bad]
  exact ne
/-- ranked as they stand -/
def Line (g : Gr) : Prop := ∀ (i j : Nat) (x y : Str), g.ns[i]? = some x → g.ns[j]? = some y → RB g x y = decide (j ≤ i)
def spLed (T : W K mg) : Sp := fun vs H Q _ => ∃ (g : Gr) (A : Ads) (t : Addr) (C0 : List Str) (t0 : Tree Str) (f : Str) (i : Nat), vs = [.ref A.h, .ref t, .str f, .int i] ∧ PastAt T true H g A g.ns ∧ FrzT H t (g.ns.map V.str) ∧ g.ns[i]? = some f ∧ Line g ∧
  C0.Nodup ∧ PyProof.Rows.sortedS C0 = true ∧ (∀ x, x ∈ C0 ↔ x ∈ g.ns) ∧ Led g C0 t0 ∧ ∀ H', Same H H' → Q (.int (walk (RB g) f t0).1) H'
theorem sc_led : FnScope ["_law_history_here", "_law_names", "_law_fault", "_law_at", "_law_search", "_law_count"] ["_law_history_here", "_law_names", "_law_fault", "_law_at"] (defScope s_L_led_by_next) := ⟨rfl, rfl, rfl, by decide +kernel, rfl, by decide +kernel, by decide +kernel⟩
theorem but_fresh {H0 H1 H2 : Hp} {ml : Addr} (s : Same H0 H1) (b : But ml H1 H2) (h : H0 ml = none) : Same H0 H2 := fun c o e => b c o (s c o e) (ne_of_none e h)
theorem ok_led (T : W K mg) : FnOk P w K mg base CX0 9 T.a_L_led_by_next T.d_L_led_by_next ["_law_history_here", "_law_names", "_law_fault", "_law_at"] (spLed T) := by
  have b0 := T.F_Search_DinitD.binds (ps := ["self", "history"]) fun _ _ _ _ _ _ us hl => match us, hl with | [_, _], _ => rfl
  have b1 := T.F_Search_bad.binds (ps := ["self", "name"]) fun _ _ _ _ _ _ us hl => match us, hl with | [_, _], _ => rfl
  have b2 := T.F_Search_good.binds (ps := ["self", "name"]) fun _ _ _ _ _ _ us hl => match us, hl with | [_, _], _ => rfl
  have b3 := T.F_Search_next.binds (ps := ["self"]) fun _ _ _ _ _ _ us hl => match us, hl with | [_], _ => rfl
  have b4 := T.F_Search_found.binds (ps := ["self"]) fun _ _ _ _ _ _ us hl => match us, hl with | [_], _ => rfl
  refine T.F_L_led_by_next.ok sc_led (fun vs H Q E h => ?_) (fun cdv A0 outer s H vs Q E hr h => ?_)
  · obtain ⟨g, A, t, C0, t0, f, i, rfl, _⟩ := h
    rfl
  · obtain ⟨g, A, t, C0, t0, f, i, rfl, past, fz, hf, line, nd0, so0, mem0, led0, k⟩ := h
    have nd := sc_led.nd
    refine ⟨_, pss_cons (ps_par (i := 4) (j := 5) rfl nd rfl rfl (by decide) rfl rfl (pa_cons (pe_make T.k_Search (ok_seinit T) (hr.mono (by decide)) rfl T.gCSearch b0 .nil pass0 (pa_cons (pv 0) pa_nil)) (pa_cons pe_int pa_nil)) (by rfl))
      (pss_cons (ps_expr (pe_meth (pv 4) T.clSearch T.m_Search_bad (ok_bad T) hr b1 .nil pass0 (pa_cons (pe_ix ix_tup (pv 1) (pe_un un_neg pe_int) fun _ _ => rfl) pa_nil)))
      (pss_cons (ps_while PassesOwn.never (pt_cmp (pc_notN (pe_meth0 (pv 4) T.clSearch T.m_Search_next (ok_next T) (hr.mono (by decide)) b3 .nil pass0)))
        (pss_cons (ps_set (i := 5) nd rfl (Or.inl rfl) (pe_op op_add (pv 5) pe_int))
        (pss_one (ps_if (pt_cmpR op_ge (pe_bmF PySem.F.plainAttrs_tuple PySem.F.slot_tuple_index PySem.F.type_tuple_index mt_tup_index (pv 1) (pa_cons (pe_meth0 (pv 4) T.clSearch T.m_Search_next (ok_next T) (hr.mono (by decide)) b3 .nil pass0) pa_nil)) (pv 3) (nomark _))
          (pss_one (ps_expr (pe_meth (pv 4) T.clSearch T.m_Search_bad (ok_bad T) hr b1 .nil pass0 (pa_cons (pe_meth0 (pv 4) T.clSearch T.m_Search_next (ok_next T) (hr.mono (by decide)) b3 .nil pass0) pa_nil))))
          (pss_one (ps_expr (pe_meth (pv 4) T.clSearch T.m_Search_good (ok_good T) hr b2 .nil pass0 (pa_cons (pe_meth0 (pv 4) T.clSearch T.m_Search_next (ok_next T) (hr.mono (by decide)) b3 .nil pass0) pa_nil))))))))
      (pss_one (ps_ret (pe_ifExp (pt_cmpR op_eq (pe_meth0 (pv 4) T.clSearch T.m_Search_found (ok_found T) (hr.mono (by decide)) b4 .nil pass0) (pv 2) (nomark _)) (pv 5) pe_non))))), ?_⟩
    refine ⟨_, rfl, fun s dx hs hdx hne => ⟨s, dx, A.h, rfl, upd_same, fun H1 ml hml se0 bt1 => ⟨rfl, _, _, rfl, ?_⟩⟩⟩
    have s1 : Same H H1 := fun b o e => bt1 b o (by rw [upd_ne (ne_of_none e hs), upd_ne (ne_of_none e hdx)]; exact e) (ne_of_none e hs)
    have hml0 : H ml = none := by
      cases e : H ml with
      | none => rfl
      | some o =>
        rw [upd_ne (ne_of_none e hs), upd_ne (ne_of_none e hdx), e] at hml
        cases hml
    have ok := past.ok
    have pos : 1 ≤ g.ns.length := Nat.lt_of_le_of_lt (Nat.zero_le _) (List.getElem?_eq_some_iff.mp hf).1
    obtain ⟨init, last, el⟩ : ∃ init last, g.ns = init ++ [last] := ⟨_, _, (List.dropLast_concat_getLast (List.length_pos_iff.mp pos)).symm⟩
    have hl : g.ns[init.length]? = some last := by rw [el]; simp
    have ml0 : last ∈ g.ns := List.mem_of_getElem? hl
    have rl : ∀ x, x ∈ g.ns → RB g last x = true := fun x hx => by
      obtain ⟨j, hj⟩ := List.getElem?_of_mem hx
      rw [line _ _ _ _ hl hj]
      have := (List.getElem?_eq_some_iff.mp hj).1
      rw [el, List.length_append] at this
      exact decide_eq_true (by simp at this; omega)
    have rin : ∀ n, n ∈ g.ns → ∀ x, RB g n x = true → x ∈ g.ns := fun n hn x hx => (rb_iff.mp hx).mem ok hn
    obtain ⟨fob, hfz, fcl, fdi⟩ := fz
    have fz' : ∀ {H' : Hp}, Same H H' → FrzT H' t (g.ns.map V.str) := fun s' => ⟨fob, s' _ _ hfz, fcl, fdi⟩
    have in0 : SeIn T H1 g A g.ns s ml [] := ⟨past.same s1, se0, fun m h => by cases h⟩
    obtain ⟨dx1, hs1⟩ := se0.ins
    refine ⟨_, rfl, s, dx1, _, rfl, hs1, rfl, _, rfl, _, rfl, t, _, _, .str last, rfl, rfl, (fz' s1).seq, by rw [el, List.map_append]; exact atI_last _ _, mark_bad (y := last) in0 ml0 (by decide) ⟨⟨(fun _ h => by cases h), (fun _ h => by cases h)⟩, rb_refl g last⟩ (rin last ml0) fun H2 a0 bt2 in2 => ?_⟩
    have s2 : Same H H2 := but_fresh s1 bt2 hml0
    refine ⟨fun m σ H' => ∃ (c : Nat) (ms : List Mk3) (C : List Str) (t' : Tree Str), m = C.length ∧ σ = [some (.ref A.h), some (.ref t), some (.str f), some (.int (i : Nat)), some (.ref s), some (.int (c : Nat))] ∧ Same H H' ∧ SeIn T H' g A g.ns s ml ms ∧ namesOf ms "bad" ≠ [] ∧ namesOf ms "skip" = [] ∧
      IsLeft g ms C ∧ (∀ x ∈ C, x ∈ g.ns) ∧ Led g C t' ∧ f ∈ C ∧ c + (walk (RB g) f t').1 = (walk (RB g) f t0).1 ∧ ms.length + C.length ≤ 30,
      ⟨_, 0, _, C0, t0, rfl, rfl, s2, in2, ?_, rfl, ⟨nd0, so0, fun x => ?_⟩, fun x hx => (mem0 x).mp hx, led0, (mem0 f).mpr (List.mem_of_getElem? hf), Nat.zero_add _, ?_⟩, ?_⟩
    · rw [namesOf_hit]
      simp
    · rw [left_bad, mem0]
      exact ⟨fun h => ⟨⟨(fun _ h => by cases h), (fun _ h => by cases h)⟩, rl x h⟩, fun h => rin last ml0 x h.2⟩
    · have z := nodup_len nd0 fun x hx => (mem0 x).mp hx
      have := ok.sm
      show 1 + C0.length ≤ 30
      omega
    rintro m σ H3 ⟨c, ms, C, t', rfl, rfl, s3, in3, nb, nsk, hC, sub, led, hfC, ec, few⟩
    obtain ⟨dx3, hs3⟩ := in3.se.ins
    cases led with
    | leaf x =>
      obtain rfl : f = x := by simpa using hfC
      have no : ¬ ∃ n, IsTest (RB g) [f] n := fun ⟨n, hn⟩ => by
        obtain rfl : n = f := by simpa using hn.1
        exact hn.2 (by show (List.filter _ _).length = _; rw [List.filter_cons, rb_refl]; rfl)
      refine ⟨_, rfl, s, dx3, _, rfl, hs3, rfl, next_no in3 nb nsk hC sub no fun H4 s4 => ?_⟩
      refine ⟨_, rfl, iteNS rfl ?_⟩
      have in4 := in3.same s4
      refine ⟨_, rfl, s, dx3, _, rfl, s4 _ _ hs3, rfl, ⟨g, A, g.ns, s, ml, ms, f, rfl, in4, nb, hC, fun H5 s5 => ?_⟩⟩
      refine ⟨_, rfl, rfl, _, rfl, ?_⟩
      rw [decide_eq_true rfl]
      refine iteT ⟨_, rfl, ?_⟩
      have z := k H5 ((s3.trans s4).trans s5)
      rw [← ec, walk_leaf] at z
      exact z
    | @node _ n b gt hb lb lg =>
      have hn := hb.1.1
      have hnU := sub n hn
      obtain ⟨jn, hjn⟩ := List.getElem?_of_mem hnU
      have ern : RB g n f = decide (i ≤ jn) := line _ _ _ _ hjn hf
      have wn := walk_node (RB g) f n b gt
      have sp1 := good_pos hb.1
      have sp2 := bad_pos (fun x _ => rb_refl g x) hb.1.1
      have sp3 := len_split (R := RB g) C n
      refine ⟨_, rfl, s, dx3, _, rfl, hs3, rfl, next_ok in3 nb nsk hC sub hb fun H4 s4 => ?_⟩
      have in4 := in3.same s4
      refine ⟨_, rfl, ?_⟩
      rw [decide_eq_false (fun z : V.str n = V.non => by cases z)]
      refine iteT ⟨fun σ H' => ∃ (c : Nat) (ms : List Mk3) (C' : List Str) (t' : Tree Str), C'.length < C.length ∧ σ = [some (.ref A.h), some (.ref t), some (.str f), some (.int (i : Nat)), some (.ref s), some (.int (c : Nat))] ∧ Same H H' ∧ SeIn T H' g A g.ns s ml ms ∧ namesOf ms "bad" ≠ [] ∧ namesOf ms "skip" = [] ∧
          IsLeft g ms C' ∧ (∀ x ∈ C', x ∈ g.ns) ∧ Led g C' t' ∧ f ∈ C' ∧ c + (walk (RB g) f t').1 = (walk (RB g) f t0).1 ∧ ms.length + C'.length ≤ 30, fun σ' H' ⟨c, ms, C', t', lt, q⟩ => ⟨_, lt, c, ms, C', t', rfl, q⟩, ?_⟩
      refine ⟨_, rfl, _, _, rfl, rfl, ?_⟩
      have s34 := s3.trans s4
      refine ⟨_, rfl, ⟨t, _, rfl, fz' s34⟩, _, rfl, s, dx3, _, rfl, s4 _ _ hs3, rfl, next_ok in4 nb nsk hC sub hb fun H5 s5 => ?_⟩
      have s35 := s34.trans s5
      have in5 := in4.same s5
      have hs5 := s5 _ _ (s4 _ _ hs3)
      refine ⟨t, g.ns, n, jn, rfl, rfl, (fz' s35).seq, hjn, fun m hm e => ?_, _, rfl, _, _, rfl, rfl, _, rfl, ?_⟩
      · have z := (List.getElem?_inj (by have := (List.getElem?_eq_some_iff.mp hjn).1; omega) ok.nd).mp (e.trans hjn.symm)
        omega
      by_cases le : i ≤ jn
      · rw [decide_eq_true (Int.ofNat_le.mpr le)]
        rw [decide_eq_true le] at ern
        rw [ern, if_pos rfl] at wn
        refine iteT ⟨_, rfl, s, dx3, _, rfl, hs5, rfl, _, rfl, s, dx3, _, rfl, hs5, rfl, next_ok in5 nb nsk hC sub hb fun H6 s6 => ?_⟩
        have in6 := in5.same s6
        refine mark_bad (y := n) in6 hnU (by omega) ⟨(hC.2.2 n).mp hn, rb_refl g n⟩ (rin n hnU) fun H7 a bt7 in7 => ?_
        refine ⟨c + 1, _, badOf (RB g) C n, b, by omega, rfl, but_fresh (s35.trans s6) bt7 hml0, in7, ?_, ?_, hC.bad a n, fun x hx => sub x (mem_bad.mp hx).1, lb, mem_bad.mpr ⟨hfC, ern⟩, ?_, ?_⟩
        · rw [namesOf_hit]
          simp
        · rw [namesOf_miss ms a bad_skip]
          exact nsk
        · rw [← ec, wn]
          show c + 1 + _ = c + (1 + _)
          omega
        · rw [List.length_append]
          show ms.length + 1 + _ ≤ 30
          omega
      · rw [decide_eq_false fun z => le (Int.ofNat_le.mp z)]
        rw [decide_eq_false le] at ern
        rw [ern, if_neg (by decide)] at wn
        refine iteF ⟨_, rfl, s, dx3, _, rfl, hs5, rfl, _, rfl, s, dx3, _, rfl, hs5, rfl, next_ok in5 nb nsk hC sub hb fun H6 s6 => ?_⟩
        have in6 := in5.same s6
        refine mark_good (y := f) in6 hnU (by omega) nb ⟨(hC.2.2 f).mp hfC, ern⟩ (fun y hy => sub y ((hC.2.2 y).mpr hy)) fun H7 a bt7 in7 => ?_
        refine ⟨c + 1, _, goodOf (RB g) C n, gt, by omega, rfl, but_fresh (s35.trans s6) bt7 hml0, in7, ?_, ?_, hC.good a n, fun x hx => sub x (mem_good.mp hx).1, lg, mem_good.mpr ⟨hfC, ern⟩, ?_, ?_⟩
        · rw [namesOf_miss ms a good_bad]
          exact nb
        · rw [namesOf_miss ms a good_skip]
          exact nsk
        · rw [← ec, wn]
          show c + 1 + _ = c + (1 + _)
          omega
        · rw [List.length_append]
          show ms.length + 1 + _ ≤ 30
          omega
end
end K65

set_option maxHeartbeats 200000
/-! K65Made: commits put one after the other; their graph; what the store then keeps. -/
namespace K65
open PySem L2
/-- the empty tree's id, a commit's id -/
def tid : Str := oid .tree
def cid (c : Cm) : Str := oid (.com c)
/-- made one after the other -/
inductive Made : List Cm → Prop
  | nil : Made []
  | snoc {cs : List Cm} {c : Cm} : Made cs → OkC c → (∀ p ∈ c.ps, p ∈ cs.map cid) → ¬ cid c ∈ cs.map cid → cid c ≠ tid → Made (cs ++ [c])
def seek (cs : List Cm) (n : Str) : Option Cm := cs.find? fun c => decide (cid c = n)
def grOf (cs : List Cm) : Gr := ⟨cs.map cid, fun n => match seek cs n with | some c => c.ps | none => [], fun n => match seek cs n with | some c => c.tm | none => 0, fun n => (cs.map cid).idxOf n⟩
theorem seek_old {cs : List Cm} {c : Cm} {n : Str} (h : n ∈ cs.map cid) : seek (cs ++ [c]) n = seek cs n := by
  unfold seek
  rw [List.find?_append]
  cases e : cs.find? fun c => decide (cid c = n) with
  | some d => rfl
  | none =>
    obtain ⟨d, hd, rfl⟩ := List.mem_map.mp h
    have := List.find?_eq_none.mp e d hd
    simp at this
theorem seek_new {cs : List Cm} {c : Cm} (h : ¬ cid c ∈ cs.map cid) : seek (cs ++ [c]) (cid c) = some c := by
  unfold seek
  rw [List.find?_append]
  have e : (cs.find? fun d => decide (cid d = cid c)) = none := List.find?_eq_none.mpr fun d hd => by
    simp only [decide_eq_true_eq]
    exact fun z => h (z ▸ List.mem_map_of_mem hd)
  rw [e]
  simp
theorem Made.seek {cs : List Cm} (m : Made cs) : ∀ c ∈ cs, seek cs (cid c) = some c := by
  induction m with
  | nil => intro c h; cases h
  | @snoc cs d _ _ _ no _ ih =>
    intro c hc
    rcases List.mem_append.mp hc with h | h
    · rw [seek_old (List.mem_map_of_mem h)]
      exact ih c h
    · obtain rfl := List.mem_singleton.mp h
      exact seek_new no
theorem grOf_par {cs : List Cm} (m : Made cs) {c : Cm} (h : c ∈ cs) : (grOf cs).par (cid c) = c.ps := by
  show (match K65.seek cs (cid c) with | some c => c.ps | none => []) = c.ps
  rw [m.seek c h]
theorem grOf_tm {cs : List Cm} (m : Made cs) {c : Cm} (h : c ∈ cs) : (grOf cs).tm (cid c) = c.tm := by
  show (match K65.seek cs (cid c) with | some c => c.tm | none => 0) = c.tm
  rw [m.seek c h]
theorem Made.nd {cs : List Cm} (m : Made cs) : (cs.map cid).Nodup := by
  induction m with
  | nil => exact .nil
  | snoc _ _ _ no _ ih =>
    rw [List.map_append]
    exact nd_snoc ih no
theorem Made.okC {cs : List Cm} (m : Made cs) : ∀ c ∈ cs, OkC c := by
  induction m with
  | nil => intro c h; cases h
  | snoc _ o _ _ _ ih => exact fun c hc => (List.mem_append.mp hc).elim (ih c) fun z => List.mem_singleton.mp z ▸ o
theorem Made.tid {cs : List Cm} (m : Made cs) : ¬ K65.tid ∈ cs.map cid := by
  induction m with
  | nil => intro h; cases h
  | snoc _ _ _ _ ne ih =>
    rw [List.map_append]
    exact fun h => (List.mem_append.mp h).elim ih fun z => ne (List.mem_singleton.mp z).symm
theorem Made.cl {cs : List Cm} (m : Made cs) : ∀ c ∈ cs, ∀ p ∈ c.ps, p ∈ cs.map cid ∧ (cs.map cid).idxOf p < (cs.map cid).idxOf (cid c) := by
  induction m with
  | nil => intro c h; cases h
  | @snoc cs d _ _ sub no _ ih =>
    intro c hc p hp
    rw [List.map_append]
    rcases List.mem_append.mp hc with h | h
    · obtain ⟨h1, h2⟩ := ih c h p hp
      exact ⟨List.mem_append_left _ h1, by rw [List.idxOf_append, List.idxOf_append, if_pos h1, if_pos (List.mem_map_of_mem h)]; exact h2⟩
    · obtain rfl := List.mem_singleton.mp h
      have h1 := sub p hp
      refine ⟨List.mem_append_left _ h1, ?_⟩
      rw [List.idxOf_append, List.idxOf_append, if_pos h1, if_neg no]
      have := List.idxOf_lt_length_of_mem h1
      omega
theorem Made.ok {cs : List Cm} (m : Made cs) (few : cs.length ≤ 15) : (grOf cs).Ok := by
  refine ⟨m.nd, ?_, fun n hn => ?_, fun n hn p hp => ?_, fun n hn p hp => ?_, fun n hn => ?_⟩
  · show (cs.map cid).length ≤ 15
    rw [List.length_map]
    exact few
  all_goals obtain ⟨c, hc, rfl⟩ := List.mem_map.mp hn
  · exact oid_asc _
  · rw [grOf_par m hc] at hp
    exact (m.cl c hc p hp).1
  · rw [grOf_par m hc] at hp
    exact (m.cl c hc p hp).2
  · rw [grOf_par m hc]
    exact (m.okC c hc).nps
theorem Made.pre {cs : List Cm} {c : Cm} (m : Made (cs ++ [c])) : Made cs ∧ OkC c ∧ (∀ p ∈ c.ps, p ∈ cs.map cid) ∧ ¬ cid c ∈ cs.map cid ∧ cid c ≠ K65.tid := by
  generalize e : cs ++ [c] = l at m
  cases m with
  | nil => simp at e
  | @snoc cs' c' m o s n t =>
    obtain ⟨rfl, e2⟩ := List.append_inj' e rfl
    obtain rfl := List.singleton_inj.mp e2
    exact ⟨m, o, s, n, t⟩
section
variable {K : PySem.W.Frag} {mg : Str → Option Value}
/-- the dict of a store that keeps the empty tree and these commits -/
def StAt (T : W K mg) (H : Hp) (kd : Addr) (cs : List Cm) : Prop := ∃ kvs, H kd = some (.dK kvs) ∧ kvs.length ≤ cs.length + 1 ∧ (∀ x, x ≠ tid → ¬ x ∈ cs.map cid → valV kvs (Sum.inr x) = none) ∧ ∀ c ∈ cs, ∃ a, valV kvs (Sum.inr (cid c)) = some (.ref a) ∧ CommitAt T H a c
theorem StAt.same {T : W K mg} {H H' : Hp} {kd : Addr} {cs : List Cm} (x : StAt T H kd cs) (s : Same H H') : StAt T H' kd cs := let ⟨kvs, a, b, c, d⟩ := x; ⟨kvs, s _ _ a, b, c, fun q hq => let ⟨e, f, g⟩ := d q hq; ⟨e, f, g.same s⟩⟩
theorem put_ok {T : W K mg} {H : Hp} {st kd a : Addr} {cs : List Cm} {c : Cm} {Q : VK} {E : XK} (hs : StoreAt T H st kd) (x : StAt T H kd cs) (hc : CommitAt T H a c) (m : Made (cs ++ [c])) (few : cs.length ≤ 20)
    (k : ∀ H', But kd H H' → StoreAt T H' st kd → StAt T H' kd (cs ++ [c]) → Q (.str (cid c)) H') : spPut T [.ref st, .ref a] H Q E := by
  obtain ⟨kvs, hk, len, out, has⟩ := x
  obtain ⟨_, o, _, no, nt⟩ := m.pre
  have abs : valV kvs (Sum.inr (cid c)) = none := out _ nt no
  unfold spPut
  refine ⟨st, kd, a, .com c, kvs, rfl, hs, hk, hc, o, abs, by omega, fun H' h1 h2 => ?_⟩
  have bt : But kd H H' := fun b u e n => h2 b u e n
  replace h1 : H' kd = some (.dK (kvs ++ [((Sum.inr (cid c) : Key), V.ref a)])) := h1
  obtain ⟨dx, hs'⟩ := hs
  have hc' := but_commit hk bt hc
  refine k H' bt ⟨dx, h2 _ _ hs' (ne_of hs' hk (by intro z; cases z))⟩ ⟨_, h1, ?_, fun y h3 h4 => ?_, fun d hd => ?_⟩
  · rw [List.length_append, List.length_append]
    simp only [List.length_cons, List.length_nil]
    omega
  · rw [List.map_append] at h4
    rw [valV_snoc _ _ _ _ abs, if_neg fun z => h4 (List.mem_append_right _ (List.mem_singleton.mpr (Sum.inr.inj z)))]
    exact out y h3 fun z => h4 (List.mem_append_left _ z)
  · rw [valV_snoc _ _ _ _ abs]
    rcases List.mem_append.mp hd with h | h
    · obtain ⟨b, hb, hb2⟩ := has d h
      rw [if_neg fun z => no (by rw [← Sum.inr.inj z]; exact List.mem_map_of_mem h)]
      exact ⟨b, hb, but_commit hk bt hb2⟩
    · obtain rfl := List.mem_singleton.mp h
      rw [if_pos rfl]
      exact ⟨a, rfl, hc'⟩
theorem put_tree {T : W K mg} {H : Hp} {st kd a : Addr} {Q : VK} {E : XK} (hs : StoreAt T H st kd) (hk : H kd = some (.dK [])) (hc : TreeAt T H a)
    (k : ∀ H', But kd H H' → StoreAt T H' st kd → StAt T H' kd [] → Q (.str tid) H') : spPut T [.ref st, .ref a] H Q E := by
  unfold spPut
  refine ⟨st, kd, a, .tree, [], rfl, hs, hk, hc, True.intro, rfl, by decide, fun H' h1 h2 => ?_⟩
  obtain ⟨dx, hs'⟩ := hs
  refine k H' (fun b u e n => h2 b u e n) ⟨dx, h2 _ _ hs' (ne_of hs' hk (by intro z; cases z))⟩ ⟨_, h1, Nat.le_refl _, fun y h3 _ => ?_, fun d hd => by cases hd⟩
  exact valV_neg fun z => h3 (Sum.inr.inj z).symm
theorem hist_of {T : W K mg} {H : Hp} {h dx dd st kd e kn : Addr} {cs : List Cm} (m : Made cs) (hi : H h = some (.ins T.CHistory dx [("held", .ref st), ("ends", .ref e), ("known", .ref kn), ("depths", .ref dd)]))
    (hs : StoreAt T H st kd) (he : SqT K H e []) (x : StAt T H kd cs) : HistAt T H (grOf cs) h st kd e kn := by
  obtain ⟨kvs, hk, _, _, has⟩ := x
  refine ⟨⟨dx, dd, hi⟩, hs, he, ⟨kvs, hk, fun n hn => ?_⟩⟩
  obtain ⟨c, hc, rfl⟩ := List.mem_map.mp hn
  obtain ⟨a, h1, h2⟩ := has c hc
  exact ⟨a, c, h1, h2, (grOf_par m hc).symm, (grOf_tm m hc).symm⟩
end
end K65

set_option maxHeartbeats 200000
/-! K65Rows: the rows of commits of the law: a line, and commits without parents with one that reaches all. -/
namespace K65
open PySem L2
def rowC (line : Bool) (many : Nat) (names : List Str) (i : Nat) : Cm := ⟨tid, if line = true then names.drop (names.length - 1) else if i + 1 = many then names else [], "c", 0, toString (i : Int)⟩
def rowCs (line : Bool) (many : Nat) : Nat → List Cm
  | 0 => []
  | i + 1 => let r := rowCs line many i; r ++ [rowC line many (r.map cid) i]
theorem rowCs_len (line : Bool) (many : Nat) : ∀ i, (rowCs line many i).length = i
  | 0 => rfl
  | i + 1 => by
    show (rowCs line many i ++ [_]).length = i + 1
    rw [List.length_append, rowCs_len line many i]
    rfl
theorem line_any (m n : Nat) : ∀ i, rowCs true m i = rowCs true n i
  | 0 => rfl
  | i + 1 => by
    show rowCs true m i ++ [rowC true m ((rowCs true m i).map cid) i] = rowCs true n i ++ [rowC true n ((rowCs true n i).map cid) i]
    rw [line_any m n i]
    rfl
/-! ### the ids are told apart: a ground computation -/
def rowId (line : Bool) (many : Nat) : Nat → List Str
  | 0 => []
  | i + 1 => let r := rowId line many i; r ++ [cid (rowC line many r i)]
theorem rowId_eq (line : Bool) (many : Nat) : ∀ i, (rowCs line many i).map cid = rowId line many i
  | 0 => rfl
  | i + 1 => by
    show (rowCs line many i ++ [rowC line many ((rowCs line many i).map cid) i]).map cid = rowId line many i ++ [cid (rowC line many (rowId line many i) i)]
    rw [List.map_append, rowId_eq line many i]
    rfl
theorem apart_line : (tid :: rowId true 0 12).Nodup := by decide +kernel
theorem apart_2 : (tid :: rowId false 2 2).Nodup := by decide +kernel
theorem apart_3 : (tid :: rowId false 3 3).Nodup := by decide +kernel
theorem apart_4 : (tid :: rowId false 4 4).Nodup := by decide +kernel
theorem apart_5 : (tid :: rowId false 5 5).Nodup := by decide +kernel
theorem apart_6 : (tid :: rowId false 6 6).Nodup := by decide +kernel
def RowOk (line : Bool) (many : Nat) : Prop := 1 ≤ many ∧ many ≤ 12 ∧ (line = false → 2 ≤ many ∧ many ≤ 6)
theorem row_pre (line : Bool) (many : Nat) {i j : Nat} (h : i ≤ j) : ∃ r, rowCs line many j = rowCs line many i ++ r := by
  induction j with
  | zero =>
    obtain rfl : i = 0 := by omega
    exact ⟨[], rfl⟩
  | succ j ih =>
    by_cases e : i = j + 1
    · subst e
      exact ⟨[], by rw [List.append_nil]⟩
    · obtain ⟨r, er⟩ := ih (by omega)
      exact ⟨r ++ [_], by show rowCs line many j ++ [_] = _; rw [er, List.append_assoc]⟩
theorem apart {line : Bool} {many i : Nat} (o : RowOk line many) (hi : i ≤ many) : (tid :: (rowCs line many i).map cid).Nodup := by
  obtain ⟨h1, h2, h3⟩ := o
  cases line with
  | true =>
    rw [line_any many 0]
    obtain ⟨r, er⟩ := row_pre true 0 (show i ≤ 12 by omega)
    have z := apart_line
    rw [← rowId_eq, er, List.map_append, ← List.cons_append] at z
    exact (List.nodup_append.mp z).1
  | false =>
    obtain ⟨h4, h5⟩ := h3 rfl
    obtain ⟨r, er⟩ := row_pre false many hi
    have z : (tid :: (rowCs false many many).map cid).Nodup := by
      rw [rowId_eq]
      rcases (show many = 2 ∨ many = 3 ∨ many = 4 ∨ many = 5 ∨ many = 6 by omega) with rfl | rfl | rfl | rfl | rfl
      · exact apart_2
      · exact apart_3
      · exact apart_4
      · exact apart_5
      · exact apart_6
    rw [er, List.map_append, ← List.cons_append] at z
    exact (List.nodup_append.mp z).1
theorem num_ok : ∀ i : Fin 16, (toString ((i.val : Nat) : Int) : Str).length ≤ 200 ∧ ∀ x ∈ (toString ((i.val : Nat) : Int) : Str).cps.toList, 32 ≤ x ∧ x ≤ 126 := by decide +kernel
theorem rowC_ok {line : Bool} {many i : Nat} {names : List Str} (hl : names.length = i) (h6 : line = false → i ≤ 6) (hi : i < 16) (ids : ∀ n ∈ names, IsId n) (nd : names.Nodup) : OkC (rowC line many names i) := by
  have sub : (rowC line many names i).ps.Sublist names := by
    show (if line = true then names.drop (names.length - 1) else if i + 1 = many then names else []).Sublist names
    split
    · exact List.drop_sublist ..
    · split
      · exact List.Sublist.refl _
      · exact List.nil_sublist _
  refine ⟨oid_asc _, fun x hx => ids x (sub.subset hx), ?_, nd.sublist sub, (by show 1 ≤ 1; decide), (by show 1 ≤ 12; decide), ?_, Int.le_refl 0, (by show (0 : Int) ≤ 1000; decide), (num_ok ⟨i, hi⟩).1, (num_ok ⟨i, hi⟩).2⟩
  · show (if line = true then names.drop (names.length - 1) else if i + 1 = many then names else []).length ≤ 6
    cases line with
    | true =>
      rw [if_pos rfl, List.length_drop]
      omega
    | false =>
      rw [if_neg (by decide)]
      have := h6 rfl
      split
      · omega
      · exact Nat.zero_le _
  · show ∀ x ∈ ("c" : Str).cps.toList, x ∈ ("abcdefghijklmnopqrstuvwxyz" : Str).cps.toList
    decide +kernel
theorem rowC_sub {line : Bool} {many i : Nat} {names : List Str} : ∀ p ∈ (rowC line many names i).ps, p ∈ names := by
  intro p hp
  replace hp : p ∈ (if line = true then names.drop (names.length - 1) else if i + 1 = many then names else []) := hp
  split at hp
  · exact List.mem_of_mem_drop hp
  · split at hp
    · exact hp
    · cases hp
theorem row_made {line : Bool} {many : Nat} (o : RowOk line many) : ∀ i, i ≤ many → Made (rowCs line many i)
  | 0, _ => .nil
  | i + 1, hi => by
    have m := row_made o i (by omega)
    have z := apart o hi
    replace z : (tid :: (rowCs line many i ++ [rowC line many ((rowCs line many i).map cid) i]).map cid).Nodup := z
    rw [List.map_append, ← List.cons_append] at z
    obtain ⟨_, _, z3⟩ := List.nodup_append.mp z
    have no : ∀ a, a ∈ tid :: (rowCs line many i).map cid → a ≠ cid (rowC line many ((rowCs line many i).map cid) i) := fun a ha => z3 a ha _ (List.mem_singleton.mpr rfl)
    refine .snoc m (rowC_ok (by rw [List.length_map, rowCs_len]) (fun e => by have := (o.2.2 e).2; omega) (by have := o.2.1; omega) (fun n hn => ?_) m.nd) rowC_sub (fun h => no _ (List.mem_cons_of_mem _ h) rfl) fun e => no _ List.mem_cons_self e.symm
    obtain ⟨c, hc, rfl⟩ := List.mem_map.mp hn
    exact oid_asc _
/-! ### the graph of a row -/
theorem row_at (line : Bool) (many : Nat) {i j : Nat} (h : i < j) : (rowCs line many j)[i]? = some (rowC line many ((rowCs line many i).map cid) i) := by
  obtain ⟨r, er⟩ := row_pre line many (show i + 1 ≤ j from h)
  rw [er]
  show (rowCs line many i ++ [_] ++ r)[i]? = _
  rw [List.append_assoc, List.getElem?_append_right (by rw [rowCs_len]; exact Nat.le_refl _), rowCs_len, Nat.sub_self]
  rfl
/-- the i-th of a row -/
def rowAt (line : Bool) (many i : Nat) : Str := cid (rowC line many ((rowCs line many i).map cid) i)
theorem ns_at (line : Bool) (many : Nat) {i j : Nat} (h : i < j) : ((rowCs line many j).map cid)[i]? = some (rowAt line many i) := by
  rw [List.getElem?_map, row_at line many h]
  rfl
def rowG (line : Bool) (many : Nat) : Gr := grOf (rowCs line many many)
theorem rowG_len (line : Bool) (many : Nat) : (rowG line many).ns.length = many := by
  show ((rowCs line many many).map cid).length = many
  rw [List.length_map, rowCs_len]
theorem rowG_get {line : Bool} {many i : Nat} {x : Str} (h : (rowG line many).ns[i]? = some x) : i < many ∧ x = rowAt line many i := by
  have lt : i < many := by
    have := (List.getElem?_eq_some_iff.mp h).1
    rw [rowG_len] at this
    exact this
  exact ⟨lt, (Option.some.inj ((ns_at line many lt).symm.trans h)).symm⟩
theorem rowG_par {line : Bool} {many i : Nat} (o : RowOk line many) (h : i < many) : (rowG line many).par (rowAt line many i) = (rowC line many ((rowCs line many i).map cid) i).ps :=
  grOf_par (row_made o many (Nat.le_refl _)) (List.mem_of_getElem? (row_at line many h))
theorem rowG_ok {line : Bool} {many : Nat} (o : RowOk line many) : (rowG line many).Ok := (row_made o many (Nat.le_refl _)).ok (by rw [rowCs_len]; have := o.2.1; omega)
theorem rowG_mem {line : Bool} {many : Nat} {x : Str} (h : x ∈ (rowG line many).ns) : ∃ i, i < many ∧ x = rowAt line many i := by
  obtain ⟨i, hi⟩ := List.getElem?_of_mem h
  exact ⟨i, rowG_get hi⟩
theorem rowAt_inj {line : Bool} {many i j : Nat} (o : RowOk line many) (hi : i < many) (hj : j < many) (e : rowAt line many i = rowAt line many j) : i = j := by
  have z := (List.getElem?_inj (i := i) (j := j) (by rw [rowG_len]; exact hi) (rowG_ok o).nd).mp
  refine z ?_
  show ((rowCs line many many).map cid)[i]? = ((rowCs line many many).map cid)[j]?
  rw [ns_at line many hi, ns_at line many hj, e]
/-! #### the line -/
theorem line_par {many i : Nat} (o : RowOk true many) (h : i < many) : (rowG true many).par (rowAt true many i) = match i with | 0 => [] | i + 1 => [rowAt true many i] := by
  rw [rowG_par o h]
  cases i with
  | zero => rfl
  | succ i =>
    show ((rowCs true many i ++ [_]).map cid).drop (((rowCs true many i ++ [_]).map cid).length - 1) = _
    rw [List.map_append, List.length_append, List.length_map, rowCs_len]
    show ((rowCs true many i).map cid ++ [rowAt true many i]).drop i = [rowAt true many i]
    rw [List.drop_append_of_le_length (by rw [List.length_map, rowCs_len]; exact Nat.le_refl _), List.drop_of_length_le (by rw [List.length_map, rowCs_len]; exact Nat.le_refl _)]
    rfl
theorem line_reach {many : Nat} (o : RowOk true many) {x y : Str} (h : Reach (rowG true many) x y) : ∀ i, i < many → x = rowAt true many i → ∃ j, j ≤ i ∧ y = rowAt true many j := by
  induction h with
  | refl n => exact fun i hi e => ⟨i, Nat.le_refl _, e⟩
  | @step n p y hp _ ih =>
    intro i hi e
    rw [e, line_par o hi] at hp
    cases i with
    | zero => cases hp
    | succ i =>
      obtain ⟨j, hj, ej⟩ := ih i (by omega) (List.mem_singleton.mp hp)
      exact ⟨j, by omega, ej⟩
theorem line_back {many : Nat} (o : RowOk true many) {j : Nat} : ∀ i, i < many → j ≤ i → Reach (rowG true many) (rowAt true many i) (rowAt true many j)
  | 0, _, h => by
    obtain rfl : j = 0 := by omega
    exact .refl _
  | i + 1, hi, h => by
    by_cases e : j = i + 1
    · subst e
      exact .refl _
    · exact .step (by rw [line_par o hi]; exact List.mem_singleton.mpr rfl) (line_back o i (by omega) (by omega))
theorem line_rb {many i j : Nat} (o : RowOk true many) (hi : i < many) (hj : j < many) : RB (rowG true many) (rowAt true many i) (rowAt true many j) = decide (j ≤ i) := by
  by_cases h : j ≤ i
  · rw [decide_eq_true h]
    exact rb_iff.mpr (line_back o i hi h)
  · rw [decide_eq_false h]
    cases e : RB (rowG true many) (rowAt true many i) (rowAt true many j) with
    | false => rfl
    | true =>
      obtain ⟨k, hk, ek⟩ := line_reach o (rb_iff.mp e) i hi rfl
      have := rowAt_inj o hj (by omega) ek
      omega
/-! #### the roots -/
theorem reach_one {g : Gr} {x y : Str} (h : Reach g x y) : x = y ∨ ∃ p, p ∈ g.par x ∧ Reach g p y := by
  cases h with
  | refl => exact .inl rfl
  | step hp r => exact .inr ⟨_, hp, r⟩
theorem roots_par {many i : Nat} (o : RowOk false many) (h : i < many) : (rowG false many).par (rowAt false many i) = if i + 1 = many then (rowCs false many i).map cid else [] := by
  rw [rowG_par o h]
  rfl
theorem roots_rb {many i j : Nat} (o : RowOk false many) (hi : i < many) (hj : j < many) : RB (rowG false many) (rowAt false many i) (rowAt false many j) = (decide (rowAt false many i = rowAt false many j) || decide (rowAt false many i = rowAt false many (many - 1))) := by
  by_cases h : i + 1 = many
  · obtain rfl : i = many - 1 := by omega
    simp only [decide_true, Bool.or_true]
    refine rb_iff.mpr ?_
    by_cases e : j = many - 1
    · rw [e]
      exact .refl _
    · refine .step ?_ (.refl _)
      rw [roots_par o hi, if_pos h]
      exact List.mem_of_getElem? (ns_at false many (show j < many - 1 by omega))
  · have n1 : ¬ rowAt false many i = rowAt false many (many - 1) := fun e => by
      have := rowAt_inj o hi (by omega) e
      omega
    simp only [n1, decide_false, Bool.or_false]
    by_cases e : rowAt false many i = rowAt false many j
    · rw [← e, decide_eq_true rfl]
      exact rb_refl _ _
    · rw [decide_eq_false e]
      cases q : RB (rowG false many) (rowAt false many i) (rowAt false many j) with
      | false => rfl
      | true =>
        rcases reach_one (rb_iff.mp q) with z | ⟨p, hp, _⟩
        · exact absurd z e
        · rw [roots_par o hi, if_neg h] at hp
          cases hp
end K65

set_option maxHeartbeats 200000
/-! K65Law3: the law's row. -/
namespace K65
open PySem L2
theorem cut_last (xs : List V) : cutV xs (some (-1)) none = xs.drop (xs.length - 1) := by
  unfold cutV
  have e : HT.sIx xs.length 0 (some (-1)) = xs.length - 1 := by
    show (if (-1 : Int) < 0 then ((-1 : Int) + (xs.length : Int)).toNat else min (-1 : Int).toNat xs.length) = _
    rw [if_pos (by decide)]
    omega
  rw [e]
  show (xs.drop _).take (xs.length - _) = _
  exact List.take_of_length_le (by rw [List.length_drop]; exact Nat.le_refl _)
theorem made_same {C x dx : Addr} {H H' : Hp} (hx : H x = none) (hdx : H dx = none) (b : ∀ c o, upd (upd H dx (.own x)) x (.ins C dx []) c = some o → c ≠ x → H' c = some o) : Same H H' := fun c o e =>
  b c o (by rw [upd_ne (ne_of_none e hx), upd_ne (ne_of_none e hdx)]; exact e) (ne_of_none e hx)
section
variable {P : Program} {w : World} {K : PySem.W.Frag} {mg : Str → Option Value} {base : Heap}
theorem StAt.lo {T : W K mg} {H H' : Hp} {kd l : Addr} {cs : List Cm} {u : HO} (x : StAt T H kd cs) (hl : H l = some u) (lo : Loose u) (b : But l H H') : StAt T H' kd cs :=
  let ⟨kvs, a, n, f, d⟩ := x
  ⟨kvs, b _ _ a (ne_of a hl (loose_dK lo)), n, f, fun q hq => let ⟨e, f, g⟩ := d q hq; ⟨e, f, lo_commit hl lo b g⟩⟩
theorem StoreAt.lo {T : W K mg} {H H' : Hp} {a kd l : Addr} {u : HO} (x : StoreAt T H a kd) (hl : H l = some u) (lo : Loose u) (b : But l H H') : StoreAt T H' a kd := let ⟨dx, h⟩ := x; ⟨dx, b _ _ h (ne_of h hl (loose_ins lo))⟩
theorem made_up {x dx : Addr} {H : Hp} {o1 o2 : HO} (hx : H x = none) (hdx : H dx = none) : Same H (upd (upd H dx o1) x o2) := fun c o e => by
  rw [upd_ne (ne_of_none e hx), upd_ne (ne_of_none e hdx)]
  exact e
theorem but_upd {l : Addr} {H : Hp} {u : HO} : But l H (upd H l u) := fun b o e n => by
  rw [upd_ne n]
  exact e
def spRow (T : W K mg) : Sp := fun vs H Q _ => ∃ (st kd : Addr) (many : Nat) (line : Bool), vs = [.ref st, .int many, .bl line] ∧ StoreAt T H st kd ∧ H kd = some (.dK []) ∧ RowOk line many ∧
  ∀ (H' : Hp) (t : Addr), But kd H H' → FrzT H' t ((rowG line many).ns.map V.str) → StoreAt T H' st kd → StAt T H' kd (rowCs line many many) → Q (.ref t) H'
theorem sc_row : FnScope ["_law_store", "_law_many", "_law_is_line", "_law_tree", "_law_names", "_law_at", "_law_parents"] ["_law_store", "_law_many", "_law_is_line"] (defScope s_L_row) := ⟨rfl, rfl, rfl, by decide +kernel, rfl, by decide +kernel, by decide +kernel⟩
theorem ok_row (T : W K mg) : FnOk P w K mg base CX0 7 T.a_L_row T.d_L_row ["_law_store", "_law_many", "_law_is_line"] (spRow T) := by
  have b0 := T.F_Store_put.binds (ps := ["self", "thing"]) fun _ _ _ _ _ _ us hl => match us, hl with | [_, _], _ => rfl
  have b1 := T.F_Tree_DinitD.binds (ps := ["self", "entries"]) fun _ _ _ _ _ _ us hl => match us, hl with | [_, _], _ => rfl
  obtain ⟨its, mv, b2⟩ := T.F_Commit_DinitD.kbinds (ps := ["self", "tree", "parents", "author", "time", "message"]) 3 ["author", "time", "message"] [] (fun us _ _ ws => us ++ ws) (by simp) (by simp) (by simp) (fun r _ _ z => r.append z)
    fun _ _ _ _ _ _ _ us its mv ws h1 h2 h3 h4 => match us, its, mv, ws, h1, h2, h3, h4 with | [_, _, _], [_], [], [_, _, _], _, _, _, _ => ⟨_, rfl, rfl⟩
  refine T.F_L_row.ok sc_row (fun vs H Q E h => ?_) (fun cdv A0 outer s H vs Q E hr h => ?_)
  · obtain ⟨st, kd, many, line, rfl, _⟩ := h
    rfl
  · obtain ⟨st, kd, many, line, rfl, hst, hkd, o, k⟩ := h
    have nd := sc_row.nd
    refine ⟨_, pss_cons (ps_set (i := 3) nd rfl (Or.inl rfl) (pe_meth (pv 0) T.clStore T.m_Store_put (ok_put T) hr b0 .nil pass0 (pa_cons (pe_make T.k_Tree (ok_tinit T) (hr.mono (by decide)) rfl T.gCTree b1 .nil pass0 (pa_cons pe_dnewK pa_nil)) pa_nil)))
      (pss_cons (ps_set (i := 4) nd rfl (Or.inl rfl) (pe_lst pa_nil))
      (pss_cons (ps_for PassesOwn.never rfl (pi_range1 (by rfl) T.z_range (pa_cons (pv 1) pa_nil)) (pg_name (i := 5) nd rfl (Or.inl rfl))
        (pss_cons (ps_set (i := 6) nd rfl (Or.inl rfl) (pe_ifExp (pt_val (pv 2)) (pe_callTy call_tuple_of (by rfl) T.z_tuple (by decide +kernel) (pa_cons (pe_slice sl_list (pv 4) (po_some (pe_un un_neg pe_int)) po_none) pa_nil)) (pe_tup pa_nil)))
        (pss_cons (ps_if (PW.pt (pw_and (pt_not (pt_val (pv 2))) (pw_and1 (pt_cmpR op_eq (pv 5) (pe_op op_sub (pv 1) pe_int) (nomark _)))))
          (pss_one (ps_set (i := 6) nd rfl (Or.inl rfl) (pe_callTy call_tuple_of (by rfl) T.z_tuple (by decide +kernel) (pa_cons (pv 4) pa_nil)))) pss_nil)
        (pss_one (ps_expr (pe_bm PySem.F.plainAttrs_list PySem.F.slot_list_append PySem.F.type_list_append mt_append (pv 4) (pa_cons
          (pe_meth (pv 0) T.clStore T.m_Store_put (ok_put T) hr b0 .nil pass0 (pa_cons (pe_makeN T.k_Commit (ok_cinit T) (hr.mono (by decide)) rfl T.gCCommit b2 pass0 (pa_cons (pv 3) (pa_cons (pv 6) pa_nil))
            (pk_cons pe_str (pk_cons pe_int (pk_cons (pe_callTy call_str_int (by rfl) T.z_str (by decide +kernel) (pa_cons (pv 5) pa_nil)) pk_nil)))) pa_nil)) pa_nil)))))))
      (pss_one (ps_ret (pe_callTy call_tupleF (by rfl) T.z_tuple (by decide +kernel) (pa_cons (pv 4) pa_nil)))))), ?_⟩
    obtain ⟨dst, hst0⟩ := id hst
    refine ⟨_, rfl, st, dst, _, rfl, hst0, rfl, fun d hd x dx hx hdx hne => ⟨x, dx, d, rfl, upd_same, ?_, fun H2 ht bt => ⟨rfl, ?_⟩⟩⟩
    · rw [upd_ne (ne_of_none upd_same hx), upd_ne (ne_of_none upd_same hdx), upd_same]
    have s1 : Same H H2 := (same_new hd).trans (made_same hx hdx bt)
    refine put_tree (hst.same s1) (s1 _ _ hkd) ht fun H3 bt3 st3 sa3 => ?_
    have bt03 : But kd H H3 := (Same.but s1).trans bt3
    refine ⟨(by show 0 ≤ sizeLine; decide), fun nl hnl => ?_⟩
    have s4 : Same H3 (upd H3 nl (.lst [])) := same_new hnl
    have low : many ≤ 12 := o.2.1
    refine ⟨_, rfl, (many : Nat), rfl, by omega, by omega, ?_⟩
    refine for_range (fun i σ H' => i ≤ many ∧ (∃ oa op, σ = [some (.ref st), some (.int many), some (.bl line), some (.str tid), some (.ref nl), oa, op]) ∧ But kd H H' ∧ StoreAt T H' st kd ∧ StAt T H' kd (rowCs line many i) ∧ H' nl = some (.lst (((rowCs line many i).map cid).map V.str)))
      ⟨Nat.zero_le _, ⟨_, _, rfl⟩, bt03.trans (Same.but s4), st3.same s4, sa3.same s4, upd_same⟩ ?_ ?_
    · rintro i σ H5 lt ⟨_, ⟨oa, op, rfl⟩, bt5, st5, sa5, nl5⟩
      have lti : i < many := lt
      have mi := row_made o (i + 1) lti
      have names_len : ((rowCs line many i).map cid).length = i := by rw [List.length_map, rowCs_len]
      rw [show (0 : Int) + ((i : Nat) : Int) = ((i : Nat) : Int) from Int.zero_add _]
      obtain ⟨kvs5, hk5, _⟩ := id sa5
      have nlk : nl ≠ kd := ne_of nl5 hk5 (by intro z; cases z)
      have ids : ∀ n ∈ (rowCs line many i).map cid, IsId n := fun n hn => by
        obtain ⟨c, hc, rfl⟩ := List.mem_map.mp hn
        exact oid_asc _
      have okc := mi.pre.2.1
      refine ⟨_, rfl, line, rfl, ?_⟩
      cases line with
      | true =>
        refine iteT ⟨_, rfl, _, rfl, _, rfl, nl, _, rfl, SqL.of nl5, fun l hl => ⟨l, _, rfl, .inl ⟨SqL.of upd_same, fun pt hpt => ?_⟩⟩⟩
        rw [cut_last, List.length_map, ← List.map_drop] at hpt ⊢
        have s6 := (same_new hl).trans (same_new (o := .tup ((((rowCs true many i).map cid).drop (((rowCs true many i).map cid).length - 1)).map V.str)) hpt)
        have hp6 : SqT K (upd (upd H5 l (.lst ((((rowCs true many i).map cid).drop (((rowCs true many i).map cid).length - 1)).map V.str))) pt (.tup ((((rowCs true many i).map cid).drop (((rowCs true many i).map cid).length - 1)).map V.str))) pt ((rowC true many ((rowCs true many i).map cid) i).ps.map V.str) := .inl (.inl upd_same)
        generalize upd (upd H5 l (.lst ((((rowCs true many i).map cid).drop (((rowCs true many i).map cid).length - 1)).map V.str))) pt (.tup ((((rowCs true many i).map cid).drop (((rowCs true many i).map cid).length - 1)).map V.str)) = H6 at s6 hp6 ⊢
        refine ⟨_, rfl, true, rfl, iteF (iteF ?_)⟩
        have nl6 := s6 _ _ nl5
        have st6 := st5.same s6
        have sa6 := sa5.same s6
        obtain ⟨dst6, hst6⟩ := id st6
        refine ⟨_, rfl, .inl ⟨rfl, _, SqL.of nl6⟩, _, rfl, st, dst6, _, rfl, hst6, rfl, _, rfl, _, rfl, _, rfl, _, rfl, ?_, rfl, rfl, fun x dx hx hdx hne => ?_⟩
        · rw [Int.natAbs_natCast]
          exact Nat.lt_of_le_of_lt (Nat.log2_le_self _) (by omega)
        refine ⟨x, dx, pt, rowC true many ((rowCs true many i).map cid) i, rfl, upd_same, sqt_same (made_up hx hdx) hp6, okc, fun H7 hc7 bt7 => ⟨rfl, ?_⟩⟩
        have s7 : Same H6 H7 := made_same hx hdx bt7
        refine put_ok (st6.same s7) (sa6.same s7) hc7 mi (by rw [rowCs_len]; omega) fun H8 bt8 st8 sa8 => ?_
        have nl8 := bt8 _ _ (s7 _ _ nl6) nlk
        refine ⟨nl, _, _, rfl, rfl, nl8, ?_, lti, ⟨_, _, rfl⟩, fun b u e n => ?_, st8.lo nl8 True.intro but_upd, sa8.lo nl8 True.intro but_upd, ?_⟩
        · rw [List.length_map, names_len]
          exact Nat.lt_of_le_of_lt (show i ≤ 12 by omega) (by decide)
        · rw [upd_ne (ne_of_none (bt03 _ _ e n) hnl)]
          exact bt8 _ _ (s7 _ _ (s6 _ _ (bt5 _ _ e n))) n
        · rw [upd_same]
          show _ = some (HO.lst (((rowCs true many i ++ [rowC true many ((rowCs true many i).map cid) i]).map cid).map V.str))
          rw [List.map_append, List.map_append]
          rfl
      | false =>
        refine iteF ⟨(by show 0 ≤ sizeLine; decide), fun p0 hp0 => ⟨_, rfl, false, rfl, iteT ⟨_, rfl, _, rfl, _, _, rfl, rfl, rfl, _, rfl, ?_⟩⟩⟩
        have s5 := same_new (o := .tup []) hp0
        by_cases hm : i + 1 = many
        · rw [show decide (V.int (i : Nat) = V.int ((many : Nat) - 1)) = true from decide_eq_true (by rw [← hm]; congr 1; omega)]
          refine iteT ⟨_, rfl, nl, _, rfl, .inl ⟨SqL.of (s5 _ _ nl5), fun pt hpt => ?_⟩⟩
          have s6 := s5.trans (same_new (o := .tup (((rowCs false many i).map cid).map V.str)) hpt)
          have hp6 : SqT K (upd (upd H5 p0 (.tup [])) pt (.tup (((rowCs false many i).map cid).map V.str))) pt ((rowC false many ((rowCs false many i).map cid) i).ps.map V.str) := .inl (.inl (by rw [upd_same]; show _ = some (HO.tup (List.map V.str (if i + 1 = many then _ else _))); rw [if_pos hm]))
          generalize upd (upd H5 p0 (.tup [])) pt (.tup (((rowCs false many i).map cid).map V.str)) = H6 at s6 hp6 ⊢
          have nl6 := s6 _ _ nl5
          have st6 := st5.same s6
          have sa6 := sa5.same s6
          obtain ⟨dst6, hst6⟩ := id st6
          refine ⟨_, rfl, .inl ⟨rfl, _, SqL.of nl6⟩, _, rfl, st, dst6, _, rfl, hst6, rfl, _, rfl, _, rfl, _, rfl, _, rfl, ?_, rfl, rfl, fun x dx hx hdx hne => ?_⟩
          · rw [Int.natAbs_natCast]
            exact Nat.lt_of_le_of_lt (Nat.log2_le_self _) (by omega)
          refine ⟨x, dx, pt, rowC false many ((rowCs false many i).map cid) i, rfl, upd_same, sqt_same (made_up hx hdx) hp6, okc, fun H7 hc7 bt7 => ⟨rfl, ?_⟩⟩
          have s7 : Same H6 H7 := made_same hx hdx bt7
          refine put_ok (st6.same s7) (sa6.same s7) hc7 mi (by rw [rowCs_len]; omega) fun H8 bt8 st8 sa8 => ?_
          have nl8 := bt8 _ _ (s7 _ _ nl6) nlk
          refine ⟨nl, _, _, rfl, rfl, nl8, ?_, lti, ⟨_, _, rfl⟩, fun b u e n => ?_, st8.lo nl8 True.intro but_upd, sa8.lo nl8 True.intro but_upd, ?_⟩
          · rw [List.length_map, names_len]
            exact Nat.lt_of_le_of_lt (show i ≤ 12 by omega) (by decide)
          · rw [upd_ne (ne_of_none (bt03 _ _ e n) hnl)]
            exact bt8 _ _ (s7 _ _ (s6 _ _ (bt5 _ _ e n))) n
          · rw [upd_same]
            show _ = some (HO.lst (((rowCs false many i ++ [rowC false many ((rowCs false many i).map cid) i]).map cid).map V.str))
            rw [List.map_append, List.map_append]
            rfl
        · rw [show decide (V.int (i : Nat) = V.int ((many : Nat) - 1)) = false from decide_eq_false (fun z => hm (by injection z with z; omega))]
          refine iteF ?_
          have s6 := s5
          have hp6 : SqT K (upd H5 p0 (.tup [])) p0 ((rowC false many ((rowCs false many i).map cid) i).ps.map V.str) := .inl (.inl (by rw [upd_same]; show _ = some (HO.tup (List.map V.str (if i + 1 = many then _ else _))); rw [if_neg hm]; rfl))
          generalize upd H5 p0 (.tup []) = H6 at s6 hp6 ⊢
          have nl6 := s6 _ _ nl5
          have st6 := st5.same s6
          have sa6 := sa5.same s6
          obtain ⟨dst6, hst6⟩ := id st6
          refine ⟨_, rfl, .inl ⟨rfl, _, SqL.of nl6⟩, _, rfl, st, dst6, _, rfl, hst6, rfl, _, rfl, _, rfl, _, rfl, _, rfl, ?_, rfl, rfl, fun x dx hx hdx hne => ?_⟩
          · rw [Int.natAbs_natCast]
            exact Nat.lt_of_le_of_lt (Nat.log2_le_self _) (by omega)
          refine ⟨x, dx, p0, rowC false many ((rowCs false many i).map cid) i, rfl, upd_same, sqt_same (made_up hx hdx) hp6, okc, fun H7 hc7 bt7 => ⟨rfl, ?_⟩⟩
          have s7 : Same H6 H7 := made_same hx hdx bt7
          refine put_ok (st6.same s7) (sa6.same s7) hc7 mi (by rw [rowCs_len]; omega) fun H8 bt8 st8 sa8 => ?_
          have nl8 := bt8 _ _ (s7 _ _ nl6) nlk
          refine ⟨nl, _, _, rfl, rfl, nl8, ?_, lti, ⟨_, _, rfl⟩, fun b u e n => ?_, st8.lo nl8 True.intro but_upd, sa8.lo nl8 True.intro but_upd, ?_⟩
          · rw [List.length_map, names_len]
            exact Nat.lt_of_le_of_lt (show i ≤ 12 by omega) (by decide)
          · rw [upd_ne (ne_of_none (bt03 _ _ e n) hnl)]
            exact bt8 _ _ (s7 _ _ (s6 _ _ (bt5 _ _ e n))) n
          · rw [upd_same]
            show _ = some (HO.lst (((rowCs false many i ++ [rowC false many ((rowCs false many i).map cid) i]).map cid).map V.str))
            rw [List.map_append, List.map_append]
            rfl
    · rintro σ H5 ⟨_, ⟨oa, op, rfl⟩, bt5, st5, sa5, nl5⟩
      rw [Int.toNat_natCast] at sa5 nl5
      refine ⟨_, rfl, nl, _, rfl, SqL.of nl5, fun t ob ht hc hd => ?_⟩
      have s6 := same_new (o := .frz ob (.tup (((rowCs line many many).map cid).map V.str))) ht
      exact k _ t (bt5.trans (Same.but s6)) ⟨ob, upd_same, hc, hd⟩ (st5.same s6) (sa5.same s6)
end
end K65

set_option maxHeartbeats 200000
/-! K65Ready: a history over a row. -/
namespace K65
open PySem L2
theorem none_up {x dx y : Addr} {H : Hp} {o1 o2 : HO} (h : upd (upd H dx o1) x o2 y = none) : H y = none := by
  by_cases e : y = x
  · rw [e, upd_same] at h
    cases h
  · rw [upd_ne e] at h
    by_cases e2 : y = dx
    · rw [e2, upd_same] at h
      cases h
    · rwa [upd_ne e2] at h
theorem SrcAt.same {H H' : Hp} {s : Addr} (x : SrcAt H s) (e : Same H H') : SrcAt H' s := let ⟨a, b, c, z⟩ := x; ⟨a, b, c, e _ _ z⟩
theorem SrcAt.but {H H' : Hp} {s k : Addr} (x : SrcAt H s) (e : But k H H') (n : s ≠ k) : SrcAt H' s := let ⟨a, b, c, z⟩ := x; ⟨a, b, c, e _ _ z n⟩
theorem SrcAt.ne {H : Hp} {s k : Addr} (x : SrcAt H s) (h : H k = none) : s ≠ k := let ⟨_, _, _, z⟩ := x; ne_of_none z h
theorem but_step {s k : Addr} {H H1 H2 : Hp} (b : But s H H1) (c : But k H1 H2) (h : H k = none) : But s H H2 := fun x o e n => c x o (b x o e n) (ne_of_none e h)
theorem but_none {s k : Addr} {H H1 : Hp} (b : But s H H1) (z : SrcAt H1 s) (h : H1 k = none) : H k = none := by
  cases e : H k with
  | none => rfl
  | some o =>
    have n : k ≠ s := (z.ne h).symm
    rw [b _ _ e n] at h
    cases h
theorem FrzT.but {H H' : Hp} {p k : Addr} {ys : List V} (x : FrzT H p ys) (b : But k H H') {kvs : List (Key × V)} (hk : H k = some (.dK kvs)) : FrzT H' p ys := let ⟨ob, e, c, d⟩ := x; ⟨ob, b _ _ e (ne_of e hk (by intro z; cases z)), c, d⟩
theorem FrzT.same {H H' : Hp} {p : Addr} {ys : List V} (x : FrzT H p ys) (s : Same H H') : FrzT H' p ys := let ⟨ob, e, c, d⟩ := x; ⟨ob, s _ _ e, c, d⟩
section
variable {P : Program} {w : World} {K : PySem.W.Frag} {mg : Str → Option Value} {base : Heap}
/-- a history over a row, and the row's names -/
structure Ready (T : W K mg) (H0 H : Hp) (src : Addr) (g : Gr) (ha sa kd kn t : Addr) : Prop where
  ask : AskIn T true H g ha sa kd T.t_History_DinitD_cut kn t [] g.ns
  fz : FrzT H t (g.ns.map V.str)
  bs : But src H0 H
  so : SrcAt H src
  nk : H0 kn = none
theorem Ready.same {T : W K mg} {H0 H H' : Hp} {src ha sa kd kn t : Addr} {g : Gr} (x : Ready T H0 H src g ha sa kd kn t) (s : Same H H') : Ready T H0 H' src g ha sa kd kn t :=
  ⟨⟨x.ask.hist.same s, x.ask.ok, x.ask.kw.same s, x.ask.ne, sqt_same s x.ask.at_, x.ask.one, x.ask.few, x.ask.nd, x.ask.sub⟩, x.fz.same s, fun b o e n => s _ _ (x.bs b o e n), x.so.same s, x.nk⟩
theorem ready {T : W K mg} {H0 H2 H3 H4 : Hp} {src sa kd ha dxh kn dd t : Addr} {line : Bool} {many : Nat} (o : RowOk line many) (b2 : But src H0 H2) (z2 : SrcAt H2 src) (nkd : H0 kd = none) (hkd2 : H2 kd = some (.dK [])) (hha : H2 ha = none) (hdx : H2 dxh = none)
    (hkn : upd (upd H2 dxh (.own ha)) ha (.ins T.CHistory dxh []) kn = none) (hi3 : H3 ha = some (.ins T.CHistory dxh [("held", .ref sa), ("ends", .ref T.t_History_DinitD_cut), ("known", .ref kn), ("depths", .ref dd)])) (hk3 : H3 kn = some (.dK []))
    (s3 : Same H2 H3) (bt4 : But kd H3 H4) (fz4 : FrzT H4 t ((rowG line many).ns.map V.str)) (st4 : StoreAt T H4 sa kd) (sa4 : StAt T H4 kd (rowCs line many many)) : Ready T H0 H4 src (rowG line many) ha sa kd kn t := by
  have kn2 : H2 kn = none := none_up hkn
  have ne : kd ≠ kn := ne_of_none hkd2 kn2
  have hi4 := bt4 _ _ hi3 (ne_of hi3 (s3 _ _ hkd2) (by intro z; cases z))
  have hk4 := bt4 _ _ hk3 ne.symm
  refine ⟨⟨hist_of (row_made o many (Nat.le_refl _)) hi4 st4 (sqt_same (fun b o e => by cases e) T.ht_History_DinitD_cut) sa4, rowG_ok o, ⟨hk4, .nil, (fun _ h => by cases h), fun _ h => by cases h⟩, ne, fz4.seq, by rw [rowG_len]; exact o.1, by rw [rowG_len]; exact o.2.1, (rowG_ok o).nd, fun n hn => hn⟩, fz4,
    but_step (fun b u e n => s3 _ _ (b2 b u e n)) bt4 nkd, (z2.same s3).but bt4 (ne_of_src z2 hkd2), but_none b2 z2 kn2⟩
where
  ne_of_src {H2 : Hp} {src kd : Addr} (z : SrcAt H2 src) (h : H2 kd = some (.dK [])) : src ≠ kd := let ⟨_, _, _, e⟩ := z; ne_of e h (by intro q; cases q)
theorem row_perm {line : Bool} {many : Nat} {S : List Str} (pm : S.Perm (rowG line many).ns) : S.length = many := by rw [pm.length_eq, rowG_len]
theorem line_chain {many : Nat} {S : List Str} (o : RowOk true many) (nd : S.Nodup) (sub : ∀ x ∈ S, x ∈ (rowG true many).ns) : Chain (RB (rowG true many)) (fun x => (rowG true many).ns.idxOf x) S := by
  have idx : ∀ i, i < many → (rowG true many).ns.idxOf (rowAt true many i) = i := fun i hi => by
    have hm : rowAt true many i ∈ (rowG true many).ns := List.mem_of_getElem? (ns_at true many hi)
    have lt := List.idxOf_lt_length_of_mem hm
    have g1 : (rowG true many).ns[(rowG true many).ns.idxOf (rowAt true many i)]? = some (rowAt true many i) := by
      rw [List.getElem?_eq_getElem lt, List.getElem_idxOf]
    obtain ⟨l2, e2⟩ := rowG_get g1
    exact (rowAt_inj o hi l2 e2).symm
  refine ⟨nd, fun x y hx hy => ?_, fun x y hx hy e => ?_⟩
  all_goals obtain ⟨i, hi, rfl⟩ := rowG_mem (sub x hx)
  all_goals obtain ⟨j, hj, rfl⟩ := rowG_mem (sub y hy)
  · show _ = decide ((rowG true many).ns.idxOf _ ≤ (rowG true many).ns.idxOf _)
    rw [idx i hi, idx j hj, line_rb o hi hj]
  · replace e : (rowG true many).ns.idxOf _ = (rowG true many).ns.idxOf _ := e
    rw [idx i hi, idx j hj] at e
    rw [e]
theorem line_line {many : Nat} (o : RowOk true many) : Line (rowG true many) := fun i j x y hx hy => by
  obtain ⟨hi, rfl⟩ := rowG_get hx
  obtain ⟨hj, rfl⟩ := rowG_get hy
  exact line_rb o hi hj
theorem roots_len {many d : Nat} {S : List Str} (o : RowOk false many) (pm : S.Perm (rowG false many).ns) (mn : IsMin (RB (rowG false many)) S d) : d + 1 = many := by
  have nd := pm.nodup_iff.mpr (rowG_ok o).nd
  have z := roots_min (h := rowAt false many (many - 1)) nd (fun x y hx hy => ?_) mn
  · rw [z, row_perm pm]
  · obtain ⟨i, hi, rfl⟩ := rowG_mem (pm.mem_iff.mp hx)
    obtain ⟨j, hj, rfl⟩ := rowG_mem (pm.mem_iff.mp hy)
    exact roots_rb o hi hj
theorem inV_ints (ns : List Int) : inV .non (ns.map V.int) = false := by
  unfold inV
  rw [List.any_map]
  exact List.any_eq_false.mpr fun x _ => by show ¬ (false = true); decide
theorem flat_ints (ns : List Int) : (ns.map V.int).all flatV = true := by
  rw [List.all_map]
  exact List.all_eq_true.mpr fun _ _ => rfl
end
end K65

set_option maxHeartbeats 200000
/-! K65Law4: the law's lines and roots. -/
namespace K65
open PySem L2
section
variable {P : Program} {w : World} {K : PySem.W.Frag} {mg : Str → Option Value} {base : Heap}
def spLineRight : Sp := fun vs H Q _ => ∃ s : Addr, vs = [.ref s] ∧ SrcAt H s ∧ ∀ H', But s H H' → SrcAt H' s → Q (.bl true) H'
theorem sc_line : FnScope ["_law_source", "_law_store", "_law_many", "_law_history_here", "_law_names", "_law_tests_here", "_law_at"] ["_law_source"] (defScope s_L_line_right) := ⟨rfl, rfl, rfl, by decide +kernel, rfl, by decide +kernel, by decide +kernel⟩
theorem ok_line (T : W K mg) : FnOk P w K mg base CX0 21 T.a_L_line_right T.d_L_line_right ["_law_source"] spLineRight := by
  obtain ⟨dS, vS, bS⟩ := T.F_Store_DinitD.binds0 (ps := ["self", "short"]) 1 (by simp) rfl fun D doc pm an cdv ct us ks h1 h2 => match us, ks, h1, h2 with | [_], [_], _, _ => ⟨_, _, _, _, _, _, rfl, rfl, rfl⟩
  obtain ⟨dH, vH, bH⟩ := T.F_History_DinitD.binds0 (ps := ["self", "store", "cut"]) 2 (by simp) rfl fun D doc pm an cdv ct us ks h1 h2 => match us, ks, h1, h2 with | [_, _], [_], _, _ => ⟨_, _, _, _, _, _, rfl, rfl, rfl⟩
  have b0 := T.F_L_draw.binds (ps := ["_law_source", "_law_size"]) fun _ _ _ _ _ _ us hl => match us, hl with | [_, _], _ => rfl
  have b1 := T.F_L_row.binds (ps := ["_law_store", "_law_many", "_law_is_line"]) fun _ _ _ _ _ _ us hl => match us, hl with | [_, _, _], _ => rfl
  have b2 := T.F_best.binds (ps := ["history", "names"]) fun _ _ _ _ _ _ us hl => match us, hl with | [_, _], _ => rfl
  have b3 := T.F_bounds.binds (ps := ["history", "names"]) fun _ _ _ _ _ _ us hl => match us, hl with | [_, _], _ => rfl
  have b4 := T.F_shows_best.binds (ps := ["history", "names", "depth", "bounds"]) fun _ _ _ _ _ _ us hl => match us, hl with | [_, _, _, _], _ => rfl
  have b5 := T.F_L_halvings.binds (ps := ["_law_many"]) fun _ _ _ _ _ _ us hl => match us, hl with | [_], _ => rfl
  have b6 := T.F_L_led_by_next.binds (ps := ["_law_history_here", "_law_names", "_law_fault", "_law_at"]) fun _ _ _ _ _ _ us hl => match us, hl with | [_, _, _, _], _ => rfl
  refine T.F_L_line_right.ok sc_line (fun vs H Q E h => ?_) (fun cdv A0 outer s H vs Q E hr h => ?_)
  · obtain ⟨s, rfl, _⟩ := h
    rfl
  · obtain ⟨src, rfl, hsrc, k⟩ := h
    have nd := sc_line.nd
    refine ⟨_, pss_cons (ps_par (i := 1) (j := 2) rfl nd rfl rfl (by decide) rfl rfl (pa_cons (pe_make0 T.k_Store (ok_sinit T) (hr.mono (by decide)) rfl T.gCStore bS vS pass0) (pa_cons (pe_op op_add pe_int (pe_call (ok_draw T) (hr.mono (by decide)) rfl T.g_L_draw T.F_L_draw.kp b0 .nil pass0 (pa_cons (pv 0) (pa_cons pe_int pa_nil)))) pa_nil)) (by rfl))
      (pss_cons (ps_asg (pe_tup (pa_cons (pe_make T.k_History (ok_hinit T) (hr.mono (by decide)) rfl T.gCHistory bH vH pass0 (pa_cons (pv 1) pa_nil)) (pa_cons (pe_call (ok_row T) (hr.mono (by decide)) rfl T.g_L_row T.F_L_row.kp b1 .nil pass0 (pa_cons (pv 1) (pa_cons (pv 2) (pa_cons pe_bl pa_nil)))) pa_nil)))
        (pg_tup rfl (pgs_cons (pg_name (i := 3) nd rfl (Or.inr rfl)) (pgs_cons (pg_name (i := 4) nd rfl (Or.inr rfl)) pgs_nil))))
      (pss_cons (ps_if (pt_cmpR op_ne (pe_ix ix_tup (pe_call (ok_best T) hr rfl T.g_best T.F_best.kp b2 .nil pass0 (pa_cons (pv 3) (pa_cons (pv 4) pa_nil))) pe_int fun _ _ => rfl) (pe_call (ok_halvings T) (hr.mono (by decide)) rfl T.g_L_halvings T.F_L_halvings.kp b5 .nil pass0 (pa_cons (pv 2) pa_nil)) (nomark _))
        (pss_one ps_never) pss_nil)
      (pss_cons (ps_setLc (i := 5) (own := [("_law_at", 6)]) (g := gName 6) (tt := tYes) (te := tCall (spLed T) [] E0 (tCons (tVar 3) (tCons (tVar 4) (tCons (tOp (rIxT K) (tVar 4) (tVar 6)) (tCons (tVar 6) tNil))))) rfl nd rfl rfl (sw_true rfl rfl rfl (by decide +kernel))
          (pi_range1 (by rfl) T.z_range (pa_cons (pv 2) pa_nil)) (blkOk_by (N := ["_law_source", "_law_store", "_law_many", "_law_history_here", "_law_names", "_law_tests_here", "_law_at"]) (sc := defScope s_L_line_right) (by decide +kernel))
          (fun _ _ _ _ _ => pg_name (i := 6) nd rfl (Or.inl rfl)) (fun _ _ _ _ _ => pts_nil)
          (fun _ _ _ _ _ => pe_call (ok_led T) (hr.mono (by decide)) rfl T.g_L_led_by_next T.F_L_led_by_next.kp b6 .nil pass0 (pa_cons (pv 3) (pa_cons (pv 4) (pa_cons (pe_ix ix_tup (pv 4) (pv 6) fun _ _ => rfl) (pa_cons (pv 6) pa_nil))))))
      (pss_cons (ps_if (PW.pt (pw_or (pt_cmpR op_in_seq pe_non (pv 5) rfl) (pw_or1 (pt_cmpR op_ne (pe_callB (cr_max rfl) (by rfl) T.z_max (by decide +kernel) (pa_cons (pv 5) pa_nil)) (pe_call (ok_halvings T) (hr.mono (by decide)) rfl T.g_L_halvings T.F_L_halvings.kp b5 .nil pass0 (pa_cons (pv 2) pa_nil)) (nomark _)))))
        (pss_one ps_never) pss_nil)
      (pss_cons (ps_par (i := 1) (j := 2) rfl nd rfl rfl (by decide) rfl rfl (pa_cons (pe_make0 T.k_Store (ok_sinit T) (hr.mono (by decide)) rfl T.gCStore bS vS pass0) (pa_cons (pe_op op_add pe_int (pe_call (ok_draw T) (hr.mono (by decide)) rfl T.g_L_draw T.F_L_draw.kp b0 .nil pass0 (pa_cons (pv 0) (pa_cons pe_int pa_nil)))) pa_nil)) (by rfl))
      (pss_cons (ps_asg (pe_tup (pa_cons (pe_make T.k_History (ok_hinit T) (hr.mono (by decide)) rfl T.gCHistory bH vH pass0 (pa_cons (pv 1) pa_nil)) (pa_cons (pe_call (ok_row T) (hr.mono (by decide)) rfl T.g_L_row T.F_L_row.kp b1 .nil pass0 (pa_cons (pv 1) (pa_cons (pv 2) (pa_cons pe_bl pa_nil)))) pa_nil)))
        (pg_tup rfl (pgs_cons (pg_name (i := 3) nd rfl (Or.inr rfl)) (pgs_cons (pg_name (i := 4) nd rfl (Or.inr rfl)) pgs_nil))))
      (pss_one (ps_ret (pe_and (pe_cmpR op_eq (pe_ix ix_tup (pe_call (ok_best T) hr rfl T.g_best T.F_best.kp b2 .nil pass0 (pa_cons (pv 3) (pa_cons (pv 4) pa_nil))) pe_int fun _ _ => rfl) (pe_op op_sub (pv 2) pe_int) (nomark _))
        (pe_one (pe_call (ok_shows T) (hr.mono (by decide)) rfl T.g_shows_best T.F_shows_best.kp b4 .nil pass0 (pa_cons (pv 3) (pa_cons (pv 4) (pa_cons (pe_op op_sub (pv 2) pe_int) (pa_cons (pe_call (ok_bounds T) hr rfl T.g_bounds T.F_bounds.kp b3 .nil pass0 (pa_cons (pv 3) (pa_cons (pv 4) pa_nil))) pa_nil))))))))))))))), ?_⟩
    -- the line: store, how many
    refine fun sa dxa hsa hdxa _ => ⟨sa, dxa, rfl, upd_same, fun H1 kd hkd st1 hk1 bt1 => ⟨rfl, _, rfl, src, 12, rfl, ?_, by decide, by decide, fun H2 d d0 d1 bt2 src2 => ⟨_, _, rfl, rfl, _, _, rfl, ?_⟩⟩⟩
    · exact hsrc.same (made_same hsa hdxa bt1)
    obtain ⟨n, rfl⟩ := Int.eq_ofNat_of_zero_le d0
    have s1 : Same H H1 := made_same hsa hdxa bt1
    have b2 : But src H H2 := fun b u e ne => bt2 _ _ (s1 _ _ e) ne
    have nkd : H kd = none := none_up hkd
    have src1 := hsrc.same s1
    have nk : src ≠ kd := hsrc.ne nkd
    have hk2 := bt2 _ _ hk1 nk.symm
    obtain ⟨dst, hst1⟩ := id st1
    have st2 : StoreAt T H2 sa kd := ⟨dst, bt2 _ _ hst1 (hsrc.ne hsa).symm⟩
    have o : RowOk true (1 + n) := ⟨by omega, by omega, fun e => by cases e⟩
    -- history, names
    refine ⟨_, rfl, fun ha dxh hha hdxh _ => ⟨ha, dxh, sa, _, rfl, upd_same, sqt_same (fun b o e => by cases e) T.ht_History_DinitD_cut, fun H3 kn dd hkn hi3 hk3 bt3 => ⟨rfl, _, rfl, _, rfl, sa, kd, 1 + n, true, rfl, ?_⟩⟩⟩
    have s3 : Same H2 H3 := made_same hha hdxh bt3
    refine ⟨st2.same s3, s3 _ _ hk2, o, fun H4 t bt4 fz4 st4 sa4 => ?_⟩
    have rd4 := ready o b2 src2 nkd hk2 hha hdxh hkn hi3 hk3 s3 bt4 fz4 st4 sa4
    refine ⟨(by show 2 ≤ sizeLine; decide), fun tp htp => ⟨tp, _, rfl, .inl (.inl upd_same), rfl, _, _, rfl, _, _, rfl, rfl, ?_⟩⟩
    have rd5 := rd4.same (same_new (o := .tup [.ref ha, .ref t]) htp)
    generalize upd H4 tp (.tup [.ref ha, .ref t]) = H5 at rd5 ⊢
    -- best(..)[0] != halvings(..)
    refine ⟨_, rfl, _, rfl, true, rowG true (1 + n), ha, sa, kd, _, kn, t, [], _, rfl, rd5.ask, fun H6 ks6 p v pl S bt6 past6 hp6 pv6 pm so plan mn => ⟨p, _, _, .int pl.depth, rfl, rfl, .inl (.inl hp6), atI_nat (j := 0) rfl, _, rfl, 1 + n, rfl, by omega, fun d2 lg H7 s7 => ⟨rfl, _, rfl, ?_⟩⟩⟩
    have ndS := pm.nodup_iff.mpr (rowG_ok o).nd
    have subS : ∀ x ∈ S, x ∈ (rowG true (1 + n)).ns := fun x hx => pm.mem_iff.mp hx
    have ch := line_chain o ndS subS
    have lenS := row_perm pm
    have e1 : pl.depth = d2 := by
      have z := chain_min ch mn
      rw [lenS] at z
      exact z.inj lg
    rw [e1, decide_eq_true rfl]
    refine iteF ?_
    have past7 := past6.same s7
    have fz7 : FrzT H7 t ((rowG true (1 + n)).ns.map V.str) := (rd5.fz.but bt6 rd5.ask.kw.at_).same s7
    have bs7 : But src H H7 := fun b u e ne => s7 _ _ (but_step rd5.bs bt6 rd5.nk b u e ne)
    have so7 : SrcAt H7 src := (rd5.so.but bt6 (hsrc.ne rd5.nk)).same s7
    obtain ⟨t0, led⟩ := led_some (rowG_ok o) S.length S (Nat.le_refl _) (by omega) ndS subS
    -- the tests led by next
    refine ⟨_, rfl, ((1 + n : Nat) : Int), rfl, by omega, by omega, fun D hD => lc_fmR (1 + n) (fun _ => true) (fun i => .int (walk (RB (rowG true (1 + n))) (rowAt true (1 + n) i) t0).1) (Nat.le_trans (show 1 + n ≤ 12 by omega) (by decide)) hD (fun i hi H' A C s8 hA _ => ?_) fun H8 s8 hd8 => ?_⟩
    · have lt := List.mem_range.mp hi
      have at_ : (rowG true (1 + n)).ns[i]? = some (rowAt true (1 + n) i) := ns_at true (1 + n) lt
      refine ⟨rfl, lcY ?_⟩
      have e0 : (0 : Int) + ((i : Nat) : Int) = ((i : Nat) : Int) := Int.zero_add _
      refine ⟨_, rfl, _, rfl, _, rfl, _, rfl, t, _, _, .str (rowAt true (1 + n) i), rfl, rfl, (fz7.same s8).seq, (by rw [e0]; exact atI_nat (j := i) (by rw [List.getElem?_map, at_]; rfl)), _, rfl, ?_⟩
      exact ⟨_, ⟨ha, sa, kd, _, kn, ks6⟩, t, S, t0, rowAt true (1 + n) i, i, (by show [V.ref ha, V.ref t, V.str (rowAt true (1 + n) i), V.int (0 + (i : Int))] = _; rw [e0]), past7.same s8, fz7.same s8, at_, line_line o, ndS, so, fun x => pm.mem_iff, led, fun H9 s9 => hA rfl _ s9⟩
    rw [flt] at hd8
    have hl8 : SqL K H8 D (((List.range (1 + n)).map fun i => ((walk (RB (rowG true (1 + n))) (rowAt true (1 + n) i) t0).1 : Int)).map V.int) := SqL.of (by rw [hd8, List.map_map]; rfl)
    refine ⟨_, rfl, D, _, rfl, .inl hl8, rfl, flat_ints _, false, ?_, iteF ?_⟩
    · show V.bl (if false = true then _ else _) = _
      rw [if_neg (by decide), inV_ints]
    refine ⟨_, rfl, D, _, rfl, hl8, (by rw [List.length_map, List.length_range]; omega), fun m hm hmax => ?_⟩
    obtain ⟨x, hx, ex⟩ := walk_most led.plan
    obtain ⟨j, hj, rfl⟩ := rowG_mem (subS x hx)
    have em : m = (t0.depth : Int) := by
      refine Int.le_antisymm ?_ ?_
      · obtain ⟨i, hi, rfl⟩ := List.mem_map.mp hm
        have lt := List.mem_range.mp hi
        have z := (walk_ends led.plan (rowAt true (1 + n) i) (pm.mem_iff.mpr (List.mem_of_getElem? (ns_at true (1 + n) lt)))).2
        exact Int.ofNat_le.mpr z
      · rw [← ex]
        exact hmax _ (List.mem_map.mpr ⟨j, List.mem_range.mpr hj, rfl⟩)
    refine ⟨_, rfl, 1 + n, rfl, by omega, fun d3 lg3 H9 s9 => ⟨rfl, _, rfl, ?_⟩⟩
    have e3 : t0.depth = d3 := by
      have z := led_isLog led ch
      rw [lenS] at z
      exact z.inj lg3
    rw [em, e3, decide_eq_true rfl]
    refine iteF ?_
    have bs9 : But src H H9 := fun b u e ne => s9 _ _ (s8 _ _ (bs7 b u e ne))
    have so9 : SrcAt H9 src := (so7.same s8).same s9
    clear hm hmax hl8 hd8 em ex hx led e1 lg ch mn plan pv6
    -- the roots: store, how many
    refine fun sa' dxa' hsa' hdxa' _ => ⟨sa', dxa', rfl, upd_same, fun H11 kd' hkd' st11 hk11 bt11 => ⟨rfl, _, rfl, src, 5, rfl, so9.same (made_same hsa' hdxa' bt11), by decide, by decide, fun H12 d' d0' d1' bt12 src12 => ⟨_, _, rfl, rfl, _, _, rfl, ?_⟩⟩⟩
    obtain ⟨n', rfl⟩ := Int.eq_ofNat_of_zero_le d0'
    have s11 : Same H9 H11 := made_same hsa' hdxa' bt11
    have kd9 : H9 kd' = none := none_up hkd'
    have b12 : But src H H12 := fun b u e ne => bt12 _ _ (s11 _ _ (bs9 b u e ne)) ne
    have nkd' : H kd' = none := but_none bs9 so9 kd9
    have nk' : src ≠ kd' := so9.ne kd9
    have hk12 := bt12 _ _ hk11 nk'.symm
    obtain ⟨dst', hst11⟩ := id st11
    have st12 : StoreAt T H12 sa' kd' := ⟨dst', bt12 _ _ hst11 (so9.ne hsa').symm⟩
    have o' : RowOk false (2 + n') := ⟨by omega, by omega, fun _ => ⟨by omega, by omega⟩⟩
    refine ⟨_, rfl, fun ha' dxh' hha' hdxh' _ => ⟨ha', dxh', sa', _, rfl, upd_same, sqt_same (fun b o e => by cases e) T.ht_History_DinitD_cut, fun H13 kn' dd' hkn' hi13 hk13 bt13 => ⟨rfl, _, rfl, _, rfl, sa', kd', 2 + n', false, rfl, ?_⟩⟩⟩
    have s13 : Same H12 H13 := made_same hha' hdxh' bt13
    refine ⟨st12.same s13, s13 _ _ hk12, o', fun H14 t' bt14 fz14 st14 sa14 => ?_⟩
    have rd14 := ready o' b12 src12 nkd' hk12 hha' hdxh' hkn' hi13 hk13 s13 bt14 fz14 st14 sa14
    refine ⟨(by show 2 ≤ sizeLine; decide), fun tp' htp' => ⟨tp', _, rfl, .inl (.inl upd_same), rfl, _, _, rfl, _, _, rfl, rfl, ?_⟩⟩
    have rd15 := rd14.same (same_new (o := .tup [.ref ha', .ref t']) htp')
    generalize upd H14 tp' (.tup [.ref ha', .ref t']) = H15 at rd15 ⊢
    -- best(..)[0] == many - 1
    refine ⟨_, rfl, _, rfl, true, rowG false (2 + n'), ha', sa', kd', _, kn', t', [], _, rfl, rd15.ask, fun H16 ks16 p' v' pl' S' bt16 past16 hp16 pv16 pm' so' plan' mn' => ⟨p', _, _, .int pl'.depth, rfl, rfl, .inl (.inl hp16), atI_nat (j := 0) rfl, _, rfl, _, _, rfl, rfl, rfl, _, rfl, ?_⟩⟩
    have len' := roots_len o' pm' mn'
    have e4 : V.int (pl'.depth : Nat) = V.int (2 + (n' : Int) - 1) := by
      congr 1
      omega
    rw [decide_eq_true e4]
    have fz16 := rd15.fz.but bt16 rd15.ask.kw.at_
    have bs16 : But src H H16 := but_step rd15.bs bt16 rd15.nk
    have nkn' : src ≠ kn' := hsrc.ne rd15.nk
    have so16 : SrcAt H16 src := rd15.so.but bt16 nkn'
    have ask16 : AskIn T true H16 (rowG false (2 + n')) ha' sa' kd' _ kn' t' ks16 _ := ⟨past16.hist, past16.ok, past16.kw, past16.ne, fz16.seq, rd15.ask.one, rd15.ask.few, rd15.ask.nd, fun n h => h⟩
    refine iteT ⟨_, rfl, _, rfl, _, rfl, _, _, rfl, rfl, _, rfl, _, rfl, true, rowG false (2 + n'), ha', sa', kd', _, kn', t', ks16, _, rfl, ask16, fun H17 ks17 D' kv S2 bt17 past17 tab ok17 pm2 so2 kn17 => ?_⟩
    have fz17 := fz16.but bt17 ask16.kw.at_
    have ask17 : AskIn T true H17 (rowG false (2 + n')) ha' sa' kd' _ kn' t' ks17 _ := ⟨past17.hist, past17.ok, past17.kw, past17.ne, fz17.seq, rd15.ask.one, rd15.ask.few, rd15.ask.nd, fun n h => h⟩
    have l2 := row_perm pm2
    obtain ⟨r, hr', e5⟩ := List.mem_map.mp (kn17.resolve_left (by omega))
    have e6 := roots_len o' pm2 (e5 ▸ ok17.min r hr')
    refine ⟨true, rowG false (2 + n'), ha', sa', kd', _, kn', t', D', ks17, _, S2, kv, _, rfl, ask17, tab, ok17, pm2, so2, .inr ⟨r, hr', e5, ?_⟩, fun H18 bt18 => ?_⟩
    · show (2 + (n' : Int) - 1) ≤ (r.d : Int)
      omega
    · have bs17 := but_step bs16 bt17 rd15.nk
      exact k H18 (but_step bs17 bt18 rd15.nk) ((so16.but bt17 nkn').but bt18 nkn')
end
end K65

set_option maxHeartbeats 200000
/-! K65Law5: the law's drawn history. -/
namespace K65
open PySem L2
/-- a commit and the address of what the law notes of it -/
abbrev Note := Cm × Addr
abbrev rowF (r : Note) : Key × V := (Sum.inr (cid r.1), .ref r.2)
def csOf (rs : List Note) : List Cm := rs.map Prod.fst
theorem csOf_snoc (rs : List Note) (r : Note) : csOf (rs ++ [r]) = csOf rs ++ [r.1] := List.map_append
def NoteAt (K : PySem.W.Frag) (H : Hp) (r : Note) : Prop := ∃ p, H r.2 = some (.tup [.ref p, .int r.1.tm]) ∧ SqT K H p (r.1.ps.map V.str)
theorem NoteAt.same {K : PySem.W.Frag} {H H' : Hp} {r : Note} (x : NoteAt K H r) (s : Same H H') : NoteAt K H' r := let ⟨p, a, b⟩ := x; ⟨p, s _ _ a, sqt_same s b⟩
theorem NoteAt.lst {K : PySem.W.Frag} {H H' : Hp} {r : Note} {l : Addr} {xs : List V} (x : NoteAt K H r) (hl : H l = some (.lst xs)) (b : But l H H') : NoteAt K H' r := let ⟨p, a, c⟩ := x; ⟨p, b _ _ a (ne_of a hl (by intro z; cases z)), lo_sqt hl True.intro b c⟩
theorem NoteAt.dct {K : PySem.W.Frag} {H H' : Hp} {r : Note} {l : Addr} {kvs : List (Key × V)} (x : NoteAt K H r) (hl : H l = some (.dK kvs)) (b : But l H H') : NoteAt K H' r := let ⟨p, a, c⟩ := x; ⟨p, b _ _ a (ne_of a hl (by intro z; cases z)), but_sqt hl b c⟩
/-- the law's notes of these commits -/
structure NotesAt (K : PySem.W.Frag) (H : Hp) (fd : Addr) (rs : List Note) : Prop where
  at_ : H fd = some (.dK (rs.map rowF))
  all : ∀ r ∈ rs, NoteAt K H r
theorem NotesAt.same {K : PySem.W.Frag} {H H' : Hp} {fd : Addr} {rs : List Note} (x : NotesAt K H fd rs) (s : Same H H') : NotesAt K H' fd rs := ⟨s _ _ x.at_, fun r hr => (x.all r hr).same s⟩
theorem NotesAt.lst {K : PySem.W.Frag} {H H' : Hp} {fd l : Addr} {xs : List V} {rs : List Note} (x : NotesAt K H fd rs) (hl : H l = some (.lst xs)) (b : But l H H') : NotesAt K H' fd rs := ⟨b _ _ x.at_ (ne_of x.at_ hl (by intro z; cases z)), fun r hr => (x.all r hr).lst hl b⟩
theorem NotesAt.dct {K : PySem.W.Frag} {H H' : Hp} {fd l : Addr} {kvs : List (Key × V)} {rs : List Note} (x : NotesAt K H fd rs) (hl : H l = some (.dK kvs)) (n : fd ≠ l) (b : But l H H') : NotesAt K H' fd rs := ⟨b _ _ x.at_ n, fun r hr => (x.all r hr).dct hl b⟩
theorem note_val {rs : List Note} {n : Str} : valV (rs.map rowF) (Sum.inr n) = none ↔ ¬ n ∈ (csOf rs).map cid := by
  induction rs with
  | nil => exact ⟨fun _ h => (by cases h), fun _ => rfl⟩
  | cons r t ih =>
    show valV (rowF r :: t.map rowF) _ = none ↔ ¬ n ∈ cid r.1 :: (csOf t).map cid
    by_cases e : cid r.1 = n
    · rw [valV_pos (show (rowF r).1 = Sum.inr n by rw [← e])]
      exact ⟨fun h => (by cases h), fun h => absurd (e ▸ List.mem_cons_self) h⟩
    · rw [valV_neg (show ¬ (rowF r).1 = Sum.inr n from fun z => e (Sum.inr.inj z)), ih]
      exact ⟨fun h z => h ((List.mem_cons.mp z).resolve_left fun q => e q.symm), fun h z => h (List.mem_cons_of_mem _ z)⟩
theorem cut_map (names : List Str) (lo hi : Option Int) : ∃ near : List Str, cutV (names.map V.str) lo hi = near.map V.str ∧ near.Sublist names := by
  refine ⟨(names.drop (HT.sIx (names.map V.str).length 0 lo)).take (HT.sIx (names.map V.str).length (names.map V.str).length hi - HT.sIx (names.map V.str).length 0 lo), ?_, (List.take_sublist ..).trans (List.drop_sublist ..)⟩
  unfold cutV
  rw [← List.map_drop, ← List.map_take]
theorem cut_few (ys : List Str) {v : Int} (v0 : 0 ≤ v) (v3 : v ≤ 3) : ∃ ps : List Str, cutV (ys.map V.str) none (some v) = ps.map V.str ∧ ps.Sublist ys ∧ ps.length ≤ 3 := by
  obtain ⟨ps, e, sub⟩ := cut_map ys none (some v)
  refine ⟨ps, e, sub, ?_⟩
  have z := congrArg List.length e
  rw [List.length_map] at z
  rw [← z]
  unfold cutV
  rw [List.length_take]
  have q : HT.sIx (ys.map V.str).length (ys.map V.str).length (some v) ≤ 3 := by
    show (if v < 0 then _ else min v.toNat (ys.map V.str).length) ≤ 3
    rw [if_neg (by omega)]
    omega
  omega
theorem six {d : Int} (d0 : 0 ≤ d) (d1 : d < 6) : ∃ v : Int, atI [V.int 0, .int 1, .int 1, .int 1, .int 2, .int 3] d = some (.int v) ∧ 0 ≤ v ∧ v ≤ 3 := by
  obtain ⟨n, rfl⟩ := Int.eq_ofNat_of_zero_le d0
  rcases (show n = 0 ∨ n = 1 ∨ n = 2 ∨ n = 3 ∨ n = 4 ∨ n = 5 by omega) with rfl | rfl | rfl | rfl | rfl | rfl
  · exact ⟨0, atI_nat rfl, by decide, by decide⟩
  · exact ⟨1, atI_nat rfl, by decide, by decide⟩
  · exact ⟨1, atI_nat rfl, by decide, by decide⟩
  · exact ⟨1, atI_nat rfl, by decide, by decide⟩
  · exact ⟨2, atI_nat rfl, by decide, by decide⟩
  · exact ⟨3, atI_nat rfl, by decide, by decide⟩
theorem first_apart : ∀ t : Fin 3, cid ⟨tid, [], "a", (t.val : Int), toString ((0 : Nat) : Int)⟩ ≠ tid := by decide +kernel
theorem drawn_ok {ps : List Str} {tm : Int} {i : Nat} (h3 : ps.length ≤ 3) (ids : ∀ p ∈ ps, IsId p) (nd : ps.Nodup) (t0 : 0 ≤ tm) (t1 : tm < 3) (hi : i < 16) : OkC ⟨tid, ps, "a", tm, toString (i : Int)⟩ :=
  ⟨oid_asc _, ids, Nat.le_trans h3 (by decide), nd, (by show 1 ≤ 1; decide), (by show 1 ≤ 12; decide), (by show ∀ x ∈ ("a" : Str).cps.toList, x ∈ ("abcdefghijklmnopqrstuvwxyz" : Str).cps.toList; decide +kernel), t0, (by show tm ≤ 1000; omega), (num_ok ⟨i, hi⟩).1, (num_ok ⟨i, hi⟩).2⟩
section
variable {P : Program} {w : World} {K : PySem.W.Frag} {mg : Str → Option Value} {base : Heap}
/-- while the law draws its history -/
structure Hst (T : W K mg) (H0 H : Hp) (src sa kd fd nl : Addr) (rs : List Note) : Prop where
  m : Made (csOf rs)
  bs : But src H0 H
  so : SrcAt H src
  st : StoreAt T H sa kd
  sa : StAt T H kd (csOf rs)
  no : NotesAt K H fd rs
  nl : H nl = some (.lst (((csOf rs).map cid).map V.str))
theorem Hst.same {T : W K mg} {H0 H H' : Hp} {src sa kd fd nl : Addr} {rs : List Note} (x : Hst T H0 H src sa kd fd nl rs) (s : Same H H') : Hst T H0 H' src sa kd fd nl rs :=
  ⟨x.m, fun b o e n => s _ _ (x.bs b o e n), x.so.same s, x.st.same s, x.sa.same s, x.no.same s, s _ _ x.nl⟩
theorem Hst.draw {T : W K mg} {H0 H H' : Hp} {src sa kd fd nl : Addr} {rs : List Note} (x : Hst T H0 H src sa kd fd nl rs) (b : But src H H') (z : SrcAt H' src) (n : nl ≠ src) : Hst T H0 H' src sa kd fd nl rs := by
  obtain ⟨i, j, l, hs⟩ := id x.so
  exact ⟨x.m, x.bs.trans b, z, x.st.lo hs True.intro b, x.sa.lo hs True.intro b, x.no.lst hs b, b _ _ x.nl n⟩
def spHistory (T : W K mg) : Sp := fun vs H Q _ => ∃ (s : Addr), vs = [.ref s, .int 14] ∧ SrcAt H s ∧
  ∀ (H' : Hp) (p ha sa kd kn fd : Addr) (rs : List Note), But s H H' → SrcAt H' s → H' p = some (.tup [.ref ha, .ref fd]) → Made (csOf rs) → 1 ≤ rs.length → rs.length ≤ 14 → HistAt T H' (grOf (csOf rs)) ha sa kd T.t_History_DinitD_cut kn → H' kn = some (.dK []) → kd ≠ kn →
    H kn = none → NotesAt K H' fd rs → fd ≠ kn → Q (.ref p) H'
theorem sc_history : FnScope ["_law_source", "_law_most", "_law_store", "_law_tree", "_law_facts", "_law_names", "_law_at", "_law_near", "_law_parents", "_law_time_here", "_law_made"] ["_law_source", "_law_most"] (defScope s_L_history) := ⟨rfl, rfl, rfl, by decide +kernel, rfl, by decide +kernel, by decide +kernel⟩
theorem ok_history (T : W K mg) : FnOk P w K mg base CX0 7 T.a_L_history T.d_L_history ["_law_source", "_law_most"] (spHistory T) := by
  obtain ⟨dS, vS, bS⟩ := T.F_Store_DinitD.binds0 (ps := ["self", "short"]) 1 (by simp) rfl fun D doc pm an cdv ct us ks h1 h2 => match us, ks, h1, h2 with | [_], [_], _, _ => ⟨_, _, _, _, _, _, rfl, rfl, rfl⟩
  obtain ⟨dH, vH, bH⟩ := T.F_History_DinitD.binds0 (ps := ["self", "store", "cut"]) 2 (by simp) rfl fun D doc pm an cdv ct us ks h1 h2 => match us, ks, h1, h2 with | [_, _], [_], _, _ => ⟨_, _, _, _, _, _, rfl, rfl, rfl⟩
  obtain ⟨dI, vI, bI⟩ := T.F_id_of.binds0 (ps := ["thing", "short"]) 1 (by simp) rfl fun D doc pm an cdv ct us ks h1 h2 => match us, ks, h1, h2 with | [_], [_], _, _ => ⟨_, _, _, _, _, _, rfl, rfl, rfl⟩
  have b0 := T.F_Store_put.binds (ps := ["self", "thing"]) fun _ _ _ _ _ _ us hl => match us, hl with | [_, _], _ => rfl
  have b1 := T.F_Tree_DinitD.binds (ps := ["self", "entries"]) fun _ _ _ _ _ _ us hl => match us, hl with | [_, _], _ => rfl
  obtain ⟨its, mv, b2⟩ := T.F_Commit_DinitD.kbinds (ps := ["self", "tree", "parents", "author", "time", "message"]) 3 ["author", "time", "message"] [] (fun us _ _ ws => us ++ ws) (by simp) (by simp) (by simp) (fun r _ _ z => r.append z)
    fun _ _ _ _ _ _ _ us its mv ws h1 h2 h3 h4 => match us, its, mv, ws, h1, h2, h3, h4 with | [_, _, _], [_], [], [_, _, _], _, _, _, _ => ⟨_, rfl, rfl⟩
  have b3 := T.F_L_draw.binds (ps := ["_law_source", "_law_size"]) fun _ _ _ _ _ _ us hl => match us, hl with | [_, _], _ => rfl
  have b4 := T.F_L_shuffled.binds (ps := ["_law_source", "_law_items"]) fun _ _ _ _ _ _ us hl => match us, hl with | [_, _], _ => rfl
  refine T.F_L_history.ok sc_history (fun vs H Q E h => ?_) (fun cdv A0 outer s H vs Q E hr h => ?_)
  · obtain ⟨s, rfl, _⟩ := h
    rfl
  · obtain ⟨src, rfl, hsrc, k⟩ := h
    have nd := sc_history.nd
    have hu := hu_of hr
    refine ⟨_, pss_cons (ps_set (i := 2) nd rfl (Or.inl rfl) (pe_make0 T.k_Store (ok_sinit T) (hr.mono (by decide)) rfl T.gCStore bS vS pass0))
      (pss_cons (ps_set (i := 3) nd rfl (Or.inl rfl) (pe_meth (pv 2) T.clStore T.m_Store_put (ok_put T) hr b0 .nil pass0 (pa_cons (pe_make T.k_Tree (ok_tinit T) (hr.mono (by decide)) rfl T.gCTree b1 .nil pass0 (pa_cons pe_dnewK pa_nil)) pa_nil)))
      (pss_cons (ps_par (i := 4) (j := 5) rfl nd rfl rfl (by decide) rfl rfl (pa_cons pe_dnewK (pa_cons (pe_lst pa_nil) pa_nil)) (by rfl))
      (pss_cons (ps_for PassesOwn.never rfl (pi_range1 (by rfl) T.z_range (pa_cons (pe_op op_add pe_int (pe_call (ok_draw T) (hr.mono (by decide)) rfl T.g_L_draw T.F_L_draw.kp b3 .nil pass0 (pa_cons (pv 0) (pa_cons (pv 1) pa_nil)))) pa_nil)) (pg_name (i := 6) nd rfl (Or.inl rfl))
        (pss_cons (ps_set (i := 7) nd rfl (Or.inl rfl) (pe_slice sl_list (pv 5) (po_some (pe_un un_neg (pe_op op_add pe_int (pe_call (ok_draw T) (hr.mono (by decide)) rfl T.g_L_draw T.F_L_draw.kp b3 .nil pass0 (pa_cons (pv 0) (pa_cons pe_int pa_nil)))))) po_none))
        (pss_cons (ps_set (i := 8) nd rfl (Or.inl rfl) (pe_callTy call_tuple_of (by rfl) T.z_tuple (by decide +kernel) (pa_cons
          (pe_slice sl_list (pe_call (ok_shuffled T) (hr.mono (by decide)) rfl T.g_L_shuffled T.F_L_shuffled.kp b4 .nil pass0 (pa_cons (pv 0) (pa_cons (pv 7) pa_nil))) po_none
            (po_some (pe_ix ix_list (pe_lst (pa_cons pe_int (pa_cons pe_int (pa_cons pe_int (pa_cons pe_int (pa_cons pe_int (pa_cons pe_int pa_nil)))))))
              (pe_call (ok_draw T) (hr.mono (by decide)) rfl T.g_L_draw T.F_L_draw.kp b3 .nil pass0 (pa_cons (pv 0) (pa_cons pe_int pa_nil))) fun _ _ => rfl))) pa_nil)))
        (pss_cons (ps_set (i := 9) nd rfl (Or.inl rfl) (pe_call (ok_draw T) (hr.mono (by decide)) rfl T.g_L_draw T.F_L_draw.kp b3 .nil pass0 (pa_cons (pv 0) (pa_cons pe_int pa_nil))))
        (pss_cons (ps_set (i := 10) nd rfl (Or.inl rfl) (pe_makeN T.k_Commit (ok_cinit T) (hr.mono (by decide)) rfl T.gCCommit b2 pass0 (pa_cons (pv 3) (pa_cons (pv 8) pa_nil))
            (pk_cons pe_str (pk_cons (pv 9) (pk_cons (pe_callTy call_str_int (by rfl) T.z_str (by decide +kernel) (pa_cons (pv 6) pa_nil)) pk_nil)))))
        (pss_one (ps_if (PW.pt (pw_and (pt_cmpR op_ne (pe_call (ok_id_of T) (hr.mono (by decide)) rfl T.g_id_of T.F_id_of.kp bI vI pass0 (pa_cons (pv 10) pa_nil)) (pv 3) (nomark _))
            (pw_and1 (pt_cmp (pc_dnotin hu (pe_call (ok_id_of T) (hr.mono (by decide)) rfl T.g_id_of T.F_id_of.kp bI vI pass0 (pa_cons (pv 10) pa_nil)) (pv 4))))))
          (pss_cons (ps_dput hu (pv 4) (pe_meth (pv 2) T.clStore T.m_Store_put (ok_put T) hr b0 .nil pass0 (pa_cons (pv 10) pa_nil)) (pe_tup (pa_cons (pv 8) (pa_cons (pv 9) pa_nil))) rfl)
          (pss_one (ps_expr (pe_bm PySem.F.plainAttrs_list PySem.F.slot_list_append PySem.F.type_list_append mt_append (pv 5) (pa_cons (pe_call (ok_id_of T) (hr.mono (by decide)) rfl T.g_id_of T.F_id_of.kp bI vI pass0 (pa_cons (pv 10) pa_nil)) pa_nil))))) pss_nil)))))))
      (pss_one (ps_ret (pe_tup (pa_cons (pe_make T.k_History (ok_hinit T) (hr.mono (by decide)) rfl T.gCHistory bH vH pass0 (pa_cons (pv 2) pa_nil)) (pa_cons (pv 4) pa_nil)))))))), ?_⟩
    -- store, tree
    refine fun sa dxa hsa hdxa _ => ⟨sa, dxa, rfl, upd_same, fun H1 kd hkd st1 hk1 bt1 => ⟨rfl, ?_⟩⟩
    have s1 : Same H H1 := made_same hsa hdxa bt1
    have nkd : H kd = none := none_up hkd
    obtain ⟨dst, hst1⟩ := id st1
    refine ⟨_, rfl, sa, dst, _, rfl, hst1, rfl, fun d hd x dx hx hdx _ => ⟨x, dx, d, rfl, upd_same, ?_, fun H2 ht bt => ⟨rfl, ?_⟩⟩⟩
    · rw [upd_ne (ne_of_none upd_same hx), upd_ne (ne_of_none upd_same hdx), upd_same]
    have s2 : Same H1 H2 := (same_new hd).trans (made_same hx hdx bt)
    refine put_tree (st1.same s2) (s2 _ _ hk1) ht fun H3 bt3 st3 sa3 => ?_
    have b3 : But src H H3 := fun b o e n => bt3 _ _ (s2 _ _ (s1 _ _ e)) (ne_of_none e nkd)
    have so3 : SrcAt H3 src := ((hsrc.same s1).same s2).but bt3 (hsrc.ne nkd)
    obtain ⟨kvs3, hk3, _⟩ := id sa3
    -- facts, names
    refine fun fd hfd => ⟨(by show 0 ≤ sizeLine; decide), fun nl hnl => ⟨_, _, rfl, ?_⟩⟩
    have s4 : Same H3 (upd (upd H3 fd (.dK [])) nl (.lst [])) := (same_new hfd).trans (same_new hnl)
    have nkf : kd ≠ fd := ne_of_none hk3 hfd
    have nfn : fd ≠ nl := ne_of_none upd_same hnl
    have hnl3 : H3 nl = none := by rwa [upd_ne nfn.symm] at hnl
    have nls : nl ≠ src := (so3.ne hnl3).symm
    have h4 : Hst T H (upd (upd H3 fd (.dK [])) nl (.lst [])) src sa kd fd nl [] :=
      ⟨.nil, fun b o e n => s4 _ _ (b3 b o e n), so3.same s4, st3.same s4, sa3.same s4, ⟨by rw [upd_ne nfn, upd_same]; rfl, fun r hr => by cases hr⟩, upd_same⟩
    have hfd0 : H fd = none := but_none b3 so3 hfd
    have hnl0 : H nl = none := but_none b3 so3 hnl3
    clear b3 so3 hk3 sa3 st3
    generalize upd (upd H3 fd (.dK [])) nl (.lst []) = H4 at h4 ⊢
    refine ⟨_, rfl, _, rfl, src, 14, rfl, h4.so, by decide, by decide, fun H5 d5 d50 d51 bt5 so5 => ⟨_, _, rfl, rfl, _, rfl, by omega, by omega, ?_⟩⟩
    have h5 := h4.draw bt5 so5 nls
    obtain ⟨n, rfl⟩ := Int.eq_ofNat_of_zero_le d50
    refine for_range (fun i σ H' => ∃ (rs : List Note) (oa ob oc od oe : Option V), σ = [some (.ref src), some (.int 14), some (.ref sa), some (.str tid), some (.ref fd), some (.ref nl), oa, ob, oc, od, oe] ∧ rs.length ≤ i ∧ (1 ≤ i → 1 ≤ rs.length) ∧ Hst T H H' src sa kd fd nl rs)
      ⟨[], _, _, _, _, _, rfl, Nat.le_refl _, fun h => by omega, h5⟩ ?_ ?_
    · rintro i σ H6 lt ⟨rs, oa, ob, oc, od, oe, rfl, len, pos, h6⟩
      have lt14 : i < 14 := by
        have := d51
        omega
      rw [show (0 : Int) + ((i : Nat) : Int) = ((i : Nat) : Int) from Int.zero_add _]
      have ids : ∀ y ∈ (csOf rs).map cid, IsId y := fun y hy => by
        obtain ⟨c, hc, rfl⟩ := List.mem_map.mp hy
        exact oid_asc _
      -- near
      refine ⟨_, rfl, _, rfl, src, 4, rfl, h6.so, by decide, by decide, fun H7 e e0 e1 bt7 so7 => ⟨_, _, rfl, rfl, _, rfl, _, rfl, ?_⟩⟩
      have h7 := h6.draw bt7 so7 nls
      refine ⟨nl, _, rfl, SqL.of h7.nl, fun nr hnr => ?_⟩
      obtain ⟨near, en, subn⟩ := cut_map ((csOf rs).map cid) (some (-(1 + e))) none
      rw [en]
      have h8 := h7.same (same_new (o := .lst (near.map V.str)) hnr)
      have nr8 : upd H7 nr (.lst (near.map V.str)) nr = some (.lst (near.map V.str)) := upd_same
      generalize upd H7 nr (.lst (near.map V.str)) = H8 at h8 nr8 ⊢
      -- parents
      have lenN : near.length ≤ 14 := by
        have := subn.length_le
        rw [List.length_map, csOf, List.length_map] at this
        omega
      refine ⟨_, rfl, _, rfl, src, nr, near, rfl, h8.so, nr8, by omega, fun y hy => ids y (subn.subset hy), fun H9 D ys bt9 so9 hD8 hD9 pm => ?_⟩
      have h9 := h8.draw bt9 so9 nls
      have nDs : D ≠ src := (h8.so.ne hD8).symm
      refine ⟨(by show 6 ≤ sizeLine; decide), fun ll hll => ?_⟩
      have s10 := same_new (o := .lst [.int 0, .int 1, .int 1, .int 1, .int 2, .int 3]) hll
      have h10 := h9.same s10
      have hD10 := s10 _ _ hD9
      have nls2 : ll ≠ src := (h9.so.ne hll).symm
      have ll10 : upd H9 ll (.lst [.int 0, .int 1, .int 1, .int 1, .int 2, .int 3]) ll = some (.lst [.int 0, .int 1, .int 1, .int 1, .int 2, .int 3]) := upd_same
      generalize upd H9 ll (.lst [.int 0, .int 1, .int 1, .int 1, .int 2, .int 3]) = H10 at h10 hD10 ll10 s10 ⊢
      refine ⟨_, rfl, src, 6, rfl, h10.so, by decide, by decide, fun H11 q q0 q1 bt11 so11 => ?_⟩
      have h11 := h10.draw bt11 so11 nls
      obtain ⟨v, ev, v0, v3⟩ := six q0 q1
      refine ⟨ll, _, q, .int v, rfl, rfl, SqL.of (bt11 _ _ ll10 nls2), ev, _, rfl, ?_⟩
      obtain ⟨ps, ep, subp, lp⟩ := cut_few ys v0 v3
      refine ⟨D, _, rfl, SqL.of (bt11 _ _ hD10 nDs), fun sl hsl => ⟨sl, _, rfl, .inl ⟨SqL.of upd_same, fun pt hpt => ?_⟩⟩⟩
      rw [ep] at hpt ⊢
      have s12 := (same_new hsl).trans (same_new (o := .tup (ps.map V.str)) hpt)
      have h12 := h11.same s12
      have pt12 : SqT K (upd (upd H11 sl (.lst (ps.map V.str))) pt (.tup (ps.map V.str))) pt (ps.map V.str) := .inl (.inl upd_same)
      generalize upd (upd H11 sl (.lst (ps.map V.str))) pt (.tup (ps.map V.str)) = H12 at h12 pt12 ⊢
      have pmem : ∀ y ∈ ps, y ∈ (csOf rs).map cid := fun y hy => subn.subset (pm.mem_iff.mp (subp.subset hy))
      have pnd : ps.Nodup := (pm.nodup_iff.mpr (h6.m.nd.sublist subn)).sublist subp
      -- time
      refine ⟨_, rfl, src, 3, rfl, h12.so, by decide, by decide, fun H13 tm t0 t1 bt13 so13 => ?_⟩
      have h13 := h12.draw bt13 so13 nls
      obtain ⟨ia, ib, ic, hs12⟩ := id h12.so
      have pt13 : SqT K H13 pt (ps.map V.str) := lo_sqt hs12 True.intro bt13 pt12
      -- made
      have okc : OkC ⟨tid, ps, "a", tm, toString ((i : Nat) : Int)⟩ := drawn_ok lp (fun y hy => ids y (pmem y hy)) pnd t0 t1 (by omega)
      refine ⟨_, rfl, _, rfl, _, rfl, _, rfl, _, rfl, ?_, rfl, rfl, fun x dx hx hdx _ => ?_⟩
      · rw [Int.natAbs_natCast]
        exact Nat.lt_of_le_of_lt (Nat.log2_le_self _) (by omega)
      refine ⟨x, dx, pt, ⟨tid, ps, "a", tm, toString ((i : Nat) : Int)⟩, rfl, upd_same, sqt_same (made_up hx hdx) pt13, okc, fun H14 hc14 bt14 => ⟨rfl, ?_⟩⟩
      have s14 : Same H13 H14 := made_same hx hdx bt14
      have h14 := h13.same s14
      have pt14 := sqt_same s14 pt13
      -- id_of(made) != tree
      refine ⟨_, rfl, x, .com _, rfl, hc14, okc, fun H15 s15 => ⟨_, rfl, rfl, _, rfl, ?_⟩⟩
      have h15 := h14.same s15
      have hc15 := hc14.same s15
      have pt15 := sqt_same s15 pt14
      generalize ec : (⟨tid, ps, "a", tm, toString ((i : Nat) : Int)⟩ : Cm) = c at okc hc15 ⊢
      have ecp : c.ps = ps := by rw [← ec]
      have ect : c.tm = tm := by rw [← ec]
      show (if (!decide (V.str (cid c) = V.str tid)) = true then _ else _)
      by_cases e1 : cid c = tid
      · rw [e1, decide_eq_true rfl]
        refine iteF (iteF ?_)
        refine ⟨rs, _, _, _, _, _, rfl, by omega, fun _ => ?_, h15⟩
        rcases Nat.eq_zero_or_pos i with z | z
        · exfalso
          subst z
          obtain rfl : rs = [] := List.length_eq_zero_iff.mp (by omega)
          obtain rfl : ps = [] := List.eq_nil_iff_forall_not_mem.mpr fun y hy => by have := pmem y hy; cases this
          obtain ⟨tn, rfl⟩ := Int.eq_ofNat_of_zero_le t0
          rw [← ec] at e1
          exact first_apart ⟨tn, by omega⟩ e1
        · exact pos z
      rw [decide_eq_false (fun z => e1 (by injection z))]
      refine iteT ⟨_, rfl, x, .com c, rfl, hc15, okc, fun H16 s16 => ?_⟩
      have h16 := h15.same s16
      have hc16 := hc15.same s16
      have pt16 := sqt_same s16 pt15
      refine ⟨_, rfl, fd, _, rfl, DGet.k (k := Sum.inr (cid c)) h16.no.at_, _, rfl, ?_⟩
      by_cases e2 : cid c ∈ (csOf rs).map cid
      · cases ev2 : valV (rs.map rowF) (Sum.inr (cid c)) with
        | none => exact absurd e2 (note_val.mp ev2)
        | some v2 =>
          refine iteF ⟨rs, _, _, _, _, _, rfl, by omega, fun _ => ?_, h16⟩
          rcases Nat.eq_zero_or_pos i with z | z
          · obtain rfl : rs = [] := List.length_eq_zero_iff.mp (by omega)
            cases e2
          · exact pos z
      have abs := note_val.mpr e2
      rw [abs]
      have md : Made (csOf (rs ++ [(c, 0)])) := by
        rw [csOf_snoc]
        exact .snoc h16.m okc (fun y hy => pmem y (ecp ▸ hy)) e2 e1
      -- facts[put(made)] = (parents, time)
      refine iteT ⟨_, rfl, _, rfl, (by show 2 ≤ sizeLine; decide), fun np hnp => ?_⟩
      have s17 := same_new (o := .tup [.ref pt, .int tm]) hnp
      have h17 := h16.same s17
      have hc17 := hc16.same s17
      have pt17 := sqt_same s17 pt16
      have np17 : upd H16 np (.tup [.ref pt, .int tm]) np = some (.tup [.ref pt, .int tm]) := upd_same
      generalize upd H16 np (.tup [.ref pt, .int tm]) = H17 at h17 hc17 pt17 np17 s17 ⊢
      obtain ⟨dst17, hst17⟩ := id h17.st
      have lenC : (csOf rs).length = rs.length := List.length_map ..
      obtain ⟨kvs17, hk17, _⟩ := id h17.sa
      refine ⟨_, rfl, _, rfl, sa, dst17, _, rfl, hst17, rfl, _, rfl, put_ok h17.st h17.sa hc17 (by rw [csOf_snoc] at md; exact md) (by omega) fun H18 bt18 st18 sa18 => ?_⟩
      have no18 := h17.no.dct hk17 nkf.symm bt18
      have pt18 := but_sqt hk17 bt18 pt17
      have np18 := bt18 _ _ np17 (ne_of np17 hk17 (by intro z; cases z))
      have nl18 := bt18 _ _ h17.nl (ne_of h17.nl hk17 (by intro z; cases z))
      have so18 : SrcAt H18 src := h17.so.but bt18 (hsrc.ne nkd)
      have hc18 := but_commit hk17 bt18 hc17
      refine ⟨fd, _, rfl, DPut.k (k := Sum.inr (cid c)) no18.at_ (by rw [List.length_map]; exact Nat.lt_of_le_of_lt (show rs.length ≤ 14 by omega) (by decide)), ?_⟩
      rw [putK_new _ abs]
      have b19 : But fd H18 (upd H18 fd (.dK (rs.map rowF ++ [((Sum.inr (cid c) : Key), V.ref np)]))) := but_upd
      have fd19 : (upd H18 fd (.dK (rs.map rowF ++ [((Sum.inr (cid c) : Key), V.ref np)]))) fd = some (.dK ((rs ++ [(c, np)]).map rowF)) := by
        rw [upd_same, List.map_append]
        rfl
      generalize upd H18 fd (.dK (rs.map rowF ++ [((Sum.inr (cid c) : Key), V.ref np)])) = H19 at b19 fd19 ⊢
      have nl19 := b19 _ _ nl18 nfn.symm
      have hc19 := but_commit no18.at_ b19 hc18
      obtain ⟨dst18, hst18⟩ := id st18
      obtain ⟨kvs18, hk18, len18, out18, has18⟩ := id sa18
      -- names.append(id_of(made))
      refine ⟨_, rfl, .inl ⟨rfl, _, SqL.of nl19⟩, _, rfl, x, .com c, rfl, hc19, okc, fun H20 s20 => ?_⟩
      have nl20 := s20 _ _ nl19
      refine ⟨nl, _, _, rfl, rfl, nl20, ?_, rs ++ [(c, np)], _, _, _, _, _, rfl, ?_, fun _ => ?_, ?_⟩
      · rw [List.length_map, List.length_map, lenC]
        exact Nat.lt_of_le_of_lt (show rs.length ≤ 14 by omega) (by decide)
      · rw [List.length_append]
        show rs.length + 1 ≤ i + 1
        omega
      · rw [List.length_append]
        show 1 ≤ rs.length + 1
        omega
      have lo20 : ∀ {u : HO}, But nl H20 (upd H20 nl u) := but_upd
      have st19 : StoreAt T H19 sa kd := ⟨dst18, b19 _ _ hst18 (ne_of hst18 no18.at_ (by intro z; cases z))⟩
      have sa19 : StAt T H19 kd (csOf (rs ++ [(c, np)])) := by
        rw [csOf_snoc]
        exact ⟨kvs18, b19 _ _ hk18 nkf, len18, out18, fun y hy => let ⟨a, f1, f2⟩ := has18 y hy; ⟨a, f1, but_commit no18.at_ b19 f2⟩⟩
      have no19 : NotesAt K H19 fd (rs ++ [(c, np)]) := by
        refine ⟨fd19, fun r hr => ?_⟩
        rcases List.mem_append.mp hr with z | z
        · exact (no18.all r z).dct no18.at_ b19
        · obtain rfl := List.mem_singleton.mp z
          refine ⟨pt, ?_, ?_⟩
          · show H19 np = some (.tup [.ref pt, .int c.tm])
            rw [ect]
            exact b19 _ _ np18 (ne_of np18 no18.at_ (by intro z; cases z))
          · show SqT K H19 pt (c.ps.map V.str)
            rw [ecp]
            exact but_sqt no18.at_ b19 pt18
      have nfs : src ≠ fd := hsrc.ne hfd0
      refine ⟨by rw [csOf_snoc] at md ⊢; exact md, fun b o e n => ?_, ((so18.but b19 nfs).same s20).but lo20 nls.symm, (st19.same s20).lo nl20 True.intro lo20, (sa19.same s20).lo nl20 True.intro lo20, (no19.same s20).lst nl20 lo20, ?_⟩
      · refine lo20 _ _ (s20 _ _ (b19 _ _ (bt18 _ _ (h17.bs _ _ e n) (ne_of_none e nkd)) (ne_of_none e hfd0))) (ne_of_none e hnl0)
      · rw [upd_same, csOf_snoc, List.map_append, List.map_append]
        rfl
    · rintro σ H6 ⟨rs, oa, ob, oc, od, oe, rfl, len, pos, h6⟩
      refine ⟨_, rfl, fun ha dxh hha hdxh _ => ⟨ha, dxh, sa, _, rfl, upd_same, sqt_same (fun b o e => by cases e) T.ht_History_DinitD_cut, fun H7 kn dd hkn hi7 hk7 bt7 => ⟨rfl, ?_⟩⟩⟩
      have s7 : Same H6 H7 := made_same hha hdxh bt7
      have hkn6 : H6 kn = none := none_up hkn
      have h7 := h6.same s7
      refine ⟨_, rfl, (by show 2 ≤ sizeLine; decide), fun p hp => ?_⟩
      have s8 := same_new (o := .tup [.ref ha, .ref fd]) hp
      have h8 := h7.same s8
      obtain ⟨kvs6, hk6, _⟩ := id h6.sa
      refine k _ p ha sa kd kn fd rs h8.bs h8.so upd_same h8.m (pos (by omega)) (by have := d51; omega) (hist_of h8.m (s8 _ _ hi7) h8.st (sqt_same (fun b o e => by cases e) T.ht_History_DinitD_cut) h8.sa) (s8 _ _ hk7) (ne_of_none hk6 hkn6) (but_none h6.bs h6.so hkn6) h8.no (ne_of_none h6.no.at_ hkn6)
end
end K65

set_option maxHeartbeats 200000
/-! K65Law6: what the law itself finds reached. -/
namespace K65
open PySem L2
theorem putK_tr_old {fs : List Str} {x : Str} (h : x ∈ fs) : putK (fs.map tr) (Sum.inr x) (.bl true) = fs.map tr := by
  unfold putK
  have e : ((fs.map tr).any fun kv => decide (kv.1 = Sum.inr x)) = true := List.any_eq_true.mpr ⟨tr x, List.mem_map_of_mem h, decide_eq_true rfl⟩
  rw [if_pos e, List.map_map]
  refine List.map_congr_left fun y _ => ?_
  show (if (tr y).1 = Sum.inr x then ((tr y).1, V.bl true) else tr y) = tr y
  split <;> rfl
theorem merge_tr : ∀ (gs fs : List Str), fs.Nodup → ∃ hs : List Str, mergeK (fs.map tr) (gs.map tr) = hs.map tr ∧ hs.Nodup ∧ ∀ x, x ∈ hs ↔ x ∈ fs ∨ x ∈ gs
  | [], fs, nd => ⟨fs, rfl, nd, fun x => ⟨.inl, fun h => h.elim id fun z => by cases z⟩⟩
  | y :: r, fs, nd => by
    show ∃ hs : List Str, mergeK (putK (fs.map tr) (Sum.inr y) (.bl true)) (r.map tr) = hs.map tr ∧ _
    by_cases h : y ∈ fs
    · rw [putK_tr_old h]
      obtain ⟨hs, e, n2, m⟩ := merge_tr r fs nd
      refine ⟨hs, e, n2, fun x => (m x).trans ⟨fun q => q.imp id (List.mem_cons_of_mem _), fun q => ?_⟩⟩
      rcases q with q | q
      · exact .inl q
      · exact (List.mem_cons.mp q).elim (fun z => .inl (z ▸ h)) .inr
    · rw [putK_tr h]
      obtain ⟨hs, e, n2, m⟩ := merge_tr r (fs ++ [y]) (nd_snoc nd h)
      refine ⟨hs, e, n2, fun x => (m x).trans ⟨fun q => ?_, fun q => ?_⟩⟩
      · rcases q with q | q
        · exact (List.mem_append.mp q).imp id fun z => List.mem_cons.mpr (.inl (List.mem_singleton.mp z))
        · exact .inr (List.mem_cons_of_mem _ q)
      · rcases q with q | q
        · exact .inl (List.mem_append_left _ q)
        · exact (List.mem_cons.mp q).elim (fun z => .inl (List.mem_append_right _ (List.mem_singleton.mpr z))) .inr
theorem made_earlier {cs : List Cm} (m : Made cs) : ∀ (i : Nat) (c : Cm), cs[i]? = some c → (∀ p ∈ c.ps, p ∈ (cs.take i).map cid) ∧ ¬ cid c ∈ (cs.take i).map cid := by
  induction m with
  | nil => intro i c h; simp at h
  | @snoc cs d m o sub no ne ih =>
    intro i c h
    by_cases hi : i < cs.length
    · rw [List.getElem?_append_left hi] at h
      rw [List.take_append_of_le_length (Nat.le_of_lt hi)]
      exact ih i c h
    · have hi2 : i < (cs ++ [d]).length := (List.getElem?_eq_some_iff.mp h).1
      rw [List.length_append] at hi2
      obtain rfl : i = cs.length := by simp at hi2; omega
      rw [List.getElem?_append_right (Nat.le_refl _), Nat.sub_self] at h
      obtain rfl : d = c := Option.some.inj h
      rw [List.take_append_of_le_length (Nat.le_refl _), List.take_length]
      exact ⟨sub, no⟩
theorem valV_names {ks : List (Str × V)} {n : Str} : (valV ks n).isSome = true ↔ n ∈ ks.map Prod.fst := by
  induction ks with
  | nil => exact ⟨fun h => (by cases h), fun h => (by cases h)⟩
  | cons q t ih =>
    by_cases e : q.1 = n
    · rw [valV_pos e]
      exact ⟨fun _ => e ▸ List.mem_cons_self, fun _ => rfl⟩
    · rw [valV_neg e, ih]
      exact ⟨List.mem_cons_of_mem _, fun h => (List.mem_cons.mp h).resolve_left fun z => e z.symm⟩
theorem row_mem {rs : List Note} {n : Str} {v : V} (h : valV (rs.map rowF) (Sum.inr n) = some v) : ((Sum.inr n : Key), v) ∈ rs.map rowF := by
  induction rs with
  | nil => cases h
  | cons q t ih =>
    rw [List.map_cons] at h ⊢
    by_cases e : (rowF q).1 = Sum.inr n
    · rw [valV_pos e] at h
      exact List.mem_cons.mpr (.inl (Prod.ext e.symm (Option.some.inj h).symm))
    · rw [valV_neg e] at h
      exact List.mem_cons_of_mem _ (ih h)
/-- the dict of one commit, whole -/
def Full (H : Hp) (g : Gr) (rd : Addr) (p : Str × V) : Prop := ∃ (d : Addr) (fs : List Str), p.2 = .ref d ∧ d ≠ rd ∧ H d = some (.dK (fs.map tr)) ∧ fs.Nodup ∧ ∀ x, x ∈ fs ↔ Reach g p.1 x
section
variable {P : Program} {w : World} {K : PySem.W.Frag} {mg : Str → Option Value} {base : Heap}
def spReached : Sp := fun vs H Q _ => ∃ (fd : Addr) (rs : List Note), vs = [.ref fd] ∧ NotesAt K H fd rs ∧ Made (csOf rs) ∧ rs.length ≤ 14 ∧
  ∀ (H' : Hp) (rd : Addr) (ks : List (Str × V)), Same H H' → H rd = none → KnowsAt true H' (grOf (csOf rs)) rd ks → ks.map Prod.fst = (csOf rs).map cid → Q (.ref rd) H'
theorem sc_reached : FnScope ["_law_facts", "_law_found", "_law_name", "_law_parent"] ["_law_facts"] (defScope s_L_reached) := ⟨rfl, rfl, rfl, by decide +kernel, rfl, by decide +kernel, by decide +kernel⟩
theorem ok_reached (T : W K mg) : FnOk P w K mg base CX0 1 T.a_L_reached T.d_L_reached ["_law_facts"] (spReached (K := K)) := by
  refine T.F_L_reached.ok sc_reached (fun vs H Q E h => ?_) (fun cdv A0 outer s H vs Q E hr h => ?_)
  · obtain ⟨fd, rs, rfl, _⟩ := h
    rfl
  · obtain ⟨fd, rs, rfl, no, m, few, k⟩ := h
    have nd := sc_reached.nd
    have hu := hu_of hr
    refine ⟨_, pss_cons (ps_set (i := 1) nd rfl (Or.inl rfl) pe_dnewK)
      (pss_cons (ps_lock (ps_for PassesOwn.never rfl (pi_keys (pv 0)) (pg_name (i := 2) nd rfl (Or.inl rfl))
        (pss_cons (ps_dput hu (pv 1) (pv 2) (pe_disp (pps_cons (pv 2) pe_bl pps_nil) rfl rfl (by simp) (by decide)) rfl)
        (pss_one (ps_for PassesOwn.never rfl (pi_tup (pe_ix ix_tup (pe_dget hu (pv 0) (pv 2) fun _ _ => rfl) pe_int fun _ _ => rfl)) (pg_name (i := 3) nd rfl (Or.inl rfl))
          (pss_one (ps_expr (pe_bm PySem.F.plainAttrs_dict PySem.F.slot_dict_update PySem.F.type_dict_update mt_upd (pe_dget hu (pv 1) (pv 2) fun _ _ => rfl) (pa_cons (pe_dget hu (pv 1) (pv 3) fun _ _ => rfl) pa_nil)))))))))
      (pss_one (ps_ret (pv 1)))), ?_⟩
    refine fun rd hrd => ?_
    have s1 : Same H (upd H rd (.dK [])) := same_new hrd
    have nfr : fd ≠ rd := ne_of_none no.at_ hrd
    refine ⟨fd, _, s1 _ _ no.at_, trivial, fun od => ?_⟩
    have lenR : (rs.map rowF).length = rs.length := List.length_map ..
    have small : rs.length < sizeLine := Nat.lt_of_le_of_lt few (by decide)
    -- what stands while the loop runs
    have hb : Same (upd H fd (.frz od (.dK (rs.map rowF)))) (upd (upd H rd (.dK [])) fd (.frz od (.dK (rs.map rowF)))) := fun b o e => by
      by_cases q : b = fd
      · rw [q] at e ⊢
        rw [upd_same] at e ⊢
        exact e
      · rw [upd_ne q] at e ⊢
        exact s1 _ _ e
    have hrdB : (upd H fd (.frz od (.dK (rs.map rowF)))) rd = none := by rw [upd_ne nfr.symm]; exact hrd
    have hfdB : (upd H fd (.frz od (.dK (rs.map rowF)))) fd = some (.frz od (.dK (rs.map rowF))) := upd_same
    have noteB : ∀ r ∈ rs, NoteAt K (upd H fd (.frz od (.dK (rs.map rowF)))) r := fun r hr => (no.all r hr).dct no.at_ but_upd
    have rd1 : (upd (upd H rd (.dK [])) fd (.frz od (.dK (rs.map rowF)))) rd = some (.dK []) := by rw [upd_ne nfr.symm, upd_same]
    have unl : ∀ {H' : Hp}, Same (upd H fd (.frz od (.dK (rs.map rowF)))) H' → Same H (upd H' fd (.dK (rs.map rowF))) := fun s => same_unlock no.at_ s
    generalize upd H fd (.frz od (.dK (rs.map rowF))) = HB at hb hrdB hfdB noteB unl
    generalize upd (upd H rd (.dK [])) fd (.frz od (.dK (rs.map rowF))) = HL at hb rd1 ⊢
    refine ⟨_, rfl, fd, od, rfl, .inl ⟨_, hb _ _ hfdB, ?_⟩⟩
    refine for_it walk_keys (fun i σ H' => ∃ (ks : List (Str × V)) (o2 o3 : Option V), σ = [some (.ref fd), some (.ref rd), o2, o3] ∧ Same HB H' ∧ H' rd = some (.dK (ks.map inK)) ∧ (∀ p ∈ ks, Full H' (grOf (csOf rs)) rd p) ∧ ks.map Prod.fst = ((csOf rs).take i).map cid)
      ⟨[], _, _, rfl, hb, rd1, (fun p h => by cases h), rfl⟩ (fun i σ H' _ q => let ⟨_, _, _, _, s, _⟩ := q; s _ _ hfdB) ?_ ?_
    · rintro i x σ H2 H2' lt ⟨ks, o2, o3, rfl, s2, rd2, full2, nm⟩ ⟨rfl, kx, vx, hx, rfl⟩
      rw [lenR] at lt
      rw [List.getElem?_map] at hx
      obtain ⟨r, hr0, er⟩ := Option.map_eq_some_iff.mp hx
      obtain ⟨rfl, rfl⟩ := Prod.mk.inj er
      have hrm : r ∈ rs := List.mem_of_getElem? hr0
      have hc : (csOf rs)[i]? = some r.1 := by
        show (rs.map Prod.fst)[i]? = _
        rw [List.getElem?_map, hr0]
        rfl
      obtain ⟨early, new⟩ := made_earlier m i r.1 hc
      have hcm : r.1 ∈ csOf rs := List.mem_of_getElem? hc
      have par : (grOf (csOf rs)).par (cid r.1) = r.1.ps := grOf_par m hcm
      have absn : valV (ks.map inK) (Sum.inr (cid r.1)) = none := by
        rw [valV_inK]
        cases e : valV ks (cid r.1) with
        | none => rfl
        | some v =>
          have z := valV_names.mp (show (valV ks (cid r.1)).isSome = true by rw [e]; rfl)
          rw [nm] at z
          exact absurd z new
      have lenK : ks.length ≤ 14 := by
        have z := congrArg List.length nm
        rw [List.length_map, List.length_map, List.length_take] at z
        omega
      -- found[name] = {name: True}
      refine fun d hd => ⟨_, rfl, upd_same, [(Sum.inr (cid r.1), .bl true)], rfl, (by show 1 ≤ 15; decide), ?_⟩
      rw [upd_upd, show mergeK [] [((Sum.inr (cid r.1) : Key), V.bl true)] = [cid r.1].map tr from rfl]
      have s3 : Same H2' (upd H2' d (.dK ([cid r.1].map tr))) := same_new hd
      have rd3 := s3 _ _ rd2
      have d3 : upd H2' d (.dK ([cid r.1].map tr)) d = some (.dK ([cid r.1].map tr)) := upd_same
      have ndr : d ≠ rd := (ne_of_none rd2 hd).symm
      have hdB : HB d = none := s2.free hd
      have full3 : ∀ p ∈ ks, Full (upd H2' d (.dK ([cid r.1].map tr))) (grOf (csOf rs)) rd p ∧ p.2 ≠ .ref d := fun p hp => by
        obtain ⟨d', fs, e1, e2, e3, e4⟩ := full2 p hp
        refine ⟨⟨d', fs, e1, e2, s3 _ _ e3, e4⟩, fun z => ?_⟩
        rw [e1] at z
        have : d' = d := by injection z
        exact ne_of_none e3 hd this
      have s23 := s2.trans s3
      generalize upd H2' d (.dK ([cid r.1].map tr)) = H3 at rd3 d3 full3 s23 ⊢
      refine ⟨_, rfl, _, rfl, rd, _, rfl, DPut.k (k := Sum.inr (cid r.1)) rd3 (by rw [List.length_map]; exact Nat.lt_of_le_of_lt lenK (by decide)), ?_⟩
      rw [putK_new _ absn]
      have e4 : ks.map inK ++ [((Sum.inr (cid r.1) : Key), V.ref d)] = (ks ++ [(cid r.1, V.ref d)]).map inK := by rw [List.map_append]; rfl
      rw [e4]
      have b4 : But rd H3 (upd H3 rd (.dK ((ks ++ [(cid r.1, V.ref d)]).map inK))) := but_upd
      have rd4 : upd H3 rd (.dK ((ks ++ [(cid r.1, V.ref d)]).map inK)) rd = some (.dK ((ks ++ [(cid r.1, V.ref d)]).map inK)) := upd_same
      generalize upd H3 rd (.dK ((ks ++ [(cid r.1, V.ref d)]).map inK)) = H4 at b4 rd4 ⊢
      have s4 : Same HB H4 := fun b o e => b4 _ _ (s23 _ _ e) (ne_of_none e hrdB)
      have d4 := b4 _ _ d3 ndr
      have full4 : ∀ p ∈ ks, Full H4 (grOf (csOf rs)) rd p ∧ p.2 ≠ .ref d := fun p hp => by
        obtain ⟨⟨d', fs, e1, e2, e3, e5⟩, ne⟩ := full3 p hp
        exact ⟨⟨d', fs, e1, e2, b4 _ _ e3 e2, e5⟩, ne⟩
      -- for parent in facts[name][0]
      obtain ⟨pt, hn, hp⟩ := noteB r hrm
      have hf : ∀ {H' : Hp}, Same HB H' → DGet H' fd (.str (cid r.1)) (some (.ref r.2)) := fun s' => by
        refine .inl ⟨_, Sum.inr (cid r.1), .inr ⟨od, s' _ _ hfdB⟩, rfl, ?_⟩
        cases e : valV (rs.map rowF) (Sum.inr (cid r.1)) with
        | none => exact absurd (List.mem_map_of_mem hcm) (note_val.mp e)
        | some v =>
          congr 1
          obtain ⟨q, hq, eq⟩ := List.mem_map.mp (row_mem e)
          obtain ⟨eq1, rfl⟩ := Prod.mk.inj eq
          obtain ⟨j, hj⟩ := List.getElem?_of_mem hq
          have hj2 : ((csOf rs).map cid)[j]? = some (cid q.1) := by
            show ((rs.map Prod.fst).map cid)[j]? = _
            rw [List.getElem?_map, List.getElem?_map, hj]
            rfl
          have hi2 : ((csOf rs).map cid)[i]? = some (cid r.1) := by
            show ((rs.map Prod.fst).map cid)[i]? = _
            rw [List.getElem?_map, List.getElem?_map, hr0]
            rfl
          have ij : i = j := (List.getElem?_inj (by rw [List.length_map, csOf, List.length_map]; exact lt) m.nd).mp (by rw [hi2, hj2, Sum.inr.inj eq1])
          rw [← ij, hr0] at hj
          rw [Option.some.inj hj]
      refine ⟨_, rfl, _, rfl, fd, _, rfl, hf s4, r.2, _, _, .ref pt, rfl, rfl, .inl (.inl (s4 _ _ hn)), atI_nat (j := 0) rfl, pt, rfl, ⟨_, sqt_same s4 hp⟩, ?_⟩
      refine for_tup (xs := r.1.ps.map V.str) (fun j σ H' => ∃ (fs : List Str) (o3 : Option V), σ = [some (.ref fd), some (.ref rd), some (.str (cid r.1)), o3] ∧ Same HB H' ∧ H' rd = some (.dK ((ks ++ [(cid r.1, V.ref d)]).map inK)) ∧ (∀ p ∈ ks, Full H' (grOf (csOf rs)) rd p ∧ p.2 ≠ .ref d) ∧
          H' d = some (.dK (fs.map tr)) ∧ fs.Nodup ∧ (∀ x, x ∈ fs ↔ x = cid r.1 ∨ ∃ p ∈ r.1.ps.take j, Reach (grOf (csOf rs)) p x))
        ⟨[cid r.1], _, rfl, s4, rd4, full4, d4, by simp, fun x => by simp⟩ (fun j σ H' _ q => let ⟨_, _, _, s, _⟩ := q; sqt_same s hp) ?_ ?_
      · rintro j x σ H5 hx5 ⟨fs, o3, rfl, s5, rd5, full5, d5, nd5, re5⟩
        rw [List.getElem?_map] at hx5
        obtain ⟨p, hp5, rfl⟩ := Option.map_eq_some_iff.mp hx5
        have hpm : p ∈ r.1.ps := List.mem_of_getElem? hp5
        have hpk : (valV ks p).isSome = true := valV_names.mpr (by rw [nm]; exact early p hpm)
        obtain ⟨v, hv⟩ := Option.isSome_iff_exists.mp hpk
        have hvm := valV_mem hv
        obtain ⟨⟨d', gs, e1, e2, e3, e5, e6⟩, ne5⟩ := full5 _ hvm
        obtain rfl : v = .ref d' := e1
        have ndd : d ≠ d' := fun z => ne5 (by rw [z])
        have npn : ¬ p = cid r.1 := fun z => new (z ▸ early p hpm)
        have noN : valV ks (cid r.1) = none := by rw [← valV_inK]; exact absn
        have g1 : DGet H5 rd (.str (cid r.1)) (some (.ref d)) := by
          have z := DGet.k (k := Sum.inr (cid r.1)) rd5
          rw [valV_inK, valV_snoc _ _ _ _ noN, if_pos rfl] at z
          exact z
        have g2 : DGet H5 rd (.str p) (some (.ref d')) := by
          have z := DGet.k (k := Sum.inr p) rd5
          rw [valV_inK, valV_snoc _ _ _ _ noN, if_neg npn, hv] at z
          exact z
        have memG : ∀ y, y ∈ gs → y ∈ (grOf (csOf rs)).ns := fun y hy => ((e6 y).mp hy).mem (m.ok (by rw [csOf, List.length_map]; omega)) (m.cl r.1 hcm p hpm).1
        have memF : ∀ y, y ∈ fs → y ∈ (grOf (csOf rs)).ns := fun y hy => by
          rcases (re5 y).mp hy with z | ⟨q, hq, rq⟩
          · rw [z]
            exact List.mem_map_of_mem hcm
          · exact rq.mem (m.ok (by rw [csOf, List.length_map]; omega)) (m.cl r.1 hcm q (List.mem_of_mem_take hq)).1
        have lenG : (grOf (csOf rs)).ns.length ≤ 14 := by
          show ((rs.map Prod.fst).map cid).length ≤ 14
          rw [List.length_map, List.length_map]
          exact few
        obtain ⟨hs, em, ndh, meh⟩ := merge_tr gs fs nd5
        refine ⟨_, rfl, _, rfl, rd, _, rfl, g1, .inr (.inr (.inl ⟨rfl, .inl ⟨_, d5⟩⟩)), _, rfl, _, rfl, rd, _, rfl, g2, d, d', _, _, rfl, rfl, ndd, d5, .inl e3, ?_, ?_⟩
        · rw [List.length_map, List.length_map]
          have z1 := nodup_len nd5 memF
          have z2 := nodup_len e5 memG
          exact Nat.le_trans (show fs.length + gs.length ≤ 28 by omega) (by decide)
        rw [em]
        have b6 : But d H5 (upd H5 d (.dK (hs.map tr))) := but_upd
        refine ⟨hs, _, rfl, fun b o e => b6 _ _ (s5 _ _ e) (ne_of_none e hdB), b6 _ _ rd5 ndr.symm, fun q hq => ?_, upd_same, ndh, fun y => ?_⟩
        · obtain ⟨⟨d2, fs2, f1, f2, f3, f4⟩, f5⟩ := full5 q hq
          exact ⟨⟨d2, fs2, f1, f2, b6 _ _ f3 (fun z => f5 (by rw [f1, z])), f4⟩, f5⟩
        · rw [meh, re5, e6]
          obtain ⟨lt2, ep⟩ := List.getElem?_eq_some_iff.mp hp5
          rw [List.take_succ_eq_append_getElem lt2, ep]
          refine ⟨fun q => ?_, fun q => ?_⟩
          · rcases q with (z | ⟨q, h1, h2⟩) | z
            · exact .inl z
            · exact .inr ⟨q, List.mem_append_left _ h1, h2⟩
            · exact .inr ⟨p, List.mem_append_right _ (List.mem_singleton.mpr rfl), z⟩
          · rcases q with z | ⟨q, h1, h2⟩
            · exact .inl (.inl z)
            · rcases List.mem_append.mp h1 with z | z
              · exact .inl (.inr ⟨q, z, h2⟩)
              · rw [List.mem_singleton.mp z] at h2
                exact .inr h2
      · rintro σ H5 ⟨fs, o3, rfl, s5, rd5, full5, d5, nd5, re5⟩
        refine ⟨ks ++ [(cid r.1, .ref d)], _, _, rfl, s5, rd5, fun p hp => ?_, ?_⟩
        · rcases List.mem_append.mp hp with z | z
          · exact (full5 p z).1
          · obtain rfl := List.mem_singleton.mp z
            refine ⟨d, fs, rfl, ndr, d5, nd5, fun x => ?_⟩
            rw [re5, List.length_map, List.take_length]
            refine ⟨fun q => ?_, fun q => ?_⟩
            · rcases q with rfl | ⟨p, h1, h2⟩
              · exact .refl _
              · exact .step (by rw [par]; exact h1) h2
            · rcases reach_one q with z | ⟨p, h1, h2⟩
              · exact .inl z.symm
              · rw [par] at h1
                exact .inr ⟨p, h1, h2⟩
        · rw [List.map_append, nm]
          obtain ⟨lt2, e5⟩ := List.getElem?_eq_some_iff.mp hc
          rw [List.take_succ_eq_append_getElem lt2, List.map_append, e5]
          rfl
    · rintro σ H2 ⟨ks, o2, o3, rfl, s2, rd2, full2, nm⟩
      rw [lenR, List.take_of_length_le (by rw [csOf, List.length_map]; exact Nat.le_refl _)] at nm
      refine ⟨s2 _ _ hfdB, _, rfl, ?_⟩
      have bt : But fd H2 (upd H2 fd (.dK (rs.map rowF))) := but_upd
      refine k _ rd ks (unl s2) hrd ⟨bt _ _ rd2 nfr.symm, ?_, fun p hp => ?_, fun p hp => ?_⟩ nm
      · rw [nm]
        exact m.nd
      · have z : p.1 ∈ ks.map Prod.fst := List.mem_map_of_mem hp
        rw [nm] at z
        exact z
      · obtain ⟨d, fs, e1, e2, e3, e4⟩ := full2 p hp
        exact ⟨d, fs, e1, e2, bt _ _ e3 (ne_of e3 (s2 _ _ hfdB) (by intro z; cases z)), e4⟩
end
end K65

set_option maxHeartbeats 1000000
/-! K65Law7: the law at one source. -/
namespace K65
open PySem L2
section
variable {P : Program} {w : World} {K : PySem.W.Frag} {mg : Str → Option Value} {base : Heap}
theorem cut_eight (ys : List Str) : cutV (ys.map V.str) none (some 8) = (ys.take 8).map V.str := by
  unfold cutV
  rw [List.map_take]
  show ((ys.map V.str).drop 0).take ((if (8 : Int) < 0 then ((8 : Int) + ((ys.map V.str).length : Int)).toNat else min (8 : Int).toNat (ys.map V.str).length) - 0) = _
  rw [if_neg (by decide), List.drop_zero]
  show (ys.map V.str).take (min 8 (ys.map V.str).length - 0) = (ys.map V.str).take 8
  rw [List.take_eq_take_iff]
  omega
theorem KnowsAt.loose {H : Hp} {g : Gr} {kn : Addr} {ks : List (Str × V)} (x : KnowsAt true H g kn ks) : KnowsAt false H g kn ks := ⟨x.at_, x.nd, x.in_, fun p hp => let ⟨d, fs, z1, z2, z3, z4⟩ := x.rd p hp; ⟨d, fs, z1, z2, .inl z3, z4⟩⟩
theorem KnowsAt.lo {H H' : Hp} {g : Gr} {kn k : Addr} {ks : List (Str × V)} {u : HO} (x : KnowsAt true H g kn ks) (hk : H k = some u) (lo : Loose u) (b : But k H H') : KnowsAt true H' g kn ks :=
  ⟨b _ _ x.at_ (ne_of x.at_ hk (loose_dK lo)), x.nd, x.in_, fun p hp => let ⟨d, fs, z1, z2, z3, z4⟩ := x.rd p hp; ⟨d, fs, z1, z2, b _ _ z3 (ne_of z3 hk (loose_dK lo)), z4⟩⟩
/-- what is full stays where an empty dict is written -/
theorem KnowsAt.far {H H' : Hp} {g : Gr} {kn k : Addr} {ks : List (Str × V)} (x : KnowsAt true H g kn ks) (hk : H k = some (.dK [])) (ne : ks ≠ []) (b : But k H H') : KnowsAt true H' g kn ks := by
  refine ⟨b _ _ x.at_ fun z => ?_, x.nd, x.in_, fun p hp => ?_⟩
  · have := x.at_
    rw [z, hk] at this
    cases ks with
    | nil => exact ne rfl
    | cons a r => cases this
  · obtain ⟨d, fs, z1, z2, z3, z4, z5⟩ := x.rd p hp
    refine ⟨d, fs, z1, z2, b _ _ z3 fun z => ?_, z4, z5⟩
    have q := (z5 p.1).mpr (.refl _)
    have z3 : H d = some (.dK (fs.map tr)) := z3
    rw [z, hk] at z3
    cases fs with
    | nil => cases q
    | cons a r => cases z3
theorem sc_right : FnScope ["_law_source", "_law_history_here", "_law_facts", "_law_reached_here", "_law_head", "_law_some", "_law_depth", "_law_plan", "_law_told", "_law_fault", "_law_name", "_law_count"] ["_law_source"] (defScope s_L_right) := ⟨rfl, rfl, rfl, by decide +kernel, rfl, by decide +kernel, by decide +kernel⟩
theorem ok_right (T : W K mg) : FnOk P w K mg base CX0 22 T.a_L_right T.d_L_right ["_law_source"] spLineRight := by
  have b0 := T.F_L_history.binds (ps := ["_law_source", "_law_most"]) fun _ _ _ _ _ _ us hl => match us, hl with | [_, _], _ => rfl
  have b1 := T.F_L_reached.binds (ps := ["_law_facts"]) fun _ _ _ _ _ _ us hl => match us, hl with | [_], _ => rfl
  have b2 := T.F_L_shuffled.binds (ps := ["_law_source", "_law_items"]) fun _ _ _ _ _ _ us hl => match us, hl with | [_, _], _ => rfl
  have b3 := T.F_best.binds (ps := ["history", "names"]) fun _ _ _ _ _ _ us hl => match us, hl with | [_, _], _ => rfl
  have b4 := T.F_L_tests.binds (ps := ["_law_plan", "_law_reached_here", "_law_fault"]) fun _ _ _ _ _ _ us hl => match us, hl with | [_, _, _], _ => rfl
  have b5 := T.F_L_line_right.binds (ps := ["_law_source"]) fun _ _ _ _ _ _ us hl => match us, hl with | [_], _ => rfl
  refine T.F_L_right.ok sc_right (fun vs H Q E h => ?_) (fun cdv A0 outer s H vs Q E hr h => ?_)
  · obtain ⟨s, rfl, _⟩ := h
    rfl
  · obtain ⟨src, rfl, hsrc, k⟩ := h
    have nd := sc_right.nd
    have hu := hu_of hr
    refine ⟨_, pss_cons (ps_asg (pe_call (ok_history T) (hr.mono (by decide)) rfl T.g_L_history T.F_L_history.kp b0 .nil pass0 (pa_cons (pv 0) (pa_cons pe_int pa_nil))) (pg_tup rfl (pgs_cons (pg_name (i := 1) nd rfl (Or.inl rfl)) (pgs_cons (pg_name (i := 2) nd rfl (Or.inl rfl)) pgs_nil))))
      (pss_cons (ps_set (i := 3) nd rfl (Or.inr rfl) (pe_call (ok_reached T) (hr.mono (by decide)) rfl T.g_L_reached T.F_L_reached.kp b1 .nil pass0 (pa_cons (pv 2) pa_nil)))
      (pss_cons (ps_set (i := 4) nd rfl (Or.inl rfl) (pe_ix ix_list (pe_callTy (call_list_dK rfl) (by rfl) T.z_list (by decide +kernel) (pa_cons (pv 2) pa_nil)) (pe_op op_sub (pe_callB call_lenD (by rfl) T.z_len PySem.boot_len (pa_cons (pv 2) pa_nil)) pe_int) fun _ _ => rfl))
      (pss_cons (ps_set (i := 5) nd rfl (Or.inl rfl) (pe_callTy call_tuple_of (by rfl) T.z_tuple (by decide +kernel) (pa_cons
        (pe_slice sl_list (pe_call (ok_shuffled T) (hr.mono (by decide)) rfl T.g_L_shuffled T.F_L_shuffled.kp b2 .nil pass0 (pa_cons (pv 0) (pa_cons (pe_callTy (call_list_dK rfl) (by rfl) T.z_list (by decide +kernel) (pa_cons (pe_dget hu (pv 3) (pv 4) fun _ _ => rfl) pa_nil)) pa_nil))) po_none (po_some pe_int)) pa_nil)))
      (pss_cons (ps_asg (pe_call (ok_best T) (hr.mono (by decide)) rfl T.g_best T.F_best.kp b3 .nil pass0 (pa_cons (pv 1) (pa_cons (pv 5) pa_nil))) (pg_tup rfl (pgs_cons (pg_name (i := 6) nd rfl (Or.inl rfl)) (pgs_cons (pg_name (i := 7) nd rfl (Or.inr rfl)) pgs_nil))))
      (pss_cons (ps_setLc (i := 8) (own := [("_law_fault", 9)]) (g := gName 9) (tt := tYes) (te := tCall spTests [] E0 (tCons (tVar 7) (tCons (tVar 3) (tCons (tVar 9) tNil)))) rfl nd rfl rfl (sw_true rfl rfl rfl (by decide +kernel))
          (pi_tup (pv 5)) (blkOk_by (N := ["_law_source", "_law_history_here", "_law_facts", "_law_reached_here", "_law_head", "_law_some", "_law_depth", "_law_plan", "_law_told", "_law_fault", "_law_name", "_law_count"]) (sc := defScope s_L_right) (by decide +kernel))
          (fun _ _ _ _ _ => pg_name (i := 9) nd rfl (Or.inl rfl)) (fun _ _ _ _ _ => pts_nil)
          (fun _ _ _ _ _ => pe_call (ok_tests T) (hr.mono (by decide)) rfl T.g_L_tests T.F_L_tests.kp b4 .nil pass0 (pa_cons (pv 7) (pa_cons (pv 3) (pa_cons (pv 9) pa_nil)))))
      (pss_cons (ps_if (PW.pt (pw_or
          (pt_cmpR (op_neD hr.units) (pe_lc (own := [("_law_count", 11), ("_law_name", 10)]) (g := gTup K 2 (gCons (gName 11) (gCons (gName 10) gNil))) (tt := tYes) (te := tVar 10) rfl nd (pi_list (pv 8)) (blkOk_by (N := ["_law_source", "_law_history_here", "_law_facts", "_law_reached_here", "_law_head", "_law_some", "_law_depth", "_law_plan", "_law_told", "_law_fault", "_law_name", "_law_count"]) (sc := defScope s_L_right) (by decide +kernel))
              (fun _ _ _ _ _ => pg_tup rfl (pgs_cons (pg_name (i := 11) nd rfl (Or.inl rfl)) (pgs_cons (pg_name (i := 10) nd rfl (Or.inl rfl)) pgs_nil))) (fun _ _ _ _ _ => pts_nil) (fun _ _ _ _ _ => pv 10))
            (pe_callTy call_list_of (by rfl) T.z_list (by decide +kernel) (pa_cons (pv 5) pa_nil)) (nomark _))
          (pw_or1 (pt_cmpR op_ne (pe_callB (cr_max rfl) (by rfl) T.z_max (by decide +kernel) (pa_cons
              (pe_lc (own := [("_law_count", 11), ("_law_name", 10)]) (g := gTup K 2 (gCons (gName 11) (gCons (gName 10) gNil))) (tt := tYes) (te := tVar 11) rfl nd (pi_list (pv 8)) (blkOk_by (N := ["_law_source", "_law_history_here", "_law_facts", "_law_reached_here", "_law_head", "_law_some", "_law_depth", "_law_plan", "_law_told", "_law_fault", "_law_name", "_law_count"]) (sc := defScope s_L_right) (by decide +kernel))
                (fun _ _ _ _ _ => pg_tup rfl (pgs_cons (pg_name (i := 11) nd rfl (Or.inl rfl)) (pgs_cons (pg_name (i := 10) nd rfl (Or.inl rfl)) pgs_nil))) (fun _ _ _ _ _ => pts_nil) (fun _ _ _ _ _ => pv 11)) pa_nil)) (pv 6) (nomark _)))))
        (pss_one ps_never) pss_nil)
      (pss_one (ps_ret (pe_call (ok_line T) (hr.mono (by decide)) rfl T.g_L_line_right T.F_L_line_right.kp b5 .nil pass0 (pa_cons (pv 0) pa_nil)))))))))), ?_⟩
    -- history, facts
    refine ⟨_, rfl, src, rfl, hsrc, fun H1 p1 ha sa kd kn fd rs bs1 so1 hp1 m one few hist1 kn1 ne1 knH no1 nfk => ?_⟩
    refine ⟨p1, _, rfl, .inl (.inl hp1), rfl, _, _, rfl, _, _, rfl, rfl, ?_⟩
    -- reached
    refine ⟨_, rfl, fd, rs, rfl, no1, m, few, fun H2 rd ks s2 hrd kw2 nm => ?_⟩
    have so2 := so1.same s2
    have no2 := no1.same s2
    have kn2 := s2 _ _ kn1
    have lenC : (csOf rs).length = rs.length := List.length_map ..
    have ok := m.ok (by rw [lenC]; omega)
    -- head
    obtain ⟨init, last, el⟩ : ∃ init last, rs = init ++ [last] := ⟨_, _, (List.dropLast_concat_getLast (List.length_pos_iff.mp one)).symm⟩
    refine ⟨_, rfl, fd, _, rfl, no2.at_, fun q hq => ⟨_, rfl, fd, _, rfl, same_new hq _ _ no2.at_, ?_⟩⟩
    have s3 := same_new (o := .lst ((rs.map rowF).map fun kv => kV kv.1)) hq
    have hq3 : upd H2 q (.lst ((rs.map rowF).map fun kv => kV kv.1)) q = some (.lst ((rs.map rowF).map fun kv => kV kv.1)) := upd_same
    generalize upd H2 q (.lst ((rs.map rowF).map fun kv => kV kv.1)) = H3 at s3 hq3 ⊢
    have hix : atI ((rs.map rowF).map fun kv => kV kv.1) (((rs.map rowF).length : Nat) - 1 : Int) = some (.str (cid last.1)) := by
      rw [el]
      have e : (((init ++ [last]).map rowF).length : Int) - 1 = ((init.length : Nat) : Int) := by
        rw [List.length_map, List.length_append]
        show ((init.length + 1 : Nat) : Int) - 1 = _
        omega
      rw [e]
      refine atI_nat ?_
      rw [List.map_append, List.map_append]
      rw [List.getElem?_append_right (by rw [List.length_map, List.length_map]; exact Nat.le_refl _), List.length_map, List.length_map, Nat.sub_self]
      rfl
    refine ⟨_, _, rfl, rfl, q, _, _, _, rfl, rfl, SqL.of hq3, hix, ?_⟩
    have kw3 := kw2.same s3
    have past3 : PastAt T true H3 (grOf (csOf rs)) ⟨ha, sa, kd, T.t_History_DinitD_cut, kn, []⟩ [] :=
      PastAt.same (PastAt.same (H := H1) ⟨hist1, ok, ⟨kn1, .nil, (fun _ h => by cases h), fun _ h => by cases h⟩, ne1, (fun _ h => by cases h), fun _ h => by cases h⟩ s2) s3
    have kn3 := s3 _ _ kn2
    have so3 := so2.same s3
    have bs3 : But src H H3 := fun b o e n => s3 _ _ (s2 _ _ (bs1 _ _ e n))
    have lastm : last.1 ∈ csOf rs := by rw [el]; exact List.mem_map_of_mem (List.mem_append_right _ (List.mem_singleton.mpr rfl))
    have lastn : cid last.1 ∈ (grOf (csOf rs)).ns := List.mem_map_of_mem lastm
    have hasn : ∀ n, n ∈ (grOf (csOf rs)).ns → (valV ks n).isSome = true := fun n hn => valV_names.mpr (by rw [nm]; exact hn)
    obtain ⟨v0, hv0⟩ := Option.isSome_iff_exists.mp (hasn _ lastn)
    obtain ⟨dh, fs, rfl, _, hdh, ndf, ref⟩ := kw3.get hv0
    have ksne : ks ≠ [] := fun z => by rw [z] at hv0; cases hv0
    have gd : DGet H3 rd (.str (cid last.1)) (some (.ref dh)) := by
      have z := DGet.k (k := Sum.inr (cid last.1)) kw3.at_
      rw [valV_inK, hv0] at z
      exact z
    have fsub : ∀ x ∈ fs, x ∈ (grOf (csOf rs)).ns := fun x hx => ((ref x).mp hx).mem ok lastn
    have flen : fs.length ≤ 15 := Nat.le_trans (nodup_len ndf fsub) ok.sm
    -- some
    refine ⟨_, rfl, _, rfl, _, rfl, rd, _, rfl, gd, dh, _, rfl, hdh, fun q2 hq2 => ?_⟩
    have s4 := same_new (o := .lst ((fs.map tr).map fun kv => kV kv.1)) hq2
    have e4 : ((fs.map tr).map fun kv => kV kv.1) = fs.map V.str := by rw [List.map_map]; rfl
    rw [e4] at s4 ⊢
    have hq4 : upd H3 q2 (.lst (fs.map V.str)) q2 = some (.lst (fs.map V.str)) := upd_same
    have kn4 := s4 _ _ kn3
    have past4 := past3.same s4
    have kw4 := kw3.same s4
    have so4 := so3.same s4
    have bs4 : But src H _ := fun b o e n => s4 _ _ (bs3 _ _ e n)
    generalize upd H3 q2 (.lst (fs.map V.str)) = H4 at s4 hq4 kn4 past4 kw4 so4 bs4 ⊢
    refine ⟨src, q2, fs, rfl, so4, hq4, by omega, fun x hx => ok.ids x (fsub x hx), fun H5 D ys bt5 so5 hD4 hD5 pm => ?_⟩
    obtain ⟨ia, ib, ic, hs4⟩ := id so4
    have past5 := past4.but hs4 True.intro bt5
    have kw5 := kw4.lo hs4 True.intro bt5
    have kn5 := bt5 _ _ kn4 (ne_of kn4 hs4 (by intro z; cases z))
    have bs5 := bs4.trans bt5
    refine ⟨_, rfl, D, _, rfl, SqL.of hD5, fun sl hsl => ⟨sl, _, rfl, .inl ⟨SqL.of upd_same, fun ts hts => ?_⟩⟩⟩
    rw [cut_eight] at hts ⊢
    have s6 := (same_new hsl).trans (same_new (o := .tup ((ys.take 8).map V.str)) hts)
    have ts6 : upd (upd H5 sl (.lst ((ys.take 8).map V.str))) ts (.tup ((ys.take 8).map V.str)) ts = some (.tup ((ys.take 8).map V.str)) := upd_same
    generalize upd (upd H5 sl (.lst ((ys.take 8).map V.str))) ts (.tup ((ys.take 8).map V.str)) = H6 at s6 ts6 ⊢
    have past6 := past5.same s6
    have kw6 := kw5.same s6
    have kn6 := s6 _ _ kn5
    have so6 := so5.same s6
    have bs6 : But src H H6 := fun b o e n => s6 _ _ (bs5 _ _ e n)
    have ysub : ∀ x ∈ ys.take 8, x ∈ (grOf (csOf rs)).ns := fun x hx => fsub x (pm.mem_iff.mp (List.mem_of_mem_take hx))
    have ynd : (ys.take 8).Nodup := (pm.nodup_iff.mpr ndf).sublist (List.take_sublist ..)
    have ylen : (ys.take 8).length ≤ 8 := List.length_take_le ..
    have ypos : 1 ≤ (ys.take 8).length := by
      have z : 1 ≤ fs.length := List.length_pos_of_mem ((ref _).mpr (.refl _))
      rw [List.length_take, pm.length_eq]
      omega
    generalize ys.take 8 = S0 at ts6 ysub ynd ylen ypos ⊢
    clear hs4 hD5 hD4 hq4 hq3 pm
    -- best
    refine ⟨_, rfl, _, rfl, true, grOf (csOf rs), ha, sa, kd, _, kn, ts, [], S0, rfl, ⟨past6.hist, ok, past6.kw, past6.ne, .inl (.inl ts6), ypos, by omega, ynd, ysub⟩, fun H7 ks7 p7 v pl S bt7 past7 hp7 pv7 pm7 so7 plan mn => ?_⟩
    refine ⟨p7, _, rfl, .inl (.inl hp7), rfl, _, _, rfl, _, _, rfl, rfl, ?_⟩
    have kw7 := kw6.far kn6 ksne bt7
    have so7' : SrcAt H7 src := so6.but bt7 (hsrc.ne knH)
    have bs7 : But src H H7 := but_step bs6 bt7 knH
    have ts7 := bt7 _ _ ts6 (ne_of ts6 kn6 (by intro z; cases z))
    -- told
    refine ⟨_, rfl, ts, rfl, ⟨_, .inl (.inl ts7)⟩, fun D hD => lc_tup (K := K) (xs := S0.map V.str) (fun i H' => Same H7 H' ∧ ∃ tl : List (Addr × Str), tl.map Prod.snd = S0.take i ∧ H' D = some (.lst (tl.map fun z => .ref z.1)) ∧ ∀ z ∈ tl, H' z.1 = some (.tup [.int (walk (RB (grOf (csOf rs))) z.2 pl).1, .str z.2]))
      ⟨same_new hD, [], rfl, upd_same, fun z h => by cases h⟩ (fun i H' _ q => .inl (.inl (q.1 _ _ ts7))) (fun i x H8 hx q => ?_) fun H8 q => ?_⟩
    · obtain ⟨s8, tl, e8, d8, al8⟩ := q
      rw [List.getElem?_map] at hx
      obtain ⟨f, hf, rfl⟩ := Option.map_eq_some_iff.mp hx
      have fm : f ∈ S := pm7.mem_iff.mpr (List.mem_of_getElem? hf)
      refine ⟨rfl, lcY ⟨_, rfl, _, rfl, _, rfl, grOf (csOf rs), v, pl, rd, ks, S, f, rfl, pv7.same s8, plan, (kw7.same s8).loose, fun n hn => hasn n (ysub n (pm7.mem_iff.mp hn)), fun H9 p9 s9 hp9 => ?_⟩⟩
      rw [(walk_ends plan f fm).1] at hp9
      refine ⟨_, s9 _ _ d8, ?_, ?_, tl ++ [(p9, f)], ?_, ?_, fun z hz => ?_⟩
      · have z := congrArg List.length e8
        rw [List.length_map, List.length_take] at z
        rw [List.length_map]
        exact Nat.lt_of_le_of_lt (show tl.length ≤ 8 by omega) (by decide)
      · exact fun b o e => by rw [upd_ne (ne_of_none e hD)]; exact s9 _ _ (s8 _ _ e)
      · obtain ⟨lt2, ef⟩ := List.getElem?_eq_some_iff.mp hf
        rw [List.take_succ_eq_append_getElem lt2, List.map_append, e8, ef]
        rfl
      · rw [upd_same, List.map_append]
        rfl
      · rcases List.mem_append.mp hz with h | h
        · have z8 := s9 _ _ (al8 z h)
          rw [upd_ne (ne_of z8 (s9 _ _ d8) (by intro z; cases z))]
          exact z8
        · obtain rfl := List.mem_singleton.mp h
          rw [upd_ne (ne_of hp9 (s9 _ _ d8) (by intro z; cases z))]
          exact hp9
    obtain ⟨s8, tl, e8, d8, al8⟩ := q
    rw [List.length_map, List.take_length] at e8
    have tlen : tl.length = S0.length := by rw [← e8, List.length_map]
    have tsz : tl.length ≤ sizeLine := Nat.le_trans (show tl.length ≤ 8 by omega) (by decide)
    have ids0 : ∀ x ∈ S0, IsId x := fun x hx => ok.ids x (ysub x hx)
    -- the names told
    refine ⟨_, rfl, D, rfl, ⟨_, SqL.of d8⟩, fun D2 hD2 => lc_fmL (K := K) tl (fun z => .ref z.1) (fun _ => true) (fun z => .str z.2) (SqL.of d8) tsz hD2 (fun z hz H' B C s9 hB _ => ?_) fun H9 s9 hd9 => ?_⟩
    · exact ⟨z.1, _, rfl, .inl (.inl (s9 _ _ (al8 z hz))), rfl, _, _, rfl, _, _, rfl, rfl, rfl, lcY ⟨_, rfl, hB rfl _ (Same.refl _)⟩⟩
    rw [flt] at hd9
    have e9 : (tl.map fun z => V.str z.2) = S0.map V.str := by rw [← e8, List.map_map]; rfl
    rw [e9] at hd9
    refine ⟨_, rfl, ts, _, rfl, .inr (.inl (.inl (s9 _ _ (s8 _ _ ts7)))), fun l hl => ?_⟩
    have s10 := same_new (o := .lst (S0.map V.str)) hl
    refine ⟨.list (S0.map PyData.str), .list (S0.map PyData.str), .lst (SqL.of (s10 _ _ hd9)) (dpAll_strs S0), .lst (SqL.of upd_same) (dpAll_strs S0), shaped_ids ids0, shaped_ids ids0, _, rfl, ?_⟩
    rw [SeqAt.eqv_refl _ (SeqAt.canLay_of_shaped (shaped_ids ids0))]
    refine iteF ?_
    generalize upd H9 l (.lst (S0.map V.str)) = H10 at s10 ⊢
    have s810 := s9.trans s10
    have d10 := s810 _ _ d8
    -- the most
    refine ⟨_, rfl, D, rfl, ⟨_, SqL.of d10⟩, fun D3 hD3 => lc_fmL (K := K) tl (fun z => .ref z.1) (fun _ => true) (fun z => .int (walk (RB (grOf (csOf rs))) z.2 pl).1) (SqL.of d10) tsz hD3 (fun z hz H' B C s11 hB _ => ?_) fun H11 s11 hd11 => ?_⟩
    · exact ⟨z.1, _, rfl, .inl (.inl (s11 _ _ (s810 _ _ (al8 z hz)))), rfl, _, _, rfl, _, _, rfl, rfl, rfl, lcY ⟨_, rfl, hB rfl _ (Same.refl _)⟩⟩
    rw [flt] at hd11
    refine ⟨D3, tl.map fun z => ((walk (RB (grOf (csOf rs))) z.2 pl).1 : Int), rfl, SqL.of (by rw [hd11, List.map_map]; rfl), by rw [List.length_map]; omega, fun m0 hm0 hmax => ?_⟩
    have em : m0 = (pl.depth : Int) := by
      refine Int.le_antisymm ?_ ?_
      · obtain ⟨z, hz, rfl⟩ := List.mem_map.mp hm0
        have zm : z.2 ∈ S := pm7.mem_iff.mpr (by rw [← e8]; exact List.mem_map_of_mem hz)
        exact Int.ofNat_le.mpr (walk_ends plan z.2 zm).2
      · obtain ⟨x, hx, ex⟩ := walk_most plan
        have xm : x ∈ tl.map Prod.snd := by rw [e8]; exact pm7.mem_iff.mp hx
        obtain ⟨z, hz, rfl⟩ := List.mem_map.mp xm
        rw [← ex]
        exact hmax _ (List.mem_map.mpr ⟨z, hz, rfl⟩)
    rw [em]
    refine ⟨_, rfl, rfl, _, rfl, ?_⟩
    rw [decide_eq_true rfl]
    refine iteF ?_
    have s711 := (s8.trans s810).trans s11
    exact ⟨_, rfl, src, rfl, so7'.same s711, fun H12 bt12 so12 => k H12 (fun b o e n => bt12 _ _ (s711 _ _ (bs7 _ _ e n)) n) so12⟩
end
end K65

set_option maxHeartbeats 200000
/-! K65Law8: the law. -/
namespace K65
open PySem L2 PySem.Spec PyProof.Rows
section
variable {X : Cx}
/-- a + b, two lists, whether written or read only -/
def rCatQ (K : PySem.W.Frag) : R2 := fun x y H Q => ∃ a b xs ys, x = .ref a ∧ y = .ref b ∧ SqL K H a xs ∧ SqL K H b ys ∧ xs.length + ys.length ≤ sizeLine ∧ ∀ p, H p = none → Q (.ref p) (upd H p (.lst (xs ++ ys)))
theorem op_catQ : OpR X (binaryOp .Add) (rCatQ X.K) := by
  intro pins s σ H x y v u Q I rx ry pre
  obtain ⟨a, b, xs, ys, rfl, rfl, sa, sb, sz, fin⟩ := pre
  cases rx
  cases ry
  obtain ⟨vs, ra, pa, _⟩ := I.list sa
  obtain ⟨ws, rb, pb, _⟩ := I.list sb
  obtain ⟨⟨c1, d1, t1, l1⟩, e1, k1, n1, z1⟩ := pa.isList
  obtain ⟨⟨c2, d2, t2, l2⟩, e2, k2, n2, z2⟩ := pb.isList
  simp only at k1 z1 k2 z2
  subst k1 z1 k2 z2
  have z3 : vs.toArray.size + ws.toArray.size ≤ sizeLine := by
    rw [List.size_toArray, List.size_toArray, ← ra.length, ← rb.length]
    exact sz
  refine concat_meets ⟨_, e1, rfl⟩ ⟨_, e2, rfl⟩ noFill_list_add seq_list_add PySem.F.slot_list_add PySem.F.entry_list_add (PySem.F.args_list_add_2 _ _) (list_addW a b vs.toArray ws.toArray n1 n2 d1 d2 l1 l2 z3) ⟨e1, e2, ?_⟩
  rw [show vs.toArray ++ ws.toArray = (vs ++ ws).toArray by simp]
  exact ⟨.ref _, _, I.lnew (t' := s.toks) (ra.append rb) (by rw [List.length_append]; exact sz), rfl, fin _ I.fresh⟩
end
section
variable {P : Program} {w : World} {K : PySem.W.Frag} {mg : Str → Option Value} {base : Heap}
theorem cut_four (xs : List V) : ∃ ys, cutV xs none (some 4) = ys ∧ ys.length ≤ 4 ∧ ys.Sublist xs := by
  refine ⟨_, rfl, ?_, ?_⟩
  · unfold cutV
    rw [List.length_take]
    have q : HT.sIx xs.length xs.length (some 4) ≤ 4 := by
      show (if (4 : Int) < 0 then ((4 : Int) + (xs.length : Int)).toNat else min (4 : Int).toNat xs.length) ≤ 4
      rw [if_neg (by decide)]
      exact Nat.min_le_left _ _
    omega
  · exact (List.take_sublist ..).trans (List.drop_sublist ..)
def spLaw (K : PySem.W.Frag) : Sp := fun vs H Q _ => ∃ (a : Addr) (ns : List Int), vs = [.ref a] ∧ SqL K H a (ns.map V.int) ∧ ns.length ≤ 63 ∧ ∀ H', Q (.bl true) H'
theorem sc_law : FnScope ["_law_script", "_law_k", "_law_cell"] ["_law_script"] (defScope s_law) := ⟨rfl, rfl, rfl, by decide +kernel, rfl, by decide +kernel, by decide +kernel⟩
theorem ok_law (T : W K mg) : FnOk P w K mg base CX0 23 T.a_law T.d_law ["_law_script"] (spLaw K) := by
  have b0 := T.F_L_right.binds (ps := ["_law_source"]) fun _ _ _ _ _ _ us hl => match us, hl with | [_], _ => rfl
  refine T.F_law.ok sc_law (fun vs H Q E h => ?_) (fun cdv A0 outer s H vs Q E hr h => ?_)
  · obtain ⟨a, ns, rfl, _⟩ := h
    rfl
  · obtain ⟨a, ns, rfl, ha, few, k⟩ := h
    have nd := sc_law.nd
    refine ⟨_, pss_cons (ps_for PassesOwn.never rfl (pi_enum (by rfl) T.z_enumerate (pa_cons (pe_slice sl_list (pe_op op_catQ (pv 0) (pe_lst (pa_cons pe_int pa_nil))) po_none (po_some pe_int)) pa_nil))
        (pg_tup rfl (pgs_cons (pg_name (i := 1) nd rfl (Or.inl rfl)) (pgs_cons (pg_name (i := 2) nd rfl (Or.inl rfl)) pgs_nil)))
        (pss_one (ps_if (pt_not (pt_val (pe_call (ok_right T) hr rfl T.g_L_right T.F_L_right.kp b0 .nil pass0 (pa_cons (pe_lst (pa_cons
            (pe_op op_mul (pv 2) (pe_callTy call_int1 (by rfl) T.z_int (by decide +kernel) (pa_cons (pe_cmpR op_ge (pv 2) (pe_op op_pow pe_int pe_int) (nomark _)) pa_nil)))
            (pa_cons (pe_op op_add (pe_op op_mod (pe_callTy call_int1 (by rfl) T.z_int (by decide +kernel) (pa_cons (pv 2) pa_nil)) pe_int) (pe_op op_mul pe_int (pv 1))) (pa_cons pe_int pa_nil)))) pa_nil))))
          (pss_one ps_never) pss_nil)))
      (pss_one (ps_ret pe_bl)), ?_⟩
    have ha2 : ∀ {H' : Hp}, Same H H' → SqL K H' a (ns.map V.int) := fun s' => by
      rcases ha with (h | ⟨o, h⟩) | h
      · exact .inl (.inl (s' _ _ h))
      · exact .inl (.inr ⟨o, s' _ _ h⟩)
      · exact .inr h
    refine ⟨_, rfl, (by show 1 ≤ sizeLine; decide), fun l hl => ⟨a, l, _, _, rfl, rfl, ha2 (same_new hl), SqL.of upd_same, ?_, fun p hp => ⟨_, rfl, p, _, rfl, SqL.of upd_same, fun q hq => ?_⟩⟩⟩
    · rw [List.length_map]
      exact Nat.le_trans (show ns.length + 1 ≤ 64 by omega) (by decide)
    obtain ⟨ys, ey, _, sub⟩ := cut_four (ns.map V.int ++ [.int 0])
    rw [ey]
    have allI : ∀ y ∈ ys, ∃ i : Int, y = .int i := fun y hy => by
      rcases List.mem_append.mp (sub.subset hy) with z | z
      · obtain ⟨i, _, rfl⟩ := List.mem_map.mp z
        exact ⟨i, rfl⟩
      · exact ⟨0, List.mem_singleton.mp z⟩
    refine ⟨q, ys, rfl, SqL.of upd_same, ?_⟩
    refine for_it (walk_enum (xs := ys)) (fun i σ H' => (∃ b c, σ = [some (.ref a), b, c]) ∧ H' q = some (.lst ys)) ⟨⟨_, _, rfl⟩, upd_same⟩ (fun i σ H' _ z => SqL.of z.2) ?_ ?_
    · rintro i v σ H1 H2 hi ⟨⟨b, c, rfl⟩, hq1⟩ ⟨t, x, y, rfl, ht, rfl, ex, hy⟩
      cases ex
      obtain ⟨n, rfl⟩ := allI y (List.mem_of_getElem? hy)
      have s2 := same_new (o := .tup [.int (i : Nat), .int n]) ht
      refine ⟨t, _, rfl, .inl (.inl upd_same), rfl, _, _, rfl, _, _, rfl, rfl, ?_⟩
      have hq2 := s2 _ _ hq1
      generalize upd H1 t (.tup [.int (i : Nat), .int n]) = H2 at s2 hq2 ⊢
      refine ⟨_, rfl, _, rfl, _, _, rfl, rfl, ⟨by decide, by decide, by decide⟩, _, _, rfl, rfl, .inr ⟨_, rfl, _, _, rfl, rfl, .inr ?_, ?_⟩⟩
      · constructor <;> split <;> decide
      refine ⟨_, rfl, .inl ⟨_, rfl, _, _, rfl, rfl, (by show (0 : Int) < 2147483647; decide), _, rfl, _, _, rfl, rfl, .inl ⟨by decide, by decide⟩, _, _, rfl, rfl, (by show 3 ≤ sizeLine; decide), fun s0 hs0 => ?_⟩⟩
      refine ⟨s0, rfl, ⟨_, _, _, upd_same⟩, fun H3 bt3 _ => ⟨true, rfl, iteF ⟨⟨_, _, rfl⟩, ?_⟩⟩⟩
      exact bt3 _ _ (same_new hs0 _ _ hq2) (ne_of_none hq2 hs0)
    · rintro σ H1 ⟨⟨b, c, rfl⟩, hq1⟩
      exact k H1
end
end K65

set_option maxHeartbeats 0
/-! K65Final: the law holds. -/
open PySem PySem.W PySem.Calls PyProof.Rows
theorem PySem.Challenge.cw_forkhaul_k65_whole_lines_roots_and_searc_holds : PySem.Challenge.rw_forkhaul_k65_whole_lines_roots_and_searc.Holds := by
  w_on; o_law
  refine HandSHeadRun.head_any (r := OpenLaw.row PySem.Challenge.rw_forkhaul_k65_whole_lines_roots_and_searc) (q := view (OpenLaw.row PySem.Challenge.rw_forkhaul_k65_whole_lines_roots_and_searc).prog [75]) (H := K65.hk) (ob := K65.ob) (M := 7000) (loose := K65.loose) (d := HandSHeadRun.topDef (OpenLaw.row PySem.Challenge.rw_forkhaul_k65_whole_lines_roots_and_searc).prog 75) (kwd := []) K65.ob_eq
    (by kernel_rfl) (fun s => by kernel_rfl) K65.run (by kernel_rfl) (by kernel_rfl) (by kernel_rfl) (by rfl) (by first | assumption | decide +kernel) (by decide +kernel) ⟨rfl, rfl, rfl, rfl, rfl, by decide +kernel⟩ ?hw ?hc
  case hw => w_witness2
  case hc =>
    refine L2.walk_ofE (l := PySem.Challenge.rw_forkhaul_k65_whole_lines_roots_and_searc) (n := 63) (k := 23) (x := "_law_script") (CX := L2.CX0) rfl (by decide) (by kernel_rfl) ⟨rfl, by decide, by decide⟩ ?F (fun _ _ _ _ z => z)
    intro w mg fa h Y G hmg0
    obtain ⟨K, KX, ex, c⟩ := Y
    have hmg : mg ("law" : PySem.Str) = some (.ref fa) := by
      have e : (HandSHeadRun.topDef (OpenLaw.row PySem.Challenge.rw_forkhaul_k65_whole_lines_roots_and_searc).prog 75).name = ("law" : PySem.Str) := by kernel_rfl
      rw [← e]
      exact hmg0
    obtain ⟨T, eT, hb⟩ := K65.mkW KX G ex c
    have z : some (Value.ref T.a_law) = some (Value.ref fa) := T.g_law.symm.trans hmg
    have z2 : T.a_law = fa := Value.ref.inj (Option.some.inj z)
    subst z2
    exact ⟨K, T.d_law, K65.spLaw K, KX, hb, fun H a ns hl _ hS => ⟨a, ns, rfl, hS, hl, fun _ => rfl⟩, fun base _ _ => K65.ok_law T⟩
