import PyProof.Rows.All
import Wide.All
import OpenK.AllK
import Wide.FinOn
import HandS.ForMost
import HandS.Defaults
import HandS.ClsMeth
import HandS.Codes
import HandS.IsInst
import HandS.Style
import HandS.NoneIn
import HandS.DictComp
import HandS.DictTup
import HandS.TupSets
import HandS.TupLen
import HandS.Walk
import HandS.More
import HandS.HeadHook1
import HandS.HeadHook2
import HandS.HeadHook3
import HandS.HeadHook4
import PySem.Challenge.RW_quorumdrift_k15_whole_home_kept_by_drift
import KE.KStateDown
import Lean
import HandS.Head0
import HandS.Head1
import HandS.Head2
import HandS.HeadEnd
import KE.DataEq
import KE.KDictCopyH
import KE.KDictSum
import HandS.Conv
import HandS.OwnEq
set_option Elab.async false
set_option linter.all false
set_option maxRecDepth 100000
set_option maxHeartbeats 4000000
/-! The text by places, the defs as data (printed by gen.py). -/
namespace Qd
open PySem PySem.Spec PyProof.Rows L2
def top (i : Nat) : Stmt := PySem.Challenge.pw_quorumdrift_k15_whole_home_kept_by_drift.main.body.getD i (.Pass ⟨0, 0, 0, 0⟩)
abbrev s_check_replica : Stmt := top 15
abbrev s_check_replicas : Stmt := top 16
abbrev s_first_wrong_place : Stmt := top 17
abbrev s_check_list : Stmt := top 18
abbrev s_index_of : Stmt := top 19
abbrev s_swap_at : Stmt := top 20
abbrev s_require_key : Stmt := top 24
abbrev s_wrong_replica : Stmt := top 25
abbrev s_State_init : Stmt := inClass (top 27) 1
abbrev s_State_list_of : Stmt := inClass (top 27) 5
abbrev s_State_lists : Stmt := inClass (top 27) 6
abbrev s_State_all_keys : Stmt := inClass (top 27) 7
abbrev s_State_says : Stmt := inClass (top 27) 8
abbrev s_State_with_list : Stmt := inClass (top 27) 10
abbrev s_State_len : Stmt := inClass (top 27) 13
abbrev s_first_wrong_pair : Stmt := top 29
abbrev s_Reading_init : Stmt := inClass (top 30) 0
abbrev s_Reading_pairs : Stmt := inClass (top 30) 3
abbrev s_read : Stmt := top 31
abbrev s_before_dict : Stmt := top 32
abbrev s_is_swap : Stmt := top 34
abbrev s_swap_pair : Stmt := top 35
abbrev s_is_silent : Stmt := top 36
abbrev s_other_replicas : Stmt := top 37
abbrev s_swapped_state : Stmt := top 38
abbrev s_Run_init : Stmt := inClass (top 41) 0
abbrev s_Run_steps : Stmt := inClass (top 41) 3
abbrev s_Run_len : Stmt := inClass (top 41) 8
abbrev s_state_after : Stmt := top 44
abbrev s_play : Stmt := top 45
abbrev s_homeward_swaps : Stmt := top 47
abbrev s_homeward : Stmt := top 48
abbrev s_is_settled : Stmt := top 49
abbrev s_settle_run : Stmt := top 50
abbrev s_home_list : Stmt := top 51
abbrev s_settle : Stmt := top 52
abbrev s_settle_length : Stmt := top 53
abbrev s_boxL : Stmt := top 55
abbrev s_takeL : Stmt := top 56
abbrev s_keysL : Stmt := top 57
abbrev s_orderL : Stmt := top 58
abbrev s_likeL : Stmt := top 59
abbrev s_quietL : Stmt := top 60
abbrev s_swappedL : Stmt := top 61
abbrev s_ableL : Stmt := top 62
abbrev s_walkL : Stmt := top 63
abbrev s_countL : Stmt := top 64
abbrev s_ringL : Stmt := top 65
abbrev s_boundL : Stmt := top 66
abbrev s_listsL : Stmt := top 67
abbrev s_looseL : Stmt := top 68
abbrev s_stateL : Stmt := top 69
abbrev s_votesL : Stmt := top 70
abbrev s_nearL : Stmt := top 72
abbrev s_homingL : Stmt := top 73
abbrev s_apartL : Stmt := top 74
abbrev s_state_isL : Stmt := top 75
abbrev s_count_apartL : Stmt := top 76
abbrev s_handedL : Stmt := top 77
abbrev s_partsL : Stmt := top 78
abbrev s_one_by_oneL : Stmt := top 79
abbrev s_cutL : Stmt := top 80
abbrev s_law : Stmt := top 81
def d_check_replica : He.DefD := ⟨("check_replica", none), "check_replica", "check_replica", defArgs s_check_replica, defBody s_check_replica, defScope s_check_replica, [], []⟩
abbrev F_check_replica (K : PySem.W.Frag) (f : Addr) (fd : FuncData) : Prop := FunD K "check_replica" "check_replica" (defArgs s_check_replica) (defBody s_check_replica) (defScope s_check_replica) [] [] f fd
def d_check_replicas : He.DefD := ⟨("check_replicas", none), "check_replicas", "check_replicas", defArgs s_check_replicas, defBody s_check_replicas, defScope s_check_replicas, [], []⟩
abbrev F_check_replicas (K : PySem.W.Frag) (f : Addr) (fd : FuncData) : Prop := FunD K "check_replicas" "check_replicas" (defArgs s_check_replicas) (defBody s_check_replicas) (defScope s_check_replicas) [] [] f fd
def d_first_wrong_place : He.DefD := ⟨("first_wrong_place", none), "first_wrong_place", "first_wrong_place", defArgs s_first_wrong_place, defBody s_first_wrong_place, defScope s_first_wrong_place, [], []⟩
abbrev F_first_wrong_place (K : PySem.W.Frag) (f : Addr) (fd : FuncData) : Prop := FunD K "first_wrong_place" "first_wrong_place" (defArgs s_first_wrong_place) (defBody s_first_wrong_place) (defScope s_first_wrong_place) [] [] f fd
def d_check_list : He.DefD := ⟨("check_list", none), "check_list", "check_list", defArgs s_check_list, defBody s_check_list, defScope s_check_list, [], []⟩
abbrev F_check_list (K : PySem.W.Frag) (f : Addr) (fd : FuncData) : Prop := FunD K "check_list" "check_list" (defArgs s_check_list) (defBody s_check_list) (defScope s_check_list) [] [] f fd
def d_index_of : He.DefD := ⟨("index_of", none), "index_of", "index_of", defArgs s_index_of, defBody s_index_of, defScope s_index_of, [], []⟩
abbrev F_index_of (K : PySem.W.Frag) (f : Addr) (fd : FuncData) : Prop := FunD K "index_of" "index_of" (defArgs s_index_of) (defBody s_index_of) (defScope s_index_of) [] [] f fd
def d_swap_at : He.DefD := ⟨("swap_at", none), "swap_at", "swap_at", defArgs s_swap_at, defBody s_swap_at, defScope s_swap_at, [], []⟩
abbrev F_swap_at (K : PySem.W.Frag) (f : Addr) (fd : FuncData) : Prop := FunD K "swap_at" "swap_at" (defArgs s_swap_at) (defBody s_swap_at) (defScope s_swap_at) [] [] f fd
def d_require_key : He.DefD := ⟨("require_key", none), "require_key", "require_key", defArgs s_require_key, defBody s_require_key, defScope s_require_key, [], []⟩
abbrev F_require_key (K : PySem.W.Frag) (f : Addr) (fd : FuncData) : Prop := FunD K "require_key" "require_key" (defArgs s_require_key) (defBody s_require_key) (defScope s_require_key) [] [] f fd
def d_wrong_replica : He.DefD := ⟨("_wrong_replica", none), "_wrong_replica", "_wrong_replica", defArgs s_wrong_replica, defBody s_wrong_replica, defScope s_wrong_replica, [], []⟩
abbrev F_wrong_replica (K : PySem.W.Frag) (f : Addr) (fd : FuncData) : Prop := FunD K "_wrong_replica" "_wrong_replica" (defArgs s_wrong_replica) (defBody s_wrong_replica) (defScope s_wrong_replica) [] [] f fd
def d_State_init : He.DefD := ⟨("State", some "__init__"), "__init__", "State.__init__", defArgs s_State_init, defBody s_State_init, defScope s_State_init, [], []⟩
abbrev F_State_init (K : PySem.W.Frag) (f : Addr) (fd : FuncData) : Prop := FunD K "__init__" "State.__init__" (defArgs s_State_init) (defBody s_State_init) (defScope s_State_init) [] [] f fd
def d_State_list_of : He.DefD := ⟨("State", some "list_of"), "list_of", "State.list_of", defArgs s_State_list_of, defBody s_State_list_of, defScope s_State_list_of, [], []⟩
abbrev F_State_list_of (K : PySem.W.Frag) (f : Addr) (fd : FuncData) : Prop := FunD K "list_of" "State.list_of" (defArgs s_State_list_of) (defBody s_State_list_of) (defScope s_State_list_of) [] [] f fd
def d_State_lists : He.DefD := ⟨("State", some "lists"), "lists", "State.lists", defArgs s_State_lists, defBody s_State_lists, defScope s_State_lists, [], []⟩
abbrev F_State_lists (K : PySem.W.Frag) (f : Addr) (fd : FuncData) : Prop := FunD K "lists" "State.lists" (defArgs s_State_lists) (defBody s_State_lists) (defScope s_State_lists) [] [] f fd
def d_State_all_keys : He.DefD := ⟨("State", some "all_keys"), "all_keys", "State.all_keys", defArgs s_State_all_keys, defBody s_State_all_keys, defScope s_State_all_keys, [], []⟩
abbrev F_State_all_keys (K : PySem.W.Frag) (f : Addr) (fd : FuncData) : Prop := FunD K "all_keys" "State.all_keys" (defArgs s_State_all_keys) (defBody s_State_all_keys) (defScope s_State_all_keys) [] [] f fd
def d_State_says : He.DefD := ⟨("State", some "says"), "says", "State.says", defArgs s_State_says, defBody s_State_says, defScope s_State_says, [], []⟩
abbrev F_State_says (K : PySem.W.Frag) (f : Addr) (fd : FuncData) : Prop := FunD K "says" "State.says" (defArgs s_State_says) (defBody s_State_says) (defScope s_State_says) [] [] f fd
def d_State_with_list : He.DefD := ⟨("State", some "with_list"), "with_list", "State.with_list", defArgs s_State_with_list, defBody s_State_with_list, defScope s_State_with_list, [], []⟩
abbrev F_State_with_list (K : PySem.W.Frag) (f : Addr) (fd : FuncData) : Prop := FunD K "with_list" "State.with_list" (defArgs s_State_with_list) (defBody s_State_with_list) (defScope s_State_with_list) [] [] f fd
def d_State_len : He.DefD := ⟨("State", some "__len__"), "__len__", "State.__len__", defArgs s_State_len, defBody s_State_len, defScope s_State_len, [], []⟩
abbrev F_State_len (K : PySem.W.Frag) (f : Addr) (fd : FuncData) : Prop := FunD K "__len__" "State.__len__" (defArgs s_State_len) (defBody s_State_len) (defScope s_State_len) [] [] f fd
def d_first_wrong_pair : He.DefD := ⟨("_first_wrong_pair", none), "_first_wrong_pair", "_first_wrong_pair", defArgs s_first_wrong_pair, defBody s_first_wrong_pair, defScope s_first_wrong_pair, [], []⟩
abbrev F_first_wrong_pair (K : PySem.W.Frag) (f : Addr) (fd : FuncData) : Prop := FunD K "_first_wrong_pair" "_first_wrong_pair" (defArgs s_first_wrong_pair) (defBody s_first_wrong_pair) (defScope s_first_wrong_pair) [] [] f fd
def d_Reading_init : He.DefD := ⟨("Reading", some "__init__"), "__init__", "Reading.__init__", defArgs s_Reading_init, defBody s_Reading_init, defScope s_Reading_init, [], []⟩
abbrev F_Reading_init (K : PySem.W.Frag) (f : Addr) (fd : FuncData) : Prop := FunD K "__init__" "Reading.__init__" (defArgs s_Reading_init) (defBody s_Reading_init) (defScope s_Reading_init) [] [] f fd
def d_Reading_pairs : He.DefD := ⟨("Reading", some "pairs"), "pairs", "Reading.pairs", defArgs s_Reading_pairs, defBody s_Reading_pairs, defScope s_Reading_pairs, [], []⟩
abbrev F_Reading_pairs (K : PySem.W.Frag) (f : Addr) (fd : FuncData) : Prop := FunD K "pairs" "Reading.pairs" (defArgs s_Reading_pairs) (defBody s_Reading_pairs) (defScope s_Reading_pairs) [] [] f fd
def d_read : He.DefD := ⟨("read", none), "read", "read", defArgs s_read, defBody s_read, defScope s_read, [], []⟩
abbrev F_read (K : PySem.W.Frag) (f : Addr) (fd : FuncData) : Prop := FunD K "read" "read" (defArgs s_read) (defBody s_read) (defScope s_read) [] [] f fd
def d_before_dict : He.DefD := ⟨("before_dict", none), "before_dict", "before_dict", defArgs s_before_dict, defBody s_before_dict, defScope s_before_dict, [], []⟩
abbrev F_before_dict (K : PySem.W.Frag) (f : Addr) (fd : FuncData) : Prop := FunD K "before_dict" "before_dict" (defArgs s_before_dict) (defBody s_before_dict) (defScope s_before_dict) [] [] f fd
def d_is_swap : He.DefD := ⟨("is_swap", none), "is_swap", "is_swap", defArgs s_is_swap, defBody s_is_swap, defScope s_is_swap, [], []⟩
abbrev F_is_swap (K : PySem.W.Frag) (f : Addr) (fd : FuncData) : Prop := FunD K "is_swap" "is_swap" (defArgs s_is_swap) (defBody s_is_swap) (defScope s_is_swap) [] [] f fd
def d_swap_pair : He.DefD := ⟨("swap_pair", none), "swap_pair", "swap_pair", defArgs s_swap_pair, defBody s_swap_pair, defScope s_swap_pair, [], []⟩
abbrev F_swap_pair (K : PySem.W.Frag) (f : Addr) (fd : FuncData) : Prop := FunD K "swap_pair" "swap_pair" (defArgs s_swap_pair) (defBody s_swap_pair) (defScope s_swap_pair) [] [] f fd
def d_is_silent : He.DefD := ⟨("is_silent", none), "is_silent", "is_silent", defArgs s_is_silent, defBody s_is_silent, defScope s_is_silent, [], []⟩
abbrev F_is_silent (K : PySem.W.Frag) (f : Addr) (fd : FuncData) : Prop := FunD K "is_silent" "is_silent" (defArgs s_is_silent) (defBody s_is_silent) (defScope s_is_silent) [] [] f fd
def d_other_replicas : He.DefD := ⟨("_other_replicas", none), "_other_replicas", "_other_replicas", defArgs s_other_replicas, defBody s_other_replicas, defScope s_other_replicas, [], []⟩
abbrev F_other_replicas (K : PySem.W.Frag) (f : Addr) (fd : FuncData) : Prop := FunD K "_other_replicas" "_other_replicas" (defArgs s_other_replicas) (defBody s_other_replicas) (defScope s_other_replicas) [] [] f fd
def d_swapped_state : He.DefD := ⟨("swapped_state", none), "swapped_state", "swapped_state", defArgs s_swapped_state, defBody s_swapped_state, defScope s_swapped_state, [], []⟩
abbrev F_swapped_state (K : PySem.W.Frag) (f : Addr) (fd : FuncData) : Prop := FunD K "swapped_state" "swapped_state" (defArgs s_swapped_state) (defBody s_swapped_state) (defScope s_swapped_state) [] [] f fd
def d_Run_init : He.DefD := ⟨("Run", some "__init__"), "__init__", "Run.__init__", defArgs s_Run_init, defBody s_Run_init, defScope s_Run_init, [], []⟩
abbrev F_Run_init (K : PySem.W.Frag) (f : Addr) (fd : FuncData) : Prop := FunD K "__init__" "Run.__init__" (defArgs s_Run_init) (defBody s_Run_init) (defScope s_Run_init) [] [] f fd
def d_Run_steps : He.DefD := ⟨("Run", some "steps"), "steps", "Run.steps", defArgs s_Run_steps, defBody s_Run_steps, defScope s_Run_steps, [], []⟩
abbrev F_Run_steps (K : PySem.W.Frag) (f : Addr) (fd : FuncData) : Prop := FunD K "steps" "Run.steps" (defArgs s_Run_steps) (defBody s_Run_steps) (defScope s_Run_steps) [] [] f fd
def d_Run_len : He.DefD := ⟨("Run", some "__len__"), "__len__", "Run.__len__", defArgs s_Run_len, defBody s_Run_len, defScope s_Run_len, [], []⟩
abbrev F_Run_len (K : PySem.W.Frag) (f : Addr) (fd : FuncData) : Prop := FunD K "__len__" "Run.__len__" (defArgs s_Run_len) (defBody s_Run_len) (defScope s_Run_len) [] [] f fd
def d_state_after : He.DefD := ⟨("_state_after", none), "_state_after", "_state_after", defArgs s_state_after, defBody s_state_after, defScope s_state_after, [], []⟩
abbrev F_state_after (K : PySem.W.Frag) (f : Addr) (fd : FuncData) : Prop := FunD K "_state_after" "_state_after" (defArgs s_state_after) (defBody s_state_after) (defScope s_state_after) [] [] f fd
def d_play : He.DefD := ⟨("play", none), "play", "play", defArgs s_play, defBody s_play, defScope s_play, [], []⟩
abbrev F_play (K : PySem.W.Frag) (f : Addr) (fd : FuncData) : Prop := FunD K "play" "play" (defArgs s_play) (defBody s_play) (defScope s_play) [] [] f fd
def d_homeward_swaps : He.DefD := ⟨("_homeward_swaps", none), "_homeward_swaps", "_homeward_swaps", defArgs s_homeward_swaps, defBody s_homeward_swaps, defScope s_homeward_swaps, [], []⟩
abbrev F_homeward_swaps (K : PySem.W.Frag) (f : Addr) (fd : FuncData) : Prop := FunD K "_homeward_swaps" "_homeward_swaps" (defArgs s_homeward_swaps) (defBody s_homeward_swaps) (defScope s_homeward_swaps) [] [] f fd
def d_homeward : He.DefD := ⟨("homeward", none), "homeward", "homeward", defArgs s_homeward, defBody s_homeward, defScope s_homeward, [], []⟩
abbrev F_homeward (K : PySem.W.Frag) (f : Addr) (fd : FuncData) : Prop := FunD K "homeward" "homeward" (defArgs s_homeward) (defBody s_homeward) (defScope s_homeward) [] [] f fd
def d_is_settled : He.DefD := ⟨("is_settled", none), "is_settled", "is_settled", defArgs s_is_settled, defBody s_is_settled, defScope s_is_settled, [], []⟩
abbrev F_is_settled (K : PySem.W.Frag) (f : Addr) (fd : FuncData) : Prop := FunD K "is_settled" "is_settled" (defArgs s_is_settled) (defBody s_is_settled) (defScope s_is_settled) [] [] f fd
/-- the keyword-only default x of the def at f, if it is an object -/
def kwAt (f : Str × Option Str) (x : Str) (K : PySem.W.Frag) : Addr := match K.lookup (He.fAd K f) with
  | some ⟨_, _, .func fd, _⟩ => (match fd.kwdefaults with
    | .ref D => (match PySem.W.nsIn K D x with
      | some (some (.ref a)) => a
      | _ => 0)
    | _ => 0)
  | _ => 0
def d_settle_run : He.DefD := ⟨("settle_run", none), "settle_run", "settle_run", defArgs s_settle_run, defBody s_settle_run, defScope s_settle_run, [], [("replicas", .adr (kwAt ("settle_run", none) "replicas")), ("picks", .adr (kwAt ("settle_run", none) "picks"))]⟩
abbrev F_settle_run (K : PySem.W.Frag) (f : Addr) (fd : FuncData) : Prop := FunD K "settle_run" "settle_run" (defArgs s_settle_run) (defBody s_settle_run) (defScope s_settle_run) [] [("replicas", .ref (kwAt ("settle_run", none) "replicas" K)), ("picks", .ref (kwAt ("settle_run", none) "picks" K))] f fd
def d_home_list : He.DefD := ⟨("home_list", none), "home_list", "home_list", defArgs s_home_list, defBody s_home_list, defScope s_home_list, [], []⟩
abbrev F_home_list (K : PySem.W.Frag) (f : Addr) (fd : FuncData) : Prop := FunD K "home_list" "home_list" (defArgs s_home_list) (defBody s_home_list) (defScope s_home_list) [] [] f fd
def d_settle : He.DefD := ⟨("settle", none), "settle", "settle", defArgs s_settle, defBody s_settle, defScope s_settle, [], [("replicas", .adr (kwAt ("settle", none) "replicas"))]⟩
abbrev F_settle (K : PySem.W.Frag) (f : Addr) (fd : FuncData) : Prop := FunD K "settle" "settle" (defArgs s_settle) (defBody s_settle) (defScope s_settle) [] [("replicas", .ref (kwAt ("settle", none) "replicas" K))] f fd
def d_settle_length : He.DefD := ⟨("settle_length", none), "settle_length", "settle_length", defArgs s_settle_length, defBody s_settle_length, defScope s_settle_length, [], [("replicas", .adr (kwAt ("settle_length", none) "replicas"))]⟩
abbrev F_settle_length (K : PySem.W.Frag) (f : Addr) (fd : FuncData) : Prop := FunD K "settle_length" "settle_length" (defArgs s_settle_length) (defBody s_settle_length) (defScope s_settle_length) [] [("replicas", .ref (kwAt ("settle_length", none) "replicas" K))] f fd
def d_boxL : He.DefD := ⟨("_law_box", none), "_law_box", "_law_box", defArgs s_boxL, defBody s_boxL, defScope s_boxL, [], []⟩
abbrev F_boxL (K : PySem.W.Frag) (f : Addr) (fd : FuncData) : Prop := FunD K "_law_box" "_law_box" (defArgs s_boxL) (defBody s_boxL) (defScope s_boxL) [] [] f fd
def d_takeL : He.DefD := ⟨("_law_take", none), "_law_take", "_law_take", defArgs s_takeL, defBody s_takeL, defScope s_takeL, [], []⟩
abbrev F_takeL (K : PySem.W.Frag) (f : Addr) (fd : FuncData) : Prop := FunD K "_law_take" "_law_take" (defArgs s_takeL) (defBody s_takeL) (defScope s_takeL) [] [] f fd
def d_keysL : He.DefD := ⟨("_law_keys", none), "_law_keys", "_law_keys", defArgs s_keysL, defBody s_keysL, defScope s_keysL, [], []⟩
abbrev F_keysL (K : PySem.W.Frag) (f : Addr) (fd : FuncData) : Prop := FunD K "_law_keys" "_law_keys" (defArgs s_keysL) (defBody s_keysL) (defScope s_keysL) [] [] f fd
def d_orderL : He.DefD := ⟨("_law_order", none), "_law_order", "_law_order", defArgs s_orderL, defBody s_orderL, defScope s_orderL, [], []⟩
abbrev F_orderL (K : PySem.W.Frag) (f : Addr) (fd : FuncData) : Prop := FunD K "_law_order" "_law_order" (defArgs s_orderL) (defBody s_orderL) (defScope s_orderL) [] [] f fd
def d_likeL : He.DefD := ⟨("_law_like", none), "_law_like", "_law_like", defArgs s_likeL, defBody s_likeL, defScope s_likeL, [], []⟩
abbrev F_likeL (K : PySem.W.Frag) (f : Addr) (fd : FuncData) : Prop := FunD K "_law_like" "_law_like" (defArgs s_likeL) (defBody s_likeL) (defScope s_likeL) [] [] f fd
def d_quietL : He.DefD := ⟨("_law_quiet", none), "_law_quiet", "_law_quiet", defArgs s_quietL, defBody s_quietL, defScope s_quietL, [], []⟩
abbrev F_quietL (K : PySem.W.Frag) (f : Addr) (fd : FuncData) : Prop := FunD K "_law_quiet" "_law_quiet" (defArgs s_quietL) (defBody s_quietL) (defScope s_quietL) [] [] f fd
def d_swappedL : He.DefD := ⟨("_law_swapped", none), "_law_swapped", "_law_swapped", defArgs s_swappedL, defBody s_swappedL, defScope s_swappedL, [], []⟩
abbrev F_swappedL (K : PySem.W.Frag) (f : Addr) (fd : FuncData) : Prop := FunD K "_law_swapped" "_law_swapped" (defArgs s_swappedL) (defBody s_swappedL) (defScope s_swappedL) [] [] f fd
def d_ableL : He.DefD := ⟨("_law_able", none), "_law_able", "_law_able", defArgs s_ableL, defBody s_ableL, defScope s_ableL, [], []⟩
abbrev F_ableL (K : PySem.W.Frag) (f : Addr) (fd : FuncData) : Prop := FunD K "_law_able" "_law_able" (defArgs s_ableL) (defBody s_ableL) (defScope s_ableL) [] [] f fd
def d_walkL : He.DefD := ⟨("_law_walk", none), "_law_walk", "_law_walk", defArgs s_walkL, defBody s_walkL, defScope s_walkL, [], []⟩
abbrev F_walkL (K : PySem.W.Frag) (f : Addr) (fd : FuncData) : Prop := FunD K "_law_walk" "_law_walk" (defArgs s_walkL) (defBody s_walkL) (defScope s_walkL) [] [] f fd
def d_countL : He.DefD := ⟨("_law_count", none), "_law_count", "_law_count", defArgs s_countL, defBody s_countL, defScope s_countL, [], []⟩
abbrev F_countL (K : PySem.W.Frag) (f : Addr) (fd : FuncData) : Prop := FunD K "_law_count" "_law_count" (defArgs s_countL) (defBody s_countL) (defScope s_countL) [] [] f fd
def d_ringL : He.DefD := ⟨("_law_ring", none), "_law_ring", "_law_ring", defArgs s_ringL, defBody s_ringL, defScope s_ringL, [], []⟩
abbrev F_ringL (K : PySem.W.Frag) (f : Addr) (fd : FuncData) : Prop := FunD K "_law_ring" "_law_ring" (defArgs s_ringL) (defBody s_ringL) (defScope s_ringL) [] [] f fd
def d_boundL : He.DefD := ⟨("_law_bound", none), "_law_bound", "_law_bound", defArgs s_boundL, defBody s_boundL, defScope s_boundL, [], []⟩
abbrev F_boundL (K : PySem.W.Frag) (f : Addr) (fd : FuncData) : Prop := FunD K "_law_bound" "_law_bound" (defArgs s_boundL) (defBody s_boundL) (defScope s_boundL) [] [] f fd
def d_listsL : He.DefD := ⟨("_law_lists", none), "_law_lists", "_law_lists", defArgs s_listsL, defBody s_listsL, defScope s_listsL, [], []⟩
abbrev F_listsL (K : PySem.W.Frag) (f : Addr) (fd : FuncData) : Prop := FunD K "_law_lists" "_law_lists" (defArgs s_listsL) (defBody s_listsL) (defScope s_listsL) [] [] f fd
def d_looseL : He.DefD := ⟨("_law_loose", none), "_law_loose", "_law_loose", defArgs s_looseL, defBody s_looseL, defScope s_looseL, [], []⟩
abbrev F_looseL (K : PySem.W.Frag) (f : Addr) (fd : FuncData) : Prop := FunD K "_law_loose" "_law_loose" (defArgs s_looseL) (defBody s_looseL) (defScope s_looseL) [] [] f fd
def d_stateL : He.DefD := ⟨("_law_state", none), "_law_state", "_law_state", defArgs s_stateL, defBody s_stateL, defScope s_stateL, [], []⟩
abbrev F_stateL (K : PySem.W.Frag) (f : Addr) (fd : FuncData) : Prop := FunD K "_law_state" "_law_state" (defArgs s_stateL) (defBody s_stateL) (defScope s_stateL) [] [] f fd
def d_votesL : He.DefD := ⟨("_law_votes", none), "_law_votes", "_law_votes", defArgs s_votesL, defBody s_votesL, defScope s_votesL, [], []⟩
abbrev F_votesL (K : PySem.W.Frag) (f : Addr) (fd : FuncData) : Prop := FunD K "_law_votes" "_law_votes" (defArgs s_votesL) (defBody s_votesL) (defScope s_votesL) [] [] f fd
def d_nearL : He.DefD := ⟨("_law_near", none), "_law_near", "_law_near", defArgs s_nearL, defBody s_nearL, defScope s_nearL, [], []⟩
abbrev F_nearL (K : PySem.W.Frag) (f : Addr) (fd : FuncData) : Prop := FunD K "_law_near" "_law_near" (defArgs s_nearL) (defBody s_nearL) (defScope s_nearL) [] [] f fd
def d_homingL : He.DefD := ⟨("_law_homing", none), "_law_homing", "_law_homing", defArgs s_homingL, defBody s_homingL, defScope s_homingL, [], []⟩
abbrev F_homingL (K : PySem.W.Frag) (f : Addr) (fd : FuncData) : Prop := FunD K "_law_homing" "_law_homing" (defArgs s_homingL) (defBody s_homingL) (defScope s_homingL) [] [] f fd
def d_apartL : He.DefD := ⟨("_law_apart", none), "_law_apart", "_law_apart", defArgs s_apartL, defBody s_apartL, defScope s_apartL, [], []⟩
abbrev F_apartL (K : PySem.W.Frag) (f : Addr) (fd : FuncData) : Prop := FunD K "_law_apart" "_law_apart" (defArgs s_apartL) (defBody s_apartL) (defScope s_apartL) [] [] f fd
def d_state_isL : He.DefD := ⟨("_law_state_is", none), "_law_state_is", "_law_state_is", defArgs s_state_isL, defBody s_state_isL, defScope s_state_isL, [], []⟩
abbrev F_state_isL (K : PySem.W.Frag) (f : Addr) (fd : FuncData) : Prop := FunD K "_law_state_is" "_law_state_is" (defArgs s_state_isL) (defBody s_state_isL) (defScope s_state_isL) [] [] f fd
def d_count_apartL : He.DefD := ⟨("_law_count_apart", none), "_law_count_apart", "_law_count_apart", defArgs s_count_apartL, defBody s_count_apartL, defScope s_count_apartL, [], []⟩
abbrev F_count_apartL (K : PySem.W.Frag) (f : Addr) (fd : FuncData) : Prop := FunD K "_law_count_apart" "_law_count_apart" (defArgs s_count_apartL) (defBody s_count_apartL) (defScope s_count_apartL) [] [] f fd
def d_handedL : He.DefD := ⟨("_law_handed", none), "_law_handed", "_law_handed", defArgs s_handedL, defBody s_handedL, defScope s_handedL, [], []⟩
abbrev F_handedL (K : PySem.W.Frag) (f : Addr) (fd : FuncData) : Prop := FunD K "_law_handed" "_law_handed" (defArgs s_handedL) (defBody s_handedL) (defScope s_handedL) [] [] f fd
def d_partsL : He.DefD := ⟨("_law_parts", none), "_law_parts", "_law_parts", defArgs s_partsL, defBody s_partsL, defScope s_partsL, [], []⟩
abbrev F_partsL (K : PySem.W.Frag) (f : Addr) (fd : FuncData) : Prop := FunD K "_law_parts" "_law_parts" (defArgs s_partsL) (defBody s_partsL) (defScope s_partsL) [] [] f fd
def d_one_by_oneL : He.DefD := ⟨("_law_one_by_one", none), "_law_one_by_one", "_law_one_by_one", defArgs s_one_by_oneL, defBody s_one_by_oneL, defScope s_one_by_oneL, [], []⟩
abbrev F_one_by_oneL (K : PySem.W.Frag) (f : Addr) (fd : FuncData) : Prop := FunD K "_law_one_by_one" "_law_one_by_one" (defArgs s_one_by_oneL) (defBody s_one_by_oneL) (defScope s_one_by_oneL) [] [] f fd
def d_cutL : He.DefD := ⟨("_law_cut", none), "_law_cut", "_law_cut", defArgs s_cutL, defBody s_cutL, defScope s_cutL, [], []⟩
abbrev F_cutL (K : PySem.W.Frag) (f : Addr) (fd : FuncData) : Prop := FunD K "_law_cut" "_law_cut" (defArgs s_cutL) (defBody s_cutL) (defScope s_cutL) [] [] f fd
def d_law : He.DefD := ⟨("law", none), "law", "law", defArgs s_law, defBody s_law, defScope s_law, [], []⟩
abbrev F_law (K : PySem.W.Frag) (f : Addr) (fd : FuncData) : Prop := FunD K "law" "law" (defArgs s_law) (defBody s_law) (defScope s_law) [] [] f fd
def fn : List He.DefD := [d_check_replica, d_check_replicas, d_first_wrong_place, d_check_list, d_index_of, d_swap_at, d_require_key, d_wrong_replica, d_State_init, d_State_list_of, d_State_lists, d_State_all_keys, d_State_says, d_State_with_list, d_State_len, d_first_wrong_pair, d_Reading_init, d_Reading_pairs, d_read, d_before_dict, d_is_swap, d_swap_pair, d_is_silent, d_other_replicas, d_swapped_state, d_Run_init, d_Run_steps, d_Run_len, d_state_after, d_play, d_homeward_swaps, d_homeward, d_is_settled, d_settle_run, d_home_list] ++ [d_settle, d_settle_length, d_boxL, d_takeL, d_keysL, d_orderL, d_likeL, d_quietL, d_swappedL, d_ableL, d_walkL, d_countL, d_ringL, d_boundL, d_listsL, d_looseL, d_stateL, d_votesL, d_nearL, d_homingL, d_apartL, d_state_isL, d_count_apartL, d_handedL, d_partsL, d_one_by_oneL, d_cutL, d_law]
def fa1 : List He.Fa := [.glo "check_replica", .glo "check_replicas", .glo "first_wrong_place", .glo "check_list", .glo "index_of", .glo "swap_at", .glo "require_key", .glo "_wrong_replica", .glo "_first_wrong_pair", .glo "read", .glo "before_dict", .glo "is_swap", .glo "swap_pair", .glo "is_silent", .glo "_other_replicas", .glo "swapped_state", .glo "_state_after", .glo "play", .glo "_homeward_swaps", .glo "homeward", .glo "is_settled", .glo "settle_run", .glo "home_list", .glo "settle", .glo "settle_length", .glo "_law_box", .glo "_law_take", .glo "_law_keys", .glo "_law_order", .glo "_law_like", .glo "_law_quiet", .glo "_law_swapped", .glo "_law_able", .glo "_law_walk", .glo "_law_count", .glo "_law_ring", .glo "_law_bound", .glo "_law_lists", .glo "_law_loose", .glo "_law_state"]
def fa2 : List He.Fa := [.glo "_law_votes", .glo "_law_near", .glo "_law_homing", .glo "_law_apart", .glo "_law_state_is", .glo "_law_count_apart", .glo "_law_handed", .glo "_law_parts", .glo "_law_one_by_one", .glo "_law_cut", .glo "law", .glo "State", .cls "State", .mkr "State", .glo "Reading", .cls "Reading", .mkr "Reading", .glo "Run", .cls "Run", .mkr "Run", .noat "State" "_lists", .noat "State" "_places", .noat "Reading" "_keys", .noat "Reading" "_before", .noat "Run" "_swaps", .meth "State" "list_of", .meth "State" "lists", .meth "State" "all_keys", .meth "State" "says", .meth "State" "with_list", .meth "State" "__len__", .meth "Reading" "pairs", .meth "Run" "steps", .meth "Run" "__len__", .int "MAX_KEYS" 12, .int "MAX_KEY" 9999, .free "len", .free "range", .free "list", .free "tuple", .free "sorted", .free "enumerate", .free "int", .free "abs", .free "min", .free "max", .free "sum", .free "isinstance", .free "bool", .free "str"]
def fa : List He.Fa := fa1 ++ fa2
def names0 : List PySem.Str := ["_wall", "DriftError", "InvalidList", "UnknownKey", "UnknownReplica", "InvalidState", "SharedKey", "InvalidReading", "InvalidLine", "InvalidSwap", "AudibleSwap", "MAX_KEYS"]
def names1 : List PySem.Str := ["MAX_KEY", "check_replica", "check_replicas", "first_wrong_place", "check_list", "index_of", "swap_at", "DIGITS", "SEPARATOR", "require_key", "_wrong_replica", "_is_key_text"]
def names2 : List PySem.Str := ["State", "_first_wrong_pair", "Reading", "read", "before_dict", "is_swap", "swap_pair", "is_silent", "_other_replicas", "swapped_state", "_MOST_DIGITS", "Run"]
def names3 : List PySem.Str := ["_read_swap", "_read_number", "_state_after", "play", "_homeward_swaps", "homeward", "is_settled", "settle_run", "home_list", "settle", "settle_length", "_law_box"]
def names4 : List PySem.Str := ["_law_take", "_law_keys", "_law_order", "_law_like", "_law_quiet", "_law_swapped", "_law_able", "_law_walk", "_law_count", "_law_ring", "_law_bound", "_law_lists"]
def names5 : List PySem.Str := ["_law_loose", "_law_state", "_law_votes", "_law_odd", "_law_near", "_law_homing", "_law_apart", "_law_state_is", "_law_count_apart", "_law_handed", "_law_parts", "_law_one_by_one"]
def names6 : List PySem.Str := ["_law_cut"]
def names : List PySem.Str := names0 ++ names1 ++ names2 ++ names3 ++ names4 ++ names5 ++ names6
end Qd

set_option Elab.async false
set_option linter.all false
set_option maxRecDepth 100000
set_option maxHeartbeats 0
namespace Qd
open PySem PySem.Spec PyProof.Rows L2
/-! the frame: forced -/
def frcA {β : Type} : List Addr → (List Addr → β) → β
  | [], k => k []
  | a :: r, k => HandSHeadRun.frNat a fun a => frcA r fun r => k (a :: r)
theorem frcA_eq {β : Type} : ∀ (l : List Addr) (k : List Addr → β), frcA l k = k l
  | [], _ => rfl
  | a :: r, k => by
    show HandSHeadRun.frNat a (fun a => frcA r fun r => k (a :: r)) = _
    rw [HandSHeadRun.frNat_eq, frcA_eq r]
def lv (g : Addr → Option Obj) (as : List Addr) : List Addr := as.flatMap fun a => match g a with
  | some o => He.refsD o
  | none => []
def frcK {β : Type} (g : Addr → Option Obj) : List Addr → (PySem.W.Frag → β) → β
  | [], k => k []
  | a :: r, k => match g a with
    | some o => frcK g r fun f => k ((a, o) :: f)
    | none => frcK g r k
theorem frcK_eq {β : Type} (g : Addr → Option Obj) : ∀ (l : List Addr) (k : PySem.W.Frag → β), frcK g l k = k (He.frG g l)
  | [], _ => rfl
  | a :: r, k => by
    unfold frcK He.frG
    rw [List.filterMap_cons]
    cases g a with
    | some o => exact frcK_eq g r _
    | none => exact frcK_eq g r _
def onK {β : Type} (g : Addr → Option Obj) (k : PySem.W.Frag → β) : β :=
  frcA (lv g [mainGlobals]) fun l1 => frcA (lv g l1) fun l2 => frcA (lv g l2) fun l3 => frcA (lv g l3) fun l4 => frcK g (mainGlobals :: cStatics :: (l1 ++ (l2 ++ (l3 ++ l4)))) k

theorem frcOn_eq {β : Type} (g : Addr → Option Obj) (k : PySem.W.Frag → β) : ∃ as : List Addr, onK g k = k (He.frG g as) := by
  unfold onK
  simp only [frcA_eq]
  exact ⟨_, frcK_eq g _ k⟩
/-! ### the Hook -/
abbrev AlB : Type := He.AlD × Bool
def obsB (fa : List He.Fa) (fn : List He.DefD) (ex : PySem.W.Frag → Bool) (K : PySem.W.Frag) : AlB := (He.obsD fa fn K, ex K)
def SaysB (fa : List He.Fa) (fn : List He.DefD) (ex : PySem.W.Frag → Bool) (K : PySem.W.Frag) : Prop := obsB fa fn ex K = (He.valD fn, true)
def hookB (fa : List He.Fa) (fn : List He.DefD) (ex : PySem.W.Frag → Bool) : PySem.W.Hook where
  α := AlB
  obs := fun s => onK s.heap.get? (obsB fa fn ex)
  val := fun _ => (He.valD fn, true)
  says := fun _ h => ∃ K : PySem.W.Frag, K.In h ∧ SaysB fa fn ex K
  of := fun _ s e => by
    obtain ⟨as, q⟩ := frcOn_eq s.heap.get? (obsB fa fn ex)
    rw [q] at e
    exact ⟨_, He.frG_in, e⟩
  keeps := fun _ _ _ ⟨K, hK, c⟩ k => ⟨K, PySem.W.Frag.In.keeps hK k, c⟩
/-! ### facts beside -/
/-- a tuple of ints at an address -/
def tupAt (K : PySem.W.Frag) (a : Addr) (vs : List V) : Bool := match K.lookup a with
  | some ⟨.type c, _, .seq its _, _⟩ => decide (c = "tuple") && (decide (its.size ≤ sizeLine) && He.relAll vs its.toList)
  | _ => false
theorem tupAt_ok {K : PySem.W.Frag} {a : Addr} {vs : List V} (h : tupAt K a vs = true) (H : Hp) : SqT K H a vs := by
  unfold tupAt at h
  cases q : K.lookup a with
  | none =>
    rw [q] at h
    cases h
  | some o =>
    obtain ⟨oc, od, dt, osl⟩ := o
    rw [q] at h
    cases oc with
    | type c =>
      cases dt with
      | seq its n =>
        obtain ⟨h1, h2⟩ := He.ba (show (decide (c = "tuple") && (decide (its.size ≤ sizeLine) && He.relAll vs its.toList)) = true from h)
        obtain ⟨h3, h4⟩ := He.ba h2
        exact .inr ⟨_, its, n, q, congrArg Value.type (of_decide_eq_true h1), rfl, of_decide_eq_true h3, He.relAll_ok h4⟩
      | _ => cases h
    | _ => cases dt <;> cases h
abbrev t012V : List V := [.int 0, .int 1, .int 2]
def stateC (K : PySem.W.Frag) : Addr := He.ga K "State"
def cvalB (K : PySem.W.Frag) (C : Addr) (f : Str) (v : V) : Bool := match PySem.W.findCls K (.ref C) (.type "type") f with
  | some (.val u) => He.relB v u
  | _ => false
def insB (K : PySem.W.Frag) (C : Addr) : Bool :=
  He.eqO (PySem.W.findIn K (.ref C) "__class__") (some (some (.builtin "object.__class__"))) && (He.eqO (PySem.W.specialIn K (.builtin "object.__class__") "__get__") (some (some (.builtin "getset_descriptor.__get__"))) && (decide (PySem.W.takesIn K (.builtin "object.__class__") = some true) &&
    (decide (PySem.W.mroIn K C (.type "object") = some true) && decide (PySem.W.kitOne K (.ref C) (.ref C) = some true))))
def ex0 (K : PySem.W.Frag) : Bool :=
  tupAt K (kwAt ("settle", none) "replicas" K) t012V && (tupAt K (kwAt ("settle_length", none) "replicas" K) t012V && (tupAt K (kwAt ("settle_run", none) "replicas" K) t012V && (tupAt K (kwAt ("settle_run", none) "picks" K) [] &&
  (PySem.W.readsIn K (stateC K) (.type "type") && (He.eqO (PySem.W.specialIn K (.ref (stateC K)) "__getattribute__") (some (some (.builtin "type.__getattribute__"))) && (cvalB K (stateC K) "REPLICAS" (.int 3) && insB K (stateC K)))))))
end Qd

set_option linter.all false
/-! The plain law: lists, the words of a list, the reading, homeward exchanges; no program in sight. -/
namespace QD

/-- x stands before y in l -/
def bef (l : List Int) (x y : Int) : Bool := decide (l.idxOf x < l.idxOf y)

/-- the keys at i and i + 1 exchanged -/
def swp : List Int → Nat → List Int
  | a :: b :: t, 0 => b :: a :: t
  | a :: t, i + 1 => a :: swp t i
  | l, _ => l

theorem swp_succ (a : Int) (t : List Int) (i : Nat) : swp (a :: t) (i + 1) = a :: swp t i := by
  cases t <;> simp [swp]

theorem swp_perm : ∀ (l : List Int) (i : Nat), (swp l i).Perm l
  | [], 0 => .refl _
  | [], _ + 1 => .refl _
  | [_], 0 => .refl _
  | a :: b :: t, 0 => .swap a b t
  | a :: t, i + 1 => by
    rw [swp_succ]
    exact (swp_perm t i).cons a

theorem swp_length (l : List Int) (i : Nat) : (swp l i).length = l.length := (swp_perm l i).length_eq

theorem swp_set : ∀ {l : List Int} {i : Nat} {a b : Int}, l[i]? = some a → l[i + 1]? = some b → (l.set i b).set (i + 1) a = swp l i
  | [], i, a, b, h, _ => by simp at h
  | [c], 0, a, b, _, h => by simp at h
  | c :: d :: t, 0, a, b, h1, h2 => by
    simp at h1 h2
    subst h1 h2
    rfl
  | c :: t, i + 1, a, b, h1, h2 => by
    have e1 : t[i]? = some a := by simpa using h1
    have e2 : t[i + 1]? = some b := by simpa using h2
    rw [swp_succ, ← swp_set e1 e2]
    rfl

theorem swp_get0 : ∀ {l : List Int} {i : Nat} {a b : Int}, l[i]? = some a → l[i + 1]? = some b → (swp l i)[i]? = some b ∧ (swp l i)[i + 1]? = some a
  | [], i, a, b, h, _ => by simp at h
  | [c], 0, a, b, _, h => by simp at h
  | c :: d :: t, 0, a, b, h1, h2 => by
    simp at h1 h2
    subst h1 h2
    exact ⟨rfl, rfl⟩
  | c :: t, i + 1, a, b, h1, h2 => by
    have e1 : t[i]? = some a := by simpa using h1
    have e2 : t[i + 1]? = some b := by simpa using h2
    have := swp_get0 e1 e2
    rw [swp_succ]
    simpa using this

theorem swp_get_lt : ∀ {l : List Int} {i j : Nat}, j < i → (swp l i)[j]? = l[j]?
  | [], 0, j, h => by omega
  | [], i + 1, j, h => rfl
  | c :: t, 0, j, h => by omega
  | c :: t, i + 1, 0, h => by
    rw [swp_succ]
    rfl
  | c :: t, i + 1, j + 1, h => by
    rw [swp_succ]
    simpa using swp_get_lt (l := t) (show j < i by omega)

theorem idx_cons (c x : Int) (t : List Int) : (c :: t).idxOf x = if c = x then 0 else t.idxOf x + 1 := by
  rw [List.idxOf_cons]
  by_cases h : c = x
  · simp [h]
  · have e : (c == x) = false := beq_eq_false_iff_ne.mpr h
    rw [e, if_neg h]
    rfl

theorem idx_swp : ∀ {l : List Int} {i : Nat} {a b : Int}, l.Nodup → l[i]? = some a → l[i + 1]? = some b → ∀ x, (swp l i).idxOf x = if x = a then i + 1 else if x = b then i else l.idxOf x
  | [], i, a, b, _, h, _ => by simp at h
  | [c], 0, a, b, _, _, h => by simp at h
  | c :: d :: t, 0, a, b, nd, h1, h2 => by
    simp at h1 h2
    subst h1 h2
    intro x
    have hcd : c ≠ d := by
      intro e
      rw [List.nodup_cons] at nd
      exact nd.1 (by rw [e]; exact List.mem_cons_self)
    show (d :: c :: t).idxOf x = _
    rw [idx_cons, idx_cons, idx_cons, idx_cons]
    by_cases e1 : x = c
    · subst e1
      rw [if_neg (fun e => hcd e.symm)]
      simp
    · rw [if_neg e1]
      by_cases e2 : x = d
      · subst e2
        simp
      · simp [e2, Ne.symm e1, Ne.symm e2, fun e : c = x => e1 e.symm, fun e : d = x => e2 e.symm]
  | c :: t, i + 1, a, b, nd, h1, h2 => by
    have e1 : t[i]? = some a := by simpa using h1
    have e2 : t[i + 1]? = some b := by simpa using h2
    rw [List.nodup_cons] at nd
    have ha : a ∈ t := List.mem_of_getElem? e1
    have hb : b ∈ t := List.mem_of_getElem? e2
    intro x
    rw [swp_succ, idx_cons, idx_cons, idx_swp nd.2 e1 e2 x]
    by_cases ec : c = x
    · subst ec
      have n1 : ¬ c = a := fun e => nd.1 (by rw [e]; exact ha)
      have n2 : ¬ c = b := fun e => nd.1 (by rw [e]; exact hb)
      simp [n1, n2]
    · rw [if_neg ec, if_neg ec]
      split
      · rfl
      · split <;> rfl

theorem idx_at : ∀ {l : List Int} {i : Nat} {a : Int}, l.Nodup → l[i]? = some a → l.idxOf a = i
  | [], i, a, _, h => by simp at h
  | c :: t, 0, a, _, h => by
    simp at h
    subst h
    rw [idx_cons, if_pos rfl]
  | c :: t, i + 1, a, nd, h => by
    have e1 : t[i]? = some a := by simpa using h
    rw [List.nodup_cons] at nd
    have n1 : ¬ c = a := fun e => nd.1 (by rw [e]; exact List.mem_of_getElem? e1)
    rw [idx_cons, if_neg n1, idx_at nd.2 e1]

theorem at_idx {l : List Int} {x : Int} (h : x ∈ l) : l[l.idxOf x]? = some x := by
  have hl := List.idxOf_lt_length_iff.mpr h
  rw [List.getElem?_eq_getElem hl, List.getElem_idxOf]

theorem idx_inj {l : List Int} {x y : Int} (hx : x ∈ l) (hy : y ∈ l) (e : l.idxOf x = l.idxOf y) : x = y := by
  have h1 := at_idx hx
  have h2 := at_idx hy
  rw [e, h2] at h1
  exact (Option.some.inj h1).symm

theorem bef_iff {l : List Int} {x y : Int} : bef l x y = true ↔ l.idxOf x < l.idxOf y := by
  unfold bef
  exact decide_eq_true_iff

theorem bef_irr (l : List Int) (x : Int) : bef l x x = false := by
  unfold bef
  simp

theorem bef_tot {l : List Int} {x y : Int} (hx : x ∈ l) (hy : y ∈ l) (n : x ≠ y) : bef l y x = !bef l x y := by
  have h : l.idxOf x ≠ l.idxOf y := fun e => n (idx_inj hx hy e)
  unfold bef
  by_cases q : l.idxOf x < l.idxOf y
  · rw [decide_eq_true q, decide_eq_false (by omega)]
    rfl
  · rw [decide_eq_false q, decide_eq_true (by omega)]
    rfl

theorem bef_asym {l : List Int} {x y : Int} (h : bef l x y = true) : bef l y x = false := by
  unfold bef at *
  have := of_decide_eq_true h
  exact decide_eq_false (by omega)

theorem bef_trans {l : List Int} {x y z : Int} (h1 : bef l x y = true) (h2 : bef l y z = true) : bef l x z = true := by
  rw [bef_iff] at *
  omega

theorem bef_mem {l : List Int} {x y : Int} (h : bef l x y = true) : x ∈ l := by
  rw [bef_iff] at h
  have h2 : l.idxOf y ≤ l.length := List.idxOf_le_length
  exact List.idxOf_lt_length_iff.mp (by omega)

/-- a and b stand at i and i + 1 -/
structure Nb (l : List Int) (i : Nat) (a b : Int) : Prop where
  nd : l.Nodup
  h1 : l[i]? = some a
  h2 : l[i + 1]? = some b

section
variable {l : List Int} {i : Nat} {a b : Int}
theorem Nb.ma (h : Nb l i a b) : a ∈ l := List.mem_of_getElem? h.h1
theorem Nb.mb (h : Nb l i a b) : b ∈ l := List.mem_of_getElem? h.h2
theorem Nb.ia (h : Nb l i a b) : l.idxOf a = i := idx_at h.nd h.h1
theorem Nb.ib (h : Nb l i a b) : l.idxOf b = i + 1 := idx_at h.nd h.h2
theorem Nb.ne (h : Nb l i a b) : a ≠ b := by
  intro e
  have h1 := h.ia
  have h2 := h.ib
  rw [e] at h1
  omega
theorem Nb.ab (h : Nb l i a b) : bef l a b = true := by
  rw [bef_iff, h.ia, h.ib]
  omega
theorem Nb.ba (h : Nb l i a b) : bef l b a = false := bef_asym h.ab
/-- no key stands between them -/
theorem Nb.left (h : Nb l i a b) {z : Int} (na : z ≠ a) (nb : z ≠ b) : bef l z a = bef l z b := by
  have k1 : l.idxOf z ≠ i := by
    intro e
    by_cases hz : z ∈ l
    · exact na (idx_inj hz h.ma (by rw [e, h.ia]))
    · rw [List.idxOf_eq_length hz] at e
      have := (List.getElem?_eq_some_iff.mp h.h1).1
      omega
  unfold bef
  rw [h.ia, h.ib]
  by_cases q : l.idxOf z < i
  · rw [decide_eq_true q, decide_eq_true (by omega)]
  · rw [decide_eq_false q, decide_eq_false (by omega)]
theorem Nb.right (h : Nb l i a b) {z : Int} (na : z ≠ a) (nb : z ≠ b) : bef l a z = bef l b z := by
  have k1 : l.idxOf z ≠ i + 1 := by
    intro e
    by_cases hz : z ∈ l
    · exact nb (idx_inj hz h.mb (by rw [e, h.ib]))
    · rw [List.idxOf_eq_length hz] at e
      have := (List.getElem?_eq_some_iff.mp h.h2).1
      omega
  unfold bef
  rw [h.ia, h.ib]
  by_cases q : i + 1 < l.idxOf z
  · rw [decide_eq_true q, decide_eq_true (by omega)]
  · rw [decide_eq_false q, decide_eq_false (by omega)]
/-- the words behind the exchange -/
theorem Nb.bef (h : Nb l i a b) (x y : Int) : bef (swp l i) x y = if x = a ∧ y = b then false else if x = b ∧ y = a then true else QD.bef l x y := by
  have n := h.ne
  have ix := idx_swp h.nd h.h1 h.h2 x
  have iy := idx_swp h.nd h.h1 h.h2 y
  by_cases xa : x = a
  · subst xa
    by_cases yb : y = b
    · subst yb
      rw [if_pos ⟨rfl, rfl⟩]
      unfold QD.bef
      rw [ix, iy, if_pos rfl, if_neg (Ne.symm n), if_pos rfl]
      simp
    · rw [if_neg (fun q => yb q.2), if_neg (fun q => n q.1)]
      by_cases ya : y = x
      · subst ya
        rw [bef_irr, bef_irr]
      · have := h.right ya yb
        rw [this]
        unfold QD.bef
        rw [ix, iy, if_pos rfl, if_neg ya, if_neg yb, h.ib]
  · rw [if_neg (fun q => xa q.1)]
    by_cases xb : x = b
    · subst xb
      by_cases ya : y = a
      · subst ya
        rw [if_pos ⟨rfl, rfl⟩]
        unfold QD.bef
        rw [ix, iy, if_pos rfl, if_neg xa, if_pos rfl]
        simp
      · rw [if_neg (fun q => ya q.2)]
        by_cases yb : y = x
        · subst yb
          rw [bef_irr, bef_irr]
        · rw [← h.right ya yb]
          unfold QD.bef
          rw [ix, iy, if_neg xa, if_pos rfl, if_neg ya, if_neg yb, h.ia]
    · rw [if_neg (fun q => xb q.1)]
      by_cases ya : y = a
      · subst ya
        rw [h.left xa xb]
        unfold QD.bef
        rw [ix, iy, if_neg xa, if_neg xb, if_pos rfl, h.ib]
      · by_cases yb : y = b
        · subst yb
          rw [← h.left xa xb]
          unfold QD.bef
          rw [ix, iy, if_neg xa, if_neg xb, if_neg ya, if_pos rfl, h.ia]
        · unfold QD.bef
          rw [ix, iy, if_neg xa, if_neg xb, if_neg ya, if_neg yb]
theorem Nb.bef_ab (h : Nb l i a b) : QD.bef (swp l i) a b = false := by
  rw [h.bef, if_pos ⟨rfl, rfl⟩]
theorem Nb.bef_ba (h : Nb l i a b) : QD.bef (swp l i) b a = true := by
  rw [h.bef, if_neg (fun q => h.ne q.2), if_pos ⟨rfl, rfl⟩]
theorem Nb.bef_else (h : Nb l i a b) {x y : Int} (n1 : ¬ (x = a ∧ y = b)) (n2 : ¬ (x = b ∧ y = a)) : QD.bef (swp l i) x y = QD.bef l x y := by
  rw [h.bef, if_neg n1, if_neg n2]
theorem Nb.nd' (h : Nb l i a b) : (swp l i).Nodup := (swp_perm l i).nodup_iff.mpr h.nd
end

/-! ### counts over pairs -/
theorem sum_one {l : List Int} {a : Int} {f g : Int → Nat} (nd : l.Nodup) (ha : a ∈ l) (h1 : f a = g a + 1) (h2 : ∀ x ∈ l, x ≠ a → f x = g x) : (l.map f).sum = (l.map g).sum + 1 := by
  induction l with
  | nil => cases ha
  | cons c t ih =>
    rw [List.nodup_cons] at nd
    rw [List.map_cons, List.map_cons, List.sum_cons, List.sum_cons]
    rcases List.mem_cons.mp ha with e | ht
    · subst e
      have : t.map f = t.map g := List.map_congr_left fun x hx => h2 x (List.mem_cons_of_mem _ hx) fun e => nd.1 (by rw [← e]; exact hx)
      rw [this, h1]
      omega
    · have := ih nd.2 ht fun x hx n => h2 x (List.mem_cons_of_mem _ hx) n
      rw [this, h2 c List.mem_cons_self fun e => nd.1 (by rw [e]; exact ht)]
      omega
theorem countP_eq_sum (p : Int → Bool) : ∀ l : List Int, l.countP p = (l.map fun x => (p x).toNat).sum
  | [] => rfl
  | c :: t => by
    rw [List.countP_cons, List.map_cons, List.sum_cons, countP_eq_sum p t]
    cases p c <;> simp <;> omega
theorem countP_one {l : List Int} {a : Int} {p q : Int → Bool} (nd : l.Nodup) (ha : a ∈ l) (h1 : p a = true) (h1' : q a = false) (h2 : ∀ x ∈ l, x ≠ a → p x = q x) : l.countP p = l.countP q + 1 := by
  rw [countP_eq_sum, countP_eq_sum]
  refine sum_one nd ha (by rw [h1, h1']; rfl) fun x hx n => by rw [h2 x hx n]
/-- how many ordered pairs of l have p -/
def cnt2 (l : List Int) (p : Int → Int → Bool) : Nat := (l.map fun x => l.countP (p x)).sum
theorem cnt2_perm {l m : List Int} (h : l.Perm m) (p : Int → Int → Bool) : cnt2 l p = cnt2 m p := by
  unfold cnt2
  have e : (fun x => l.countP (p x)) = fun x => m.countP (p x) := funext fun x => h.countP_eq (p x)
  rw [e]
  exact (h.map _).sum_nat
theorem cnt2_congr {l : List Int} {p q : Int → Int → Bool} (h : ∀ x ∈ l, ∀ y ∈ l, p x y = q x y) : cnt2 l p = cnt2 l q := by
  unfold cnt2
  congr 1
  refine List.map_congr_left fun x hx => ?_
  exact List.countP_congr fun y hy => by rw [h x hx y hy]
theorem cnt2_zero {l : List Int} {p : Int → Int → Bool} (h : ∀ x ∈ l, ∀ y ∈ l, p x y = false) : cnt2 l p = 0 := by
  rw [cnt2_congr (q := fun _ _ => false) h]
  unfold cnt2
  have : (fun x : Int => l.countP ((fun _ _ => false : Int → Int → Bool) x)) = fun _ => 0 := by
    funext x
    simp
  rw [this]
  clear this h
  suffices ∀ m : List Int, (m.map fun _ => 0).sum = 0 from this l
  intro m
  induction m with
  | nil => rfl
  | cons c t ih => rw [List.map_cons, List.sum_cons, ih]
theorem cnt2_one {l : List Int} {a b : Int} {p q : Int → Int → Bool} (nd : l.Nodup) (ha : a ∈ l) (hb : b ∈ l) (h1 : p a b = true) (h1' : q a b = false) (h2 : ∀ x ∈ l, ∀ y ∈ l, ¬ (x = a ∧ y = b) → p x y = q x y) : cnt2 l p = cnt2 l q + 1 := by
  unfold cnt2
  refine sum_one nd ha (countP_one nd hb h1 h1' fun y hy n => h2 a ha y hy fun e => n e.2) fun x hx n => ?_
  exact List.countP_congr fun y hy => by rw [h2 x hx y hy fun e => n e.1]

/-! ### a reading: R x y says that x is read before y -/
abbrev Rd := Int → Int → Bool
/-- of each two keys one is read first -/
structure Tour (R : Rd) (ks : List Int) : Prop where
  irr : ∀ x, R x x = false
  tot : ∀ x ∈ ks, ∀ y ∈ ks, x ≠ y → R y x = !R x y
theorem Tour.asym {R : Rd} {ks : List Int} (T : Tour R ks) {x y : Int} (hx : x ∈ ks) (hy : y ∈ ks) (h : R x y = true) : R y x = false := by
  have n : x ≠ y := fun e => by rw [e, T.irr] at h; cases h
  rw [T.tot x hx y hy n, h]
  rfl
theorem Tour.ne {R : Rd} {ks : List Int} (T : Tour R ks) {x y : Int} (h : R x y = true) : x ≠ y := fun e => by rw [e, T.irr] at h; cases h
/-- x and y lie in a cycle -/
def Pin (R : Rd) (ks : List Int) (x y : Int) : Prop := ∃ z ∈ ks, (R x y = true ∧ R y z = true ∧ R z x = true) ∨ (R y x = true ∧ R x z = true ∧ R z y = true)
theorem Pin.symm {R : Rd} {ks : List Int} {x y : Int} (h : Pin R ks x y) : Pin R ks y x := by
  obtain ⟨z, hz, h⟩ := h
  exact ⟨z, hz, h.symm⟩
/-- the same words at pinned pairs -/
def Cl (R : Rd) (ks l m : List Int) : Prop := ∀ x ∈ ks, ∀ y ∈ ks, Pin R ks x y → bef l x y = bef m x y
theorem Cl.refl (R : Rd) (ks l : List Int) : Cl R ks l l := fun _ _ _ _ _ => rfl
theorem Cl.symm {R : Rd} {ks l m : List Int} (h : Cl R ks l m) : Cl R ks m l := fun x hx y hy p => (h x hx y hy p).symm
theorem Cl.trans {R : Rd} {ks l m n : List Int} (h : Cl R ks l m) (k : Cl R ks m n) : Cl R ks l n := fun x hx y hy p => (h x hx y hy p).trans (k x hx y hy p)
/-- in each cycle the list dissents once -/
def Good (R : Rd) (ks l : List Int) : Prop := ∀ x ∈ ks, ∀ y ∈ ks, ∀ z ∈ ks, bef l x y = true → bef l y z = true → R y x = true → R z y = true → R x z = false
/-- no homeward exchange is left -/
def Settled (R : Rd) (l : List Int) : Prop := ∀ (i : Nat) (a b : Int), l[i]? = some a → l[i + 1]? = some b → R b a = false

/-! ### one homeward exchange -/
section
variable {R : Rd} {ks l : List Int} {i : Nat} {a b : Int}
theorem free_home (T : Tour R ks) (pk : l.Perm ks) (G : Good R ks l) (h : Nb l i a b) (hR : R b a = true) : ¬ Pin R ks a b := by
  rintro ⟨z, hz, q | q⟩
  · have ha := pk.mem_iff.mp h.ma
    have hb := pk.mem_iff.mp h.mb
    have := T.asym hb ha hR
    rw [q.1] at this
    cases this
  · have ha := pk.mem_iff.mp h.ma
    have hb := pk.mem_iff.mp h.mb
    have za : z ≠ a := fun e => T.ne q.2.1 e.symm
    have zb : z ≠ b := T.ne q.2.2
    cases e : bef l z a with
    | true =>
      have := G z hz a ha b hb e h.ab q.2.1 hR
      rw [q.2.2] at this
      cases this
    | false =>
      have hzl := pk.mem_iff.mpr hz
      have e1 : bef l a z = true := by rw [bef_tot hzl h.ma za, e]; rfl
      have e2 : bef l b z = true := by rw [← h.right za zb]; exact e1
      have := G a ha b hb z hz h.ab e2 hR q.2.2
      rw [q.2.1] at this
      cases this
theorem cl_swap (h : Nb l i a b) (np : ¬ Pin R ks a b) : Cl R ks l (swp l i) := fun x _ y _ p => by
  rw [h.bef_else]
  · rintro ⟨rfl, rfl⟩
    exact np p
  · rintro ⟨rfl, rfl⟩
    exact np p.symm
theorem good_home (T : Tour R ks) (pk : l.Perm ks) (G : Good R ks l) (h : Nb l i a b) (hR : R b a = true) : Good R ks (swp l i) := fun x hx y hy z hz h1 h2 r1 r2 => by
  have ha := pk.mem_iff.mp h.ma
  have hb := pk.mem_iff.mp h.mb
  have k : ∀ u v : Int, bef (swp l i) u v = true → R v u = true → bef l u v = true := fun u v q r => by
    by_cases e1 : u = a ∧ v = b
    · obtain ⟨rfl, rfl⟩ := e1
      exact h.ab
    · by_cases e2 : u = b ∧ v = a
      · obtain ⟨rfl, rfl⟩ := e2
        rw [T.asym hb ha hR] at r
        cases r
      · rw [h.bef_else e1 e2] at q
        exact q
  exact G x hx y hy z hz (k x y h1 r1) (k y z h2 r2) r1 r2
end

/-- how often the list dissents -/
def dis (R : Rd) (l : List Int) : Nat := cnt2 l fun x y => bef l x y && R y x
/-- how many pairs stand otherwise -/
def apart (l m : List Int) : Nat := cnt2 l fun x y => bef l x y && bef m y x

theorem dis_swap {R : Rd} {ks l : List Int} {i : Nat} {a b : Int} (T : Tour R ks) (pk : l.Perm ks) (h : Nb l i a b) (hR : R b a = true) : dis R l = dis R (swp l i) + 1 := by
  unfold dis
  rw [cnt2_perm (swp_perm l i)]
  have ha := pk.mem_iff.mp h.ma
  have hb := pk.mem_iff.mp h.mb
  refine cnt2_one h.nd h.ma h.mb (by rw [h.ab, hR]; rfl) (by rw [h.bef_ab]; rfl) fun x hx y hy n => ?_
  by_cases e2 : x = b ∧ y = a
  · obtain ⟨rfl, rfl⟩ := e2
    rw [T.asym hb ha hR]
    simp
  · rw [h.bef_else n e2]

/-- n homeward exchanges lead from l to m -/
inductive Hw (R : Rd) (l : List Int) : Nat → List Int → Prop where
  | nil : Hw R l 0 l
  | snoc {n : Nat} {m : List Int} {i : Nat} {a b : Int} : Hw R l n m → m[i]? = some a → m[i + 1]? = some b → R b a = true → Hw R l (n + 1) (swp m i)

structure HwOk (R : Rd) (ks l : List Int) (n : Nat) (m : List Int) : Prop where
  perm : m.Perm ks
  good : Good R ks m
  cl : Cl R ks l m
  dis : dis R m + n = dis R l
  ap : apart l m = n
  old : ∀ x y, bef m x y = true → R y x = true → bef l x y = true

theorem apart_self (l : List Int) : apart l l = 0 := cnt2_zero fun x _ y _ => by
  cases e : bef l x y with
  | false => rfl
  | true => rw [bef_asym e]; rfl

theorem Hw.ok {R : Rd} {ks l : List Int} (T : Tour R ks) (nd : ks.Nodup) (pl : l.Perm ks) (G : Good R ks l) : ∀ {n : Nat} {m : List Int}, Hw R l n m → HwOk R ks l n m
  | _, _, .nil => ⟨pl, G, .refl _ _ _, rfl, apart_self l, fun _ _ h _ => h⟩
  | _, _, .snoc (n := n) (m := m) (i := i) (a := a) (b := b) h h1 h2 hR => by
    have I := Hw.ok T nd pl G h
    have N : Nb m i a b := ⟨(I.perm.nodup_iff).mpr nd, h1, h2⟩
    have ha := I.perm.mem_iff.mp N.ma
    have hb := I.perm.mem_iff.mp N.mb
    have ds := dis_swap T I.perm N hR
    have lab : bef l a b = true := I.old a b N.ab hR
    refine ⟨(swp_perm m i).trans I.perm, good_home T I.perm I.good N hR, I.cl.trans (cl_swap N (free_home T I.perm I.good N hR)), ?_, ?_, fun x y q r => ?_⟩
    · have := I.dis
      omega
    · have key : apart l (swp m i) = apart l m + 1 := by
        unfold apart
        refine cnt2_one (pl.nodup_iff.mpr nd) (a := a) (b := b) (pl.mem_iff.mpr ha) (pl.mem_iff.mpr hb) (by rw [lab, N.bef_ba]; rfl) (by rw [N.ba]; simp) fun x _ y _ n => ?_
        by_cases e2 : x = b ∧ y = a
        · obtain ⟨rfl, rfl⟩ := e2
          rw [bef_asym lab]
          rfl
        · rw [N.bef_else (fun e => e2 ⟨e.2, e.1⟩) (fun e => n ⟨e.2, e.1⟩)]
      rw [key, I.ap]
    · by_cases e1 : x = a ∧ y = b
      · obtain ⟨rfl, rfl⟩ := e1
        exact lab
      · by_cases e2 : x = b ∧ y = a
        · obtain ⟨rfl, rfl⟩ := e2
          rw [T.asym hb ha hR] at r
          cases r
        · rw [N.bef_else e1 e2] at q
          exact I.old x y q r

/-! ### the settled list is one -/
inductive Ch (R : Rd) (ks l : List Int) : Int → Int → Prop where
  | one {u v : Int} : u ∈ ks → v ∈ ks → Pin R ks u v → bef l u v = true → Ch R ks l u v
  | cons {u w v : Int} : u ∈ ks → w ∈ ks → Pin R ks u w → bef l u w = true → Ch R ks l w v → Ch R ks l u v
theorem Ch.bef {R : Rd} {ks l m : List Int} (c : Cl R ks l m) : ∀ {u v : Int}, Ch R ks l u v → QD.bef m u v = true
  | _, _, .one hu hv p b => by rw [← c _ hu _ hv p]; exact b
  | _, _, .cons hu hw p b r => bef_trans (by rw [← c _ hu _ hw p]; exact b) (Ch.bef c r)

theorem turn_at (p : Nat → Bool) : ∀ (d i : Nat), p i = true → p (i + d) = false → ∃ k, i ≤ k ∧ k < i + d ∧ p k = true ∧ p (k + 1) = false
  | 0, i, h1, h2 => by
    rw [Nat.add_zero, h1] at h2
    cases h2
  | d + 1, i, h1, h2 => by
    cases e : p (i + 1) with
    | false => exact ⟨i, Nat.le_refl _, by omega, h1, e⟩
    | true =>
      obtain ⟨k, a, b, c⟩ := turn_at p d (i + 1) e (by rw [← h2]; congr 1; omega)
      exact ⟨k, by omega, by omega, c⟩

theorem chain {R : Rd} {ks l : List Int} (T : Tour R ks) (nd : ks.Nodup) (pl : l.Perm ks) (S : Settled R l) : ∀ (d i j : Nat) (u v : Int), j - i ≤ d → i < j → l[i]? = some u → l[j]? = some v → R v u = true → Ch R ks l u v
  | 0, i, j, u, v, hd, hij, _, _, _ => by omega
  | d + 1, i, j, u, v, hd, hij, hu, hv, hR => by
    have ndl := pl.nodup_iff.mpr nd
    have len : ∀ k, k ≤ j → ∃ x, l[k]? = some x ∧ x ∈ ks := fun k hk => by
      have hl := (List.getElem?_eq_some_iff.mp hv).1
      have hk' : k < l.length := by omega
      exact ⟨l[k], List.getElem?_eq_getElem hk', pl.mem_iff.mp (List.getElem_mem _)⟩
    have uk : u ∈ ks := pl.mem_iff.mp (List.mem_of_getElem? hu)
    have vk : v ∈ ks := pl.mem_iff.mp (List.mem_of_getElem? hv)
    have inj : ∀ {k k' : Nat} {x : Int}, l[k]? = some x → l[k']? = some x → k = k' := fun q1 q2 => by rw [← idx_at ndl q1, idx_at ndl q2]
    have bf : ∀ {k k' : Nat} {x y : Int}, k < k' → l[k]? = some x → l[k']? = some y → bef l x y = true := fun q q1 q2 => by rw [bef_iff, idx_at ndl q1, idx_at ndl q2]; exact q
    have adj : ∀ {k : Nat} {x y : Int}, l[k]? = some x → l[k + 1]? = some y → R x y = true := fun {k x y} q1 q2 => by
      have n : x ≠ y := fun e => by
        rw [e] at q1
        have := inj q1 q2
        omega
      have z := S k x y q1 q2
      rw [T.tot x (pl.mem_iff.mp (List.mem_of_getElem? q1)) y (pl.mem_iff.mp (List.mem_of_getElem? q2)) n] at z
      cases e : R x y with
      | true => rfl
      | false => rw [e] at z; cases z
    obtain ⟨x1, hx1, _⟩ := len (i + 1) (by omega)
    by_cases e1 : i + 1 = j
    · rw [e1] at hx1
      have e : x1 = v := by rw [hx1] at hv; exact Option.some.inj hv
      have := adj hu (by rw [e1]; exact hv)
      rw [T.asym uk vk this] at hR
      cases hR
    · -- the last place behind i that is read behind u
      let p : Nat → Bool := fun k => match l[k]? with
        | some x => R u x
        | none => false
      have p1 : p (i + 1) = true := by
        show (match l[i + 1]? with | some x => R u x | none => false) = true
        rw [hx1]
        exact adj hu hx1
      have p2 : p (i + 1 + (j - (i + 1))) = false := by
        rw [show i + 1 + (j - (i + 1)) = j by omega]
        show (match l[j]? with | some x => R u x | none => false) = false
        rw [hv]
        exact T.asym vk uk hR
      obtain ⟨k, k1, k2, k3, k4⟩ := turn_at p _ _ p1 p2
      obtain ⟨w, hw, wk⟩ := len k (by omega)
      obtain ⟨w', hw', wk'⟩ := len (k + 1) (by omega)
      have r1 : R u w = true := by
        have z : (match l[k]? with | some x => R u x | none => false) = true := k3
        rw [hw] at z
        exact z
      have r2 : R w' u = true := by
        have z : (match l[k + 1]? with | some x => R u x | none => false) = false := k4
        rw [hw'] at z
        have n : u ≠ w' := fun e => by
          rw [← e] at hw'
          have := inj hu hw'
          omega
        rw [T.tot u uk w' wk' n]
        have z2 : R u w' = false := z
        rw [z2]
        rfl
      have r3 := adj hw hw'
      have nwv : w ≠ v := fun e => by
        rw [e] at hw
        have := inj hw hv
        omega
      cases e : R w v with
      | true => exact .one uk vk ⟨w, wk, .inr ⟨hR, r1, e⟩⟩ (bf hij hu hv)
      | false =>
        have r4 : R v w = true := by
          rw [T.tot w wk v vk nwv, e]
          rfl
        refine .cons uk wk ⟨w', wk', .inl ⟨r1, r3, r2⟩⟩ (bf (by omega) hu hw) (chain T nd pl S d k j w v (by omega) (by omega) hw hv r4)

theorem ext_bef : ∀ {l m : List Int}, l.Nodup → l.Perm m → (∀ x ∈ l, ∀ y ∈ l, bef l x y = true → bef m x y = true) → l = m
  | [], m, _, p, _ => (List.Perm.nil_eq p)
  | a :: t, [], _, p, _ => by simp at p
  | a :: t, b :: t', nd, p, h => by
    have ab : a = b := by
      by_cases e : a = b
      · exact e
      · have hb : b ∈ a :: t := p.mem_iff.mpr List.mem_cons_self
        have q : bef (a :: t) a b = true := by
          rw [bef_iff, idx_cons, idx_cons, if_pos rfl, if_neg e]
          omega
        have z := h a List.mem_cons_self b hb q
        rw [bef_iff, idx_cons b b, if_pos rfl] at z
        omega
    subst ab
    have nd' := nd
    rw [List.nodup_cons] at nd
    have pt : t.Perm t' := List.Perm.cons_inv p
    congr 1
    refine ext_bef nd.2 pt fun x hx y hy q => ?_
    have nx : ¬ a = x := fun e => nd.1 (by rw [e]; exact hx)
    have ny : ¬ a = y := fun e => nd.1 (by rw [e]; exact hy)
    have z := h x (List.mem_cons_of_mem _ hx) y (List.mem_cons_of_mem _ hy) (by
      rw [bef_iff] at q ⊢
      rw [idx_cons, idx_cons, if_neg nx, if_neg ny]
      omega)
    rw [bef_iff] at z ⊢
    rw [idx_cons, idx_cons, if_neg nx, if_neg ny] at z
    omega

theorem settled_bef {R : Rd} {ks l m : List Int} (T : Tour R ks) (nd : ks.Nodup) (pl : l.Perm ks) (pm : m.Perm ks) (Sl : Settled R l) (Sm : Settled R m) (c : Cl R ks l m) {x y : Int} (hx : x ∈ ks) (hy : y ∈ ks) (h : bef l x y = true) : bef m x y = true := by
  have n : x ≠ y := fun e => by rw [e, bef_irr] at h; cases h
  cases e : R y x with
  | true =>
    refine Ch.bef c (chain T nd pl Sl _ (l.idxOf x) (l.idxOf y) x y (Nat.le_refl _) (bef_iff.mp h) (at_idx (pl.mem_iff.mpr hx)) (at_idx (pl.mem_iff.mpr hy)) e)
  | false =>
    cases e2 : bef m x y with
    | true => rfl
    | false =>
      have q : bef m y x = true := by rw [bef_tot (pm.mem_iff.mpr hx) (pm.mem_iff.mpr hy) n, e2]; rfl
      have r : R x y = true := by rw [T.tot y hy x hx (Ne.symm n), e]; rfl
      have z := Ch.bef c.symm (chain T nd pm Sm _ (m.idxOf y) (m.idxOf x) y x (Nat.le_refl _) (bef_iff.mp q) (at_idx (pm.mem_iff.mpr hy)) (at_idx (pm.mem_iff.mpr hx)) r)
      rw [bef_asym h] at z
      cases z

/-- two settled lists with the same words at pinned pairs are one -/
theorem settled_one {R : Rd} {ks l m : List Int} (T : Tour R ks) (nd : ks.Nodup) (pl : l.Perm ks) (pm : m.Perm ks) (Sl : Settled R l) (Sm : Settled R m) (c : Cl R ks l m) : l = m :=
  ext_bef (pl.nodup_iff.mpr nd) (pl.trans pm.symm) fun x hx y hy h => settled_bef T nd pl pm Sl Sm c (pl.mem_iff.mp hx) (pl.mem_iff.mp hy) h

/-! ### replica lists -/
structure KOk (l : List Int) : Prop where
  nd : l.Nodup
  len : l.length ≤ 10
  lo : ∀ k ∈ l, 0 ≤ k
  hi : ∀ k ∈ l, k ≤ 9999
theorem KOk.perm {l m : List Int} (h : KOk l) (p : m.Perm l) : KOk m :=
  ⟨p.nodup_iff.mpr h.nd, by rw [p.length_eq]; exact h.len, fun k hk => h.lo k (p.mem_iff.mp hk), fun k hk => h.hi k (p.mem_iff.mp hk)⟩
def srt (l : List Int) : List Int := l.mergeSort fun a b => decide (a ≤ b)
theorem srt_perm (l : List Int) : (srt l).Perm l := List.mergeSort_perm _ _
theorem srt_le (l : List Int) : (srt l).Pairwise (· ≤ ·) := by
  have h := List.pairwise_mergeSort (le := fun a b : Int => decide (a ≤ b)) (fun a b c h1 h2 => by simp at *; omega) (fun a b => by simp; omega) l
  exact h.imp fun q => of_decide_eq_true q
theorem srt_of {l m : List Int} (p : m.Perm l) (h : m.Pairwise (· ≤ ·)) : m = srt l :=
  List.Perm.eq_of_pairwise (fun a b _ _ h1 h2 => Int.le_antisymm h1 h2) h (srt_le l) (p.trans (srt_perm l).symm)
theorem srt_same {l m : List Int} (p : m.Perm l) : srt m = srt l := srt_of ((srt_perm m).trans p) (srt_le m)

/-! ### states: the three lists -/
abbrev LS := Nat → List Int
structure StOk (L : LS) : Prop where
  ok : KOk (L 0)
  p1 : (L 1).Perm (L 0)
  p2 : (L 2).Perm (L 0)
theorem StOk.perm {L : LS} (h : StOk L) : ∀ {w : Nat}, w < 3 → (L w).Perm (L 0)
  | 0, _ => .refl _
  | 1, _ => h.p1
  | 2, _ => h.p2
  | n + 3, q => by omega
theorem StOk.kok {L : LS} (h : StOk L) {w : Nat} (q : w < 3) : KOk (L w) := h.ok.perm (h.perm q)
/-- one list replaced -/
def setL (L : LS) (w : Nat) (l : List Int) : LS := fun i => if i = w then l else L i
theorem setL_same (L : LS) (w : Nat) (l : List Int) : setL L w l w = l := if_pos rfl
theorem setL_ne (L : LS) {w i : Nat} (l : List Int) (h : i ≠ w) : setL L w l i = L i := if_neg h
theorem StOk.set {L : LS} (h : StOk L) {w : Nat} (hw : w < 3) {l : List Int} (p : l.Perm (L 0)) : StOk (setL L w l) := by
  have key : ∀ i, i < 3 → (setL L w l i).Perm (L 0) := fun i hi => by
    by_cases e : i = w
    · rw [e, setL_same]
      exact p
    · rw [setL_ne L l e]
      exact h.perm hi
  have k0 := key 0 (by decide)
  exact ⟨h.ok.perm k0, (key 1 (by decide)).trans k0.symm, (key 2 (by decide)).trans k0.symm⟩

/-! ### the reading of a state -/
def maj (a b c : Bool) : Bool := (a && b) || (a && c) || (b && c)
theorem maj_rot (a b c : Bool) : maj b c a = maj a b c := by cases a <;> cases b <;> cases c <;> rfl
def rd (L : LS) : Rd := fun x y => maj (bef (L 0) x y) (bef (L 1) x y) (bef (L 2) x y)
def oth (w : Nat) : Nat := (w + 1) % 3
def thr (w : Nat) : Nat := (w + 2) % 3
theorem oth_lt (w : Nat) : oth w < 3 := Nat.mod_lt _ (by decide)
theorem thr_lt (w : Nat) : thr w < 3 := Nat.mod_lt _ (by decide)
theorem oth_ne {w : Nat} (h : w < 3) : oth w ≠ w := by unfold oth; omega
theorem thr_ne {w : Nat} (h : w < 3) : thr w ≠ w := by unfold thr; omega
theorem rd_at (L : LS) {w : Nat} (h : w < 3) (x y : Int) : rd L x y = maj (bef (L w) x y) (bef (L (oth w)) x y) (bef (L (thr w)) x y) := by
  match w, h with
  | 0, _ => rfl
  | 1, _ => exact (maj_rot _ _ _).symm
  | 2, _ => exact ((maj_rot _ _ _).trans (maj_rot _ _ _)).symm
theorem rd_set (L : LS) {w : Nat} (h : w < 3) (l : List Int) (x y : Int) : rd (setL L w l) x y = maj (bef l x y) (bef (L (oth w)) x y) (bef (L (thr w)) x y) := by
  rw [rd_at _ h, setL_same, setL_ne _ _ (oth_ne h), setL_ne _ _ (thr_ne h)]
theorem rd_count (L : LS) (x y : Int) : decide (2 ≤ ((List.range 3).filter fun i => bef (L i) x y).length) = rd L x y := by
  unfold rd
  show decide (2 ≤ (([0, 1, 2] : List Nat).filter fun i => bef (L i) x y).length) = _
  simp only [List.filter_cons, List.filter_nil]
  cases bef (L 0) x y <;> cases bef (L 1) x y <;> cases bef (L 2) x y <;> rfl
theorem StOk.mem {L : LS} (h : StOk L) {w : Nat} (hw : w < 3) {x : Int} : x ∈ L w ↔ x ∈ L 0 := (h.perm hw).mem_iff
theorem rd_tour {L : LS} (h : StOk L) : Tour (rd L) (L 0) := by
  refine ⟨fun x => ?_, fun x hx y hy n => ?_⟩
  · unfold rd
    rw [bef_irr, bef_irr, bef_irr]
    rfl
  · unfold rd
    rw [bef_tot hx hy n, bef_tot ((h.mem (w := 1) (by decide)).mpr hx) ((h.mem (w := 1) (by decide)).mpr hy) n, bef_tot ((h.mem (w := 2) (by decide)).mpr hx) ((h.mem (w := 2) (by decide)).mpr hy) n]
    cases bef (L 0) x y <;> cases bef (L 1) x y <;> cases bef (L 2) x y <;> rfl
/-- in each cycle each list dissents once -/
theorem rd_good {L : LS} (h : StOk L) {w : Nat} (hw : w < 3) : Good (rd L) (L 0) (L w) := fun x hx y hy z hz h1 h2 r1 r2 => by
  have mo : ∀ {u : Int}, u ∈ L 0 → u ∈ L (oth w) := fun q => (h.mem (oth_lt w)).mpr q
  have mt : ∀ {u : Int}, u ∈ L 0 → u ∈ L (thr w) := fun q => (h.mem (thr_lt w)).mpr q
  rw [rd_at L hw, bef_asym h1] at r1
  rw [rd_at L hw, bef_asym h2] at r2
  have o1 : bef (L (oth w)) y x = true ∧ bef (L (thr w)) y x = true := by
    revert r1
    cases bef (L (oth w)) y x <;> cases bef (L (thr w)) y x <;> simp [maj]
  have o2 : bef (L (oth w)) z y = true ∧ bef (L (thr w)) z y = true := by
    revert r2
    cases bef (L (oth w)) z y <;> cases bef (L (thr w)) z y <;> simp [maj]
  have z1 := bef_asym (bef_trans o2.1 o1.1)
  have z2 := bef_asym (bef_trans o2.2 o1.2)
  rw [rd_at L hw, z1, z2]
  cases bef (L w) x z <;> rfl

/-! ### silent swaps -/
section
variable {L : LS} {w i : Nat} {a b : Int}
theorem silent_rd (h : StOk L) (hw : w < 3) (n : Nb (L w) i a b) (q : bef (L (oth w)) a b = bef (L (thr w)) a b) : rd (setL L w (swp (L w) i)) = rd L := by
  funext x y
  rw [rd_set L hw, rd_at L hw]
  have ma := (h.mem hw).mp n.ma
  have mb := (h.mem hw).mp n.mb
  by_cases e1 : x = a ∧ y = b
  · obtain ⟨rfl, rfl⟩ := e1
    rw [q]
    cases bef (swp (L w) i) x y <;> cases bef (L w) x y <;> cases bef (L (thr w)) x y <;> rfl
  · by_cases e2 : x = b ∧ y = a
    · obtain ⟨rfl, rfl⟩ := e2
      rw [bef_tot ((h.mem (oth_lt w)).mpr ma) ((h.mem (oth_lt w)).mpr mb) n.ne, bef_tot ((h.mem (thr_lt w)).mpr ma) ((h.mem (thr_lt w)).mpr mb) n.ne, q]
      cases bef (swp (L w) i) x y <;> cases bef (L w) x y <;> cases bef (L (thr w)) y x <;> rfl
    · rw [n.bef_else e1 e2]
theorem silent_free (h : StOk L) (hw : w < 3) (n : Nb (L w) i a b) (q : bef (L (oth w)) a b = bef (L (thr w)) a b) : ¬ Pin (rd L) (L 0) a b := by
  have ma := (h.mem hw).mp n.ma
  have mb := (h.mem hw).mp n.mb
  have T := rd_tour h
  have mo : ∀ {u : Int}, u ∈ L 0 → u ∈ L (oth w) := fun q => (h.mem (oth_lt w)).mpr q
  have mt : ∀ {u : Int}, u ∈ L 0 → u ∈ L (thr w) := fun q => (h.mem (thr_lt w)).mpr q
  have mw : ∀ {u : Int}, u ∈ L 0 → u ∈ L w := fun q => (h.mem hw).mpr q
  rintro ⟨z, hz, p | p⟩
  · have za : z ≠ a := T.ne p.2.2
    have zb : z ≠ b := fun e => T.ne p.2.1 e.symm
    obtain ⟨p1, p2, p3⟩ := p
    rw [rd_at L hw, n.ab, q] at p1
    have c1 : bef (L (thr w)) a b = true := by
      revert p1
      cases bef (L (thr w)) a b <;> simp [maj]
    have c2 : bef (L (oth w)) a b = true := by rw [q]; exact c1
    rw [rd_at L hw] at p2 p3
    rw [← n.right za zb] at p2
    have e1 := bef_tot (mw ma) (mw hz) (Ne.symm za)
    have e2 := bef_tot (mo ma) (mo hz) (Ne.symm za)
    have e3 := bef_tot (mt ma) (mt hz) (Ne.symm za)
    have t1 : bef (L (oth w)) b z = true → bef (L (oth w)) a z = true := fun r => bef_trans c2 r
    have t2 : bef (L (thr w)) b z = true → bef (L (thr w)) a z = true := fun r => bef_trans c1 r
    rw [e1, e2, e3] at p3
    revert p2 p3 t1 t2
    cases bef (L w) a z <;> cases bef (L (oth w)) b z <;> cases bef (L (thr w)) b z <;> cases bef (L (oth w)) a z <;> cases bef (L (thr w)) a z <;> simp [maj]
  · have zb : z ≠ b := T.ne p.2.2
    have za : z ≠ a := fun e => T.ne p.2.1 e.symm
    obtain ⟨p1, p2, p3⟩ := p
    rw [rd_at L hw, n.ba] at p1
    have c : bef (L (oth w)) b a = true ∧ bef (L (thr w)) b a = true := by
      revert p1
      cases bef (L (oth w)) b a <;> cases bef (L (thr w)) b a <;> simp [maj]
    rw [rd_at L hw] at p2 p3
    have e1 := bef_tot (mw mb) (mw hz) (Ne.symm zb)
    have e2 := bef_tot (mo mb) (mo hz) (Ne.symm zb)
    have e3 := bef_tot (mt mb) (mt hz) (Ne.symm zb)
    have t1 : bef (L (oth w)) a z = true → bef (L (oth w)) b z = true := fun r => bef_trans c.1 r
    have t2 : bef (L (thr w)) a z = true → bef (L (thr w)) b z = true := fun r => bef_trans c.2 r
    rw [n.right za zb] at p2
    rw [e1, e2, e3] at p3
    revert p2 p3 t1 t2
    cases bef (L w) b z <;> cases bef (L (oth w)) b z <;> cases bef (L (thr w)) b z <;> cases bef (L (oth w)) a z <;> cases bef (L (thr w)) a z <;> simp [maj]
/-- a homeward exchange is silent -/
theorem home_quiet (h : StOk L) (hw : w < 3) (n : Nb (L w) i a b) (r : rd L b a = true) : bef (L (oth w)) a b = bef (L (thr w)) a b := by
  rw [rd_at L hw, n.ba] at r
  have c : bef (L (oth w)) b a = true ∧ bef (L (thr w)) b a = true := by
    revert r
    cases bef (L (oth w)) b a <;> cases bef (L (thr w)) b a <;> simp [maj]
  rw [bef_asym c.1, bef_asym c.2]
end
theorem Pin.keys {R : Rd} {ks ks' : List Int} (p : ks'.Perm ks) {x y : Int} (h : Pin R ks' x y) : Pin R ks x y := by
  obtain ⟨z, hz, h⟩ := h
  exact ⟨z, p.mem_iff.mp hz, h⟩
theorem Cl.keys {R : Rd} {ks ks' l m : List Int} (p : ks'.Perm ks) (h : Cl R ks l m) : Cl R ks' l m := fun x hx y hy q => h x (p.mem_iff.mp hx) y (p.mem_iff.mp hy) (q.keys p)
theorem Tour.keys {R : Rd} {ks ks' : List Int} (p : ks'.Perm ks) (h : Tour R ks) : Tour R ks' := ⟨h.irr, fun x hx y hy => h.tot x (p.mem_iff.mp hx) y (p.mem_iff.mp hy)⟩

/-! ### runs of silent swaps -/
def swS (L : LS) (s : Nat × Nat) : LS := setL L s.1 (swp (L s.1) s.2)
def runS (L : LS) (ss : List (Nat × Nat)) : LS := ss.foldl swS L
/-- the two others agree -/
def quiet (L : LS) (w i : Nat) : Bool := bef (L (oth w)) ((L w).getD i 0) ((L w).getD (i + 1) 0) == bef (L (thr w)) ((L w).getD i 0) ((L w).getD (i + 1) 0)
structure Val (L : LS) (s : Nat × Nat) : Prop where
  w : s.1 < 3
  i : s.2 + 1 < (L s.1).length
  q : quiet L s.1 s.2 = true
theorem nb_at {L : LS} (h : StOk L) {w i : Nat} (hw : w < 3) (hi : i + 1 < (L w).length) : Nb (L w) i ((L w).getD i 0) ((L w).getD (i + 1) 0) := by
  refine ⟨(h.kok hw).nd, ?_, ?_⟩
  · rw [List.getD_eq_getElem?_getD, List.getElem?_eq_getElem (by omega)]
    rfl
  · rw [List.getD_eq_getElem?_getD, List.getElem?_eq_getElem hi]
    rfl
/-- one silent swap: what stays -/
structure Stay (L M : LS) : Prop where
  ok : StOk M
  rd : rd M = rd L
  k0 : (M 0).Perm (L 0)
  cl : ∀ w, w < 3 → Cl (QD.rd L) (L 0) (L w) (M w)
theorem Stay.refl {L : LS} (h : StOk L) : Stay L L := ⟨h, rfl, .refl _, fun _ _ => .refl _ _ _⟩
theorem Stay.trans {L M N : LS} (a : Stay L M) (b : Stay M N) : Stay L N :=
  ⟨b.ok, b.rd.trans a.rd, b.k0.trans a.k0, fun w hw => (a.cl w hw).trans (by
    have z := b.cl w hw
    rw [a.rd] at z
    exact z.keys a.k0.symm)⟩
theorem Val.stay {L : LS} (h : StOk L) {s : Nat × Nat} (v : Val L s) : Stay L (swS L s) := by
  have n := nb_at h v.w v.i
  have q : bef (L (oth s.1)) ((L s.1).getD s.2 0) ((L s.1).getD (s.2 + 1) 0) = bef (L (thr s.1)) ((L s.1).getD s.2 0) ((L s.1).getD (s.2 + 1) 0) := beq_iff_eq.mp v.q
  have p : (swp (L s.1) s.2).Perm (L 0) := (swp_perm _ _).trans (h.perm v.w)
  have ok : StOk (swS L s) := h.set v.w p
  refine ⟨ok, silent_rd h v.w n q, ?_, fun w hw => ?_⟩
  · unfold swS
    by_cases e : 0 = s.1
    · rw [← e, setL_same]
      exact swp_perm _ _
    · rw [setL_ne _ _ e]
  · unfold swS
    by_cases e : w = s.1
    · rw [e, setL_same]
      exact cl_swap n (silent_free h v.w n q)
    · rw [setL_ne _ _ e]
      exact .refl _ _ _
inductive Path : LS → List (Nat × Nat) → Prop where
  | nil {L : LS} : Path L []
  | cons {L : LS} {s : Nat × Nat} {ss : List (Nat × Nat)} : Val L s → Path (swS L s) ss → Path L (s :: ss)
theorem Path.stay : ∀ {ss : List (Nat × Nat)} {L : LS}, StOk L → Path L ss → Stay L (runS L ss)
  | [], _, h, _ => .refl h
  | s :: ss, L, h, .cons v p => by
    have a := v.stay h
    exact a.trans (Path.stay a.ok p)
theorem Path.take : ∀ {ss : List (Nat × Nat)} {L : LS} (n : Nat), Path L ss → Path L (ss.take n)
  | _, _, 0, _ => .nil
  | [], _, n + 1, _ => .nil
  | s :: ss, L, n + 1, .cons v p => .cons v (Path.take n p)
theorem Path.at_ : ∀ {ss : List (Nat × Nat)} {L : LS} {i : Nat} {s : Nat × Nat}, Path L ss → ss[i]? = some s → Val (runS L (ss.take i)) s
  | t :: ss, _, 0, s, .cons v _, h => by
    obtain rfl := Option.some.inj h
    exact v
  | t :: ss, L, i + 1, s, .cons v p, h => Path.at_ (L := swS L t) p h
theorem Path.snoc : ∀ {ss : List (Nat × Nat)} {L : LS} {s : Nat × Nat}, Path L ss → Val (runS L ss) s → Path L (ss ++ [s])
  | [], _, _, _, v => .cons v .nil
  | t :: ss, L, s, .cons v p, u => .cons v (Path.snoc p u)
theorem runS_snoc (L : LS) (ss : List (Nat × Nat)) (s : Nat × Nat) : runS L (ss ++ [s]) = swS (runS L ss) s := by
  unfold runS
  rw [List.foldl_append]
  rfl

/-! ### settled states -/
/-- the lists named by ns are settled, the others as they were -/
structure SetTo (L : LS) (ns : List Nat) (M : LS) : Prop where
  yes : ∀ w, w < 3 → w ∈ ns → ∃ n, Hw (rd L) (L w) n (M w) ∧ Settled (rd L) (M w)
  no : ∀ w, w < 3 → w ∉ ns → M w = L w
theorem hw_rd {L : LS} (h : StOk L) {w : Nat} (hw : w < 3) : ∀ {n : Nat} {m : List Int}, Hw (rd L) (L w) n m → rd (setL L w m) = rd L
  | _, _, .nil => by
    funext x y
    rw [rd_set L hw, rd_at L hw]
  | _, _, .snoc (m := m) (i := i) (a := a) (b := b) q h1 h2 r => by
    have ih := hw_rd h hw q
    have ok := Hw.ok (rd_tour h) h.ok.nd (h.perm hw) (rd_good h hw) q
    have h' := h.set hw ok.perm
    have n : Nb (setL L w m w) i a b := by
      rw [setL_same]
      exact ⟨(ok.perm.nodup_iff).mpr h.ok.nd, h1, h2⟩
    have r' : rd (setL L w m) b a = true := by rw [ih]; exact r
    have z := silent_rd h' hw n (home_quiet h' hw n r')
    rw [setL_same] at z
    have e : setL (setL L w m) w (swp m i) = setL L w (swp m i) := by
      funext j
      by_cases ej : j = w
      · rw [ej, setL_same, setL_same]
      · rw [setL_ne _ _ ej, setL_ne _ _ ej, setL_ne _ _ ej]
    rw [e, ih] at z
    exact z
theorem hw_ok {L : LS} (h : StOk L) {w : Nat} (hw : w < 3) {n : Nat} {m : List Int} (q : Hw (rd L) (L w) n m) : HwOk (rd L) (L 0) (L w) n m := Hw.ok (rd_tour h) h.ok.nd (h.perm hw) (rd_good h hw) q
/-- partly settled: it stays -/
theorem stay_of {L M : LS} (h : StOk L) (k : ∀ w, w < 3 → ∃ n, Hw (rd L) (L w) n (M w)) : Stay L M := by
  obtain ⟨n0, q0⟩ := k 0 (by decide)
  obtain ⟨n1, q1⟩ := k 1 (by decide)
  obtain ⟨n2, q2⟩ := k 2 (by decide)
  have o0 := hw_ok h (by decide) q0
  have o1 := hw_ok h (by decide) q1
  have o2 := hw_ok h (by decide) q2
  have r0 := hw_rd h (by decide) q0
  have h0 := h.set (w := 0) (by decide) o0.perm
  have q1' : Hw (rd (setL L 0 (M 0))) (setL L 0 (M 0) 1) n1 (M 1) := by rw [r0, setL_ne _ _ (by decide)]; exact q1
  have r1 := hw_rd h0 (w := 1) (by decide) q1'
  have h1 := h0.set (w := 1) (by decide) (hw_ok h0 (by decide) q1').perm
  have q2' : Hw (rd (setL (setL L 0 (M 0)) 1 (M 1))) (setL (setL L 0 (M 0)) 1 (M 1) 2) n2 (M 2) := by rw [r1, r0, setL_ne _ _ (by decide), setL_ne _ _ (by decide)]; exact q2
  have r2 := hw_rd h1 (w := 2) (by decide) q2'
  have e : rd (setL (setL (setL L 0 (M 0)) 1 (M 1)) 2 (M 2)) = rd M := rfl
  rw [e] at r2
  refine ⟨⟨(h.ok).perm o0.perm, o1.perm.trans o0.perm.symm, o2.perm.trans o0.perm.symm⟩, by rw [r2, r1, r0], o0.perm, fun w hw => ?_⟩
  obtain ⟨n, q⟩ := k w hw
  exact (hw_ok h hw q).cl
theorem SetTo.stay {L M : LS} {ns : List Nat} (h : StOk L) (s : SetTo L ns M) : Stay L M := stay_of h fun w hw => by
  by_cases e : w ∈ ns
  · obtain ⟨n, q, _⟩ := s.yes w hw e
    exact ⟨n, q⟩
  · rw [s.no w hw e]
    exact ⟨0, .nil⟩
/-- all that comes of one state by silent swaps has one settled form -/
theorem home_one {L L1 L2 : LS} (h : StOk L) (s1 : Stay L L1) (s2 : Stay L L2) {w : Nat} (hw : w < 3) {n1 n2 : Nat} {m1 m2 : List Int} (q1 : Hw (rd L1) (L1 w) n1 m1) (q2 : Hw (rd L2) (L2 w) n2 m2)
    (e1 : Settled (rd L1) m1) (e2 : Settled (rd L2) m2) : m1 = m2 := by
  have o1 := hw_ok s1.ok hw q1
  have o2 := hw_ok s2.ok hw q2
  have c1 := o1.cl
  have c2 := o2.cl
  rw [s1.rd] at c1 e1
  rw [s2.rd] at c2 e2
  have z : Cl (rd L) (L 0) m1 m2 := ((c1.keys s1.k0.symm).symm.trans (s1.cl w hw).symm).trans ((s2.cl w hw).trans (c2.keys s2.k0.symm))
  exact settled_one (rd_tour h) h.ok.nd (o1.perm.trans s1.k0) (o2.perm.trans s2.k0) e1 e2 z


/-! ### counting pairs -/
def c2 (l m : List Int) (p : Int → Int → Bool) : Nat := (l.map fun x => m.countP (p x)).sum
theorem c2_cons_right (l m : List Int) (a : Int) (p : Int → Int → Bool) : c2 l (a :: m) p = l.countP (fun x => p x a) + c2 l m p := by
  unfold c2
  induction l with
  | nil => rfl
  | cons x t ih =>
    rw [List.map_cons, List.sum_cons, ih, List.map_cons, List.sum_cons, List.countP_cons, List.countP_cons]
    omega
theorem c2_swap (l m : List Int) (p : Int → Int → Bool) : c2 l m p = c2 m l fun x y => p y x := by
  induction m with
  | nil =>
    unfold c2
    show _ = 0
    induction l with
    | nil => rfl
    | cons x t ih => rw [List.map_cons, List.sum_cons, ih]; rfl
  | cons a m ih =>
    rw [c2_cons_right, ih]
    unfold c2
    rw [List.map_cons, List.sum_cons]
theorem cnt2_swap (l : List Int) (p : Int → Int → Bool) : cnt2 l p = cnt2 l fun x y => p y x := c2_swap l l p
theorem sum_le {α : Type} {l : List α} {f g : α → Nat} (h : ∀ x ∈ l, f x ≤ g x) : (l.map f).sum ≤ (l.map g).sum := by
  induction l with
  | nil => exact Nat.le_refl _
  | cons a t ih =>
    rw [List.map_cons, List.sum_cons, List.map_cons, List.sum_cons]
    have := h a List.mem_cons_self
    have := ih fun x hx => h x (List.mem_cons_of_mem _ hx)
    omega
theorem sum_add {α : Type} (l : List α) (f g : α → Nat) : (l.map f).sum + (l.map g).sum = (l.map fun x => f x + g x).sum := by
  induction l with
  | nil => rfl
  | cons a t ih =>
    rw [List.map_cons, List.sum_cons, List.map_cons, List.sum_cons, List.map_cons, List.sum_cons, ← ih]
    omega
def b2 (b : Bool) : Nat := if b = true then 1 else 0
theorem cP_add3 {l : List Int} {p q r s : Int → Bool} (h : ∀ x ∈ l, b2 (p x) + b2 (q x) + b2 (r x) ≤ b2 (s x)) : l.countP p + l.countP q + l.countP r ≤ l.countP s := by
  induction l with
  | nil => exact Nat.le_refl _
  | cons a t ih =>
    have z := h a List.mem_cons_self
    have := ih fun x hx => h x (List.mem_cons_of_mem _ hx)
    unfold b2 at z
    rw [List.countP_cons, List.countP_cons, List.countP_cons, List.countP_cons]
    omega
theorem cnt2_add3 {l : List Int} {p q r s : Int → Int → Bool} (h : ∀ x ∈ l, ∀ y ∈ l, b2 (p x y) + b2 (q x y) + b2 (r x y) ≤ b2 (s x y)) : cnt2 l p + cnt2 l q + cnt2 l r ≤ cnt2 l s := by
  unfold cnt2
  rw [sum_add, sum_add]
  exact sum_le fun x hx => cP_add3 fun y hy => h x hx y hy
theorem sum_const {α : Type} (n : Nat) : ∀ m : List α, (m.map fun _ => n).sum = m.length * n
  | [] => by simp
  | c :: t => by rw [List.map_cons, List.sum_cons, sum_const n t, List.length_cons, Nat.succ_mul]; omega
theorem cnt2_true (l : List Int) : cnt2 l (fun _ _ => true) = l.length * l.length := by
  unfold cnt2
  have e : (fun x : Int => l.countP ((fun _ _ => true : Int → Int → Bool) x)) = fun _ => l.length := funext fun x => List.countP_eq_length.mpr fun _ _ => rfl
  rw [e, sum_const]
theorem cnt2_half {l : List Int} {p : Int → Int → Bool} (h : ∀ x ∈ l, ∀ y ∈ l, p x y = true → p y x = false) : 2 * cnt2 l p ≤ l.length * l.length := by
  have z := cnt2_add3 (l := l) (p := p) (q := fun x y => p y x) (r := fun _ _ => false) (s := fun _ _ => true) fun x hx y hy => by
    have q := h x hx y hy
    unfold b2
    revert q
    cases p x y <;> cases p y x <;> simp
  have e := cnt2_swap l p
  rw [cnt2_true] at z
  omega
/-- the pairs that R reads -/
def prsL (ks : List Int) (R : Rd) : List (Int × Int) := ks.flatMap fun x => (ks.filter (R x)).map fun y => (x, y)
theorem mem_prsL {ks : List Int} {R : Rd} {x y : Int} : (x, y) ∈ prsL ks R ↔ x ∈ ks ∧ y ∈ ks ∧ R x y = true := by
  unfold prsL
  rw [List.mem_flatMap]
  constructor
  · rintro ⟨a, ha, h⟩
    obtain ⟨b, hb, e⟩ := List.mem_map.mp h
    obtain ⟨rfl, rfl⟩ := Prod.mk.inj e
    obtain ⟨h1, h2⟩ := List.mem_filter.mp hb
    exact ⟨ha, h1, h2⟩
  · rintro ⟨hx, hy, r⟩
    exact ⟨x, hx, List.mem_map.mpr ⟨y, List.mem_filter.mpr ⟨hy, r⟩, rfl⟩⟩
theorem prsL_nd {ks : List Int} {R : Rd} (nd : ks.Nodup) : (prsL ks R).Nodup := by
  unfold prsL
  have key : ∀ l : List Int, l.Nodup → (l.flatMap fun x => (ks.filter (R x)).map fun y => (x, y)).Nodup := by
    intro l hl
    induction l with
    | nil => exact List.nodup_nil
    | cons a t ih =>
      rw [List.flatMap_cons]
      obtain ⟨h1, h2⟩ := List.nodup_cons.mp hl
      refine List.nodup_append.mpr ⟨?_, ih h2, ?_⟩
      · have : (ks.filter (R a)).Nodup := nd.filter _
        exact List.Pairwise.map _ (fun x y n e => n (Prod.mk.inj e).2) this
      · intro p hp q hq e
        subst e
        obtain ⟨b, _, e1⟩ := List.mem_map.mp hp
        obtain ⟨c, hc, hq⟩ := List.mem_flatMap.mp hq
        obtain ⟨d, _, e2⟩ := List.mem_map.mp hq
        rw [← e1] at e2
        rw [(Prod.mk.inj e2).1] at hc
        exact h1 hc
  exact key ks nd
theorem prsL_len (ks : List Int) (R : Rd) : (prsL ks R).length = cnt2 ks R := by
  unfold prsL cnt2
  rw [List.length_flatMap]
  congr 1
  refine List.map_congr_left fun x _ => ?_
  rw [List.length_map, List.countP_eq_length_filter]
/-- those of the first i keys -/
def prsT (ks : List Int) (R : Rd) (i : Nat) : List (Int × Int) := (ks.take i).flatMap fun x => (ks.filter (R x)).map fun y => (x, y)
def rowT (ks : List Int) (R : Rd) (x : Int) (j : Nat) : List (Int × Int) := ((ks.take j).filter (R x)).map fun y => (x, y)
theorem prsT_full {ks : List Int} {R : Rd} : prsT ks R ks.length = prsL ks R := by
  unfold prsT prsL
  rw [List.take_length]
theorem rowT_snoc {ks : List Int} {R : Rd} {x y : Int} {j : Nat} (h : ks[j]? = some y) : rowT ks R x (j + 1) = if R x y = true then rowT ks R x j ++ [(x, y)] else rowT ks R x j := by
  unfold rowT
  rw [List.take_succ, h]
  show List.map _ (List.filter _ (_ ++ [y])) = _
  rw [List.filter_append, List.map_append]
  by_cases e : R x y = true
  · rw [if_pos e, List.filter_cons_of_pos e]
    rfl
  · rw [if_neg e, List.filter_cons_of_neg e]
    exact List.append_nil _
theorem prsT_snoc {ks : List Int} {R : Rd} {x : Int} {i : Nat} (h : ks[i]? = some x) : prsT ks R (i + 1) = prsT ks R i ++ rowT ks R x ks.length := by
  unfold prsT rowT
  rw [List.take_succ, h]
  show List.flatMap _ (_ ++ [x]) = _
  rw [List.flatMap_append, List.take_length, List.flatMap_cons, List.flatMap_nil, List.append_nil]
theorem prsT_sub {ks : List Int} {R : Rd} {x : Int} {i j : Nat} (h : ks[i]? = some x) : (prsT ks R i ++ rowT ks R x j).Sublist (prsL ks R) := by
  have e : (prsT ks R (i + 1)).Sublist (prsL ks R) := by
    unfold prsT prsL
    have e := congrArg (fun l => l.flatMap fun x => (ks.filter (R x)).map fun y => (x, y)) (List.take_append_drop (i + 1) ks)
    rw [List.flatMap_append] at e
    rw [← e]
    exact List.sublist_append_left _ _
  refine List.Sublist.trans ?_ e
  rw [prsT_snoc h]
  refine List.Sublist.append_left ?_ _
  unfold rowT
  rw [List.take_length]
  exact ((List.take_sublist _ _).filter _).map _
theorem rd_half {ks : List Int} {R : Rd} (T : Tour R ks) (h : ks.length ≤ 10) : cnt2 ks R ≤ 50 := by
  have z := cnt2_half (l := ks) (p := R) fun x hx y hy q => T.asym hx hy q
  have : ks.length * ks.length ≤ 10 * 10 := Nat.mul_le_mul h h
  omega

/-! ### the homeward places -/
def nearI (R : Rd) (l : List Int) : List Nat := (List.range (l.length - 1)).filter fun i => R (l.getD (i + 1) 0) (l.getD i 0)
def nearL (R : Rd) (L : LS) (ns : List Nat) : List (Nat × Nat) := ns.flatMap fun w => (nearI R (L w)).map fun i => (w, i)
theorem mem_near {R : Rd} {L : LS} {ns : List Nat} {w i : Nat} : (w, i) ∈ nearL R L ns ↔ w ∈ ns ∧ i + 1 < (L w).length ∧ R ((L w).getD (i + 1) 0) ((L w).getD i 0) = true := by
  unfold nearL nearI
  rw [List.mem_flatMap]
  constructor
  · rintro ⟨a, ha, h⟩
    obtain ⟨b, hb, e⟩ := List.mem_map.mp h
    obtain ⟨rfl, rfl⟩ := Prod.mk.inj e
    obtain ⟨h1, h2⟩ := List.mem_filter.mp hb
    exact ⟨ha, by have := List.mem_range.mp h1; omega, h2⟩
  · rintro ⟨hx, hy, r⟩
    exact ⟨w, hx, List.mem_map.mpr ⟨i, List.mem_filter.mpr ⟨List.mem_range.mpr (by omega), r⟩, rfl⟩⟩
theorem getD_at {l : List Int} {i : Nat} (h : i < l.length) : l[i]? = some (l.getD i 0) := by
  rw [List.getD_eq_getElem?_getD, List.getElem?_eq_getElem h]
  rfl
theorem near_nil {R : Rd} {L : LS} {ns : List Nat} : nearL R L ns = [] ↔ ∀ w ∈ ns, Settled R (L w) := by
  rw [List.eq_nil_iff_forall_not_mem]
  constructor
  · intro h w hw i a b e1 e2
    have hi : i + 1 < (L w).length := (List.getElem?_eq_some_iff.mp e2).1
    have n := h (w, i)
    rw [mem_near] at n
    cases e : R b a with
    | false => rfl
    | true =>
      have e1' := getD_at (l := L w) (i := i) (by omega)
      have e2' := getD_at hi
      rw [e1] at e1'
      rw [e2] at e2'
      exact absurd ⟨hw, hi, by rw [← Option.some.inj e1', ← Option.some.inj e2']; exact e⟩ n
  · rintro h ⟨w, i⟩ m
    obtain ⟨h1, h2, h3⟩ := mem_near.mp m
    rw [h w h1 i _ _ (getD_at (by omega)) (getD_at h2)] at h3
    cases h3
def tot (R : Rd) (L : LS) : Nat := dis R (L 0) + dis R (L 1) + dis R (L 2)
theorem tot_le {L : LS} (h : StOk L) : tot (rd L) L ≤ 50 := by
  have T := rd_tour h
  have e1 : dis (rd L) (L 1) = cnt2 (L 0) fun x y => bef (L 1) x y && rd L y x := cnt2_perm h.p1 _
  have e2 : dis (rd L) (L 2) = cnt2 (L 0) fun x y => bef (L 2) x y && rd L y x := cnt2_perm h.p2 _
  unfold tot
  rw [e1, e2]
  have z : cnt2 (L 0) (fun x y => bef (L 0) x y && rd L y x) + cnt2 (L 0) (fun x y => bef (L 1) x y && rd L y x) + cnt2 (L 0) (fun x y => bef (L 2) x y && rd L y x) ≤ cnt2 (L 0) (fun x y => rd L y x) := cnt2_add3 fun x hx y hy => by
    unfold rd b2
    have a0 : bef (L 0) x y = true → bef (L 0) y x = false := bef_asym
    have a1 : bef (L 1) x y = true → bef (L 1) y x = false := bef_asym
    have a2 : bef (L 2) x y = true → bef (L 2) y x = false := bef_asym
    revert a0 a1 a2
    cases bef (L 0) x y <;> cases bef (L 1) x y <;> cases bef (L 2) x y <;> cases bef (L 0) y x <;> cases bef (L 1) y x <;> cases bef (L 2) y x <;> simp [maj]
  rw [← cnt2_swap (L 0) (rd L)] at z
  exact Nat.le_trans z (rd_half T h.ok.len)
/-- on the way home: c exchanges at the lists of ns -/
structure Part (L : LS) (ns : List Nat) (c : Nat) (M : LS) : Prop where
  ex : ∃ n : Nat → Nat, (∀ w, w < 3 → Hw (rd L) (L w) (n w) (M w)) ∧ n 0 + n 1 + n 2 = c
  no : ∀ w, w ∉ ns → M w = L w
theorem Part.zero (L : LS) (ns : List Nat) : Part L ns 0 L := ⟨⟨fun _ => 0, fun _ _ => .nil, rfl⟩, fun _ _ => rfl⟩
theorem Part.stay {L M : LS} {ns : List Nat} {c : Nat} (h : StOk L) (p : Part L ns c M) : Stay L M := by
  obtain ⟨n, q, _⟩ := p.ex
  exact stay_of h fun w hw => ⟨n w, q w hw⟩
theorem Part.step {L M : LS} {ns : List Nat} {c w i : Nat} (p : Part L ns c M) (hn : ∀ w ∈ ns, w < 3) (m : (w, i) ∈ nearL (rd L) M ns) : Part L ns (c + 1) (swS M (w, i)) := by
  obtain ⟨n, q, e⟩ := p.ex
  obtain ⟨hw, hi, r⟩ := mem_near.mp m
  have hw3 := hn w hw
  refine ⟨⟨fun j => if j = w then n j + 1 else n j, fun j hj => ?_, ?_⟩, fun j hj => ?_⟩
  · unfold swS
    dsimp only
    by_cases ej : j = w
    · subst ej
      rw [if_pos rfl, setL_same]
      exact .snoc (q j hj) (getD_at (by omega)) (getD_at hi) r
    · rw [if_neg ej, setL_ne _ _ ej]
      exact q j hj
  · match w, hw3 with
    | 0, _ => simp; omega
    | 1, _ => simp; omega
    | 2, _ => simp; omega
  · unfold swS
    have ej : j ≠ w := fun e => hj (e ▸ hw)
    dsimp only
    rw [setL_ne _ _ ej]
    exact p.no j hj
theorem Part.tot {L M : LS} {ns : List Nat} {c : Nat} (h : StOk L) (p : Part L ns c M) : tot (rd L) M + c = QD.tot (rd L) L := by
  obtain ⟨n, q, e⟩ := p.ex
  have d0 := (hw_ok h (by decide) (q 0 (by decide))).dis
  have d1 := (hw_ok h (by decide) (q 1 (by decide))).dis
  have d2 := (hw_ok h (by decide) (q 2 (by decide))).dis
  unfold QD.tot
  omega
theorem Part.le {L M : LS} {ns : List Nat} {c : Nat} (h : StOk L) (p : Part L ns c M) : c ≤ 50 := by
  have := p.tot h
  have := tot_le h
  omega
theorem Part.count {L M : LS} {ns : List Nat} {c : Nat} (h : StOk L) (p : Part L ns c M) : apart (L 0) (M 0) + apart (L 1) (M 1) + apart (L 2) (M 2) = c := by
  obtain ⟨n, q, e⟩ := p.ex
  have d0 := (hw_ok h (by decide) (q 0 (by decide))).ap
  have d1 := (hw_ok h (by decide) (q 1 (by decide))).ap
  have d2 := (hw_ok h (by decide) (q 2 (by decide))).ap
  omega
theorem Part.done {L M : LS} {ns : List Nat} {c : Nat} (p : Part L ns c M) (e : nearL (rd L) M ns = []) : SetTo L ns M := by
  obtain ⟨n, q, _⟩ := p.ex
  exact ⟨fun w hw m => ⟨n w, q w hw, near_nil.mp e w m⟩, fun w _ m => p.no w m⟩
/-- the homes are one -/
theorem SetTo.one {L N M Z : LS} {ns : List Nat} (h : StOk L) (st : Stay L N) (z : SetTo L [0, 1, 2] Z) (m : SetTo N ns M) {w : Nat} (hw : w < 3) : M w = if w ∈ ns then Z w else N w := by
  by_cases e : w ∈ ns
  · rw [if_pos e]
    obtain ⟨n1, q1, e1⟩ := m.yes w hw e
    obtain ⟨n2, q2, e2⟩ := z.yes w hw (by match w, hw with | 0, _ => simp | 1, _ => simp | 2, _ => simp)
    exact home_one h st (.refl h) hw q1 q2 e1 e2
  · rw [if_neg e]
    exact m.no w hw e
theorem SetTo.count {L M : LS} {ns : List Nat} {c : Nat} (h : StOk L) (p : Part L ns c M) : c = apart (L 0) (M 0) + apart (L 1) (M 1) + apart (L 2) (M 2) := (p.count h).symm
theorem setS_congr {L M : LS} (h : ∀ w, w < 3 → L w = M w) : rd L = rd M := by
  funext x y
  unfold rd
  rw [h 0 (by decide), h 1 (by decide), h 2 (by decide)]

end QD

set_option Elab.async false
set_option linter.all false
set_option maxRecDepth 100000
set_option maxHeartbeats 4000000
/-! The layer of this proof: calls by promises, facts of the top, heap predicates. -/
namespace Qd
open PySem PySem.Spec PyProof.Rows L2
/-! ### calls -/
section
variable (P : Program) (w : World) (K : PySem.W.Frag) (mg : Str → Option Value) (base : Heap)
/-- a def of the top by its promise -/
structure Cal (x : Str) (k : Nat) (ps : List Str) (sp : Sp) : Prop where
  ex : ∃ (f : Addr) (fd : FuncData), FnOk P w K mg base CX0 k f fd ps sp ∧ mg x = some (.ref f) ∧ PySem.W.keepIn K (.ref f) = true ∧ Binds K fd ps []
/-- a method by its promise -/
structure Met (C : Addr) (m : Str) (k : Nat) (ps : List Str) (sp : Sp) : Prop where
  ex : ∃ (f : Addr) (fd : FuncData), FnOk P w K mg base CX0 k f fd ps sp ∧ Meth K C m f ∧ Binds K fd ps []
/-- a class by its __init__'s promise -/
structure Mak (x : Str) (C : Addr) (k : Nat) (ps : List Str) (sp : Sp) : Prop where
  ex : ∃ (f : Addr) (fd : FuncData), FnOk P w K mg base CX0 k f fd ps sp ∧ Mk K C f ∧ mg x = some (.ref C) ∧ Binds K fd ps []
/-- facts of the top -/
structure Txt (CS CR CU : Addr) : Prop where
  cState : Cls K CS
  cReading : Cls K CR
  cRun : Cls K CU
  gState : mg "State" = some (.ref CS)
  nLists : NoAttr K CS "_lists"
  nPlaces : NoAttr K CS "_places"
  nKeys : NoAttr K CR "_keys"
  nBefore : NoAttr K CR "_before"
  nSwaps : NoAttr K CU "_swaps"
  MAX_KEYS : ∃ u, mg "MAX_KEYS" = some u ∧ RelV (.int 12) u
  MAX_KEY : ∃ u, mg "MAX_KEY" = some u ∧ RelV (.int 9999) u
  insS : C8.InsC K CS
  rdS : ClX.CRead K CS (.type "type")
  reps : ∃ u, ClX.CVal K CS (.type "type") "REPLICAS" (.int 3) u
  len : mg "len" = none
  range : mg "range" = none
  list : mg "list" = none
  tuple : mg "tuple" = none
  sorted : mg "sorted" = none
  enumerate : mg "enumerate" = none
  int : mg "int" = none
  abs : mg "abs" = none
  min : mg "min" = none
  max : mg "max" = none
  sum : mg "sum" = none
  isinstance : mg "isinstance" = none
  bool : mg "bool" = none
  str : mg "str" = none
end
section
variable {X : Cx} {k : Nat} {C CS CR CU : Addr} {x m : Str} {ps : List Str} {sp : Sp} {p pos apos : Pos} {e o : Expr} {es : List Expr} {t : TA} {ta : TE}
theorem pe_cal (c : Cal X.prog X.w X.K X.mg X.base x k ps sp) (hr : Room k X.A) (ha : PA X (e :: es) t) (hg : Gl X x := by rfl) (hdb : (x == ("__debug__" : Str)) = false := by decide)
    (he : starEach (e :: es) X.env = (false, eval e X.env) :: starEach es X.env := by rfl) (hpl : (backTo pos (starEach es X.env)).any (·.1) = false := by rfl) :
    PE X (.Call (.Name x p) (e :: es) [] pos) (tCall sp [] E0 t) := by
  obtain ⟨f, fd, F, g, kp, b⟩ := c.ex
  exact pe_call F hr hg g kp b .nil pass0 ha hdb he hpl
theorem pe_mak (c : Mak X.prog X.w X.K X.mg X.base x C k ps sp) (hr : Room (k + 1) X.A) (ha : PA X (e :: es) t) (hg : Gl X x := by rfl) (hdb : (x == ("__debug__" : Str)) = false := by decide)
    (he : starEach (e :: es) X.env = (false, eval e X.env) :: starEach es X.env := by rfl) (hpl : (backTo pos (starEach es X.env)).any (·.1) = false := by rfl) :
    PE X (.Call (.Name x p) (e :: es) [] pos) (tMake C sp [] E0 t) := by
  obtain ⟨f, fd, F, M, g, b⟩ := c.ex
  exact pe_make M F hr hg g b .nil pass0 ha hdb he hpl
theorem pe_met {pl : Sem Bool} (c : Met X.prog X.w X.K X.mg X.base C m k ps sp) (cl : Cls X.K C) (hr : Room k X.A) (he : PE X o ta) (ha : PA X (e :: es) t)
    (hst : starEach (e :: es) X.env = (false, eval e X.env) :: starEach es X.env := by rfl) (hpl : (backTo pos (starEach es X.env)).any (·.1) = false := by rfl)
    (ht : eval (.Call (.Attribute o m apos) (e :: es) [] pos) X.env = (do
      let ov ← eval o X.env
      standAt apos.atName
      let (f, first) ← holding [ov] (getMethod ov m pl)
      callWith pos f first (backTo pos (starEach (e :: es) X.env)) (backToKw pos (keywordEach [] X.env))) := by rfl) :
    PE X (.Call (.Attribute o m apos) (e :: es) [] pos) (tMeth C m sp [] E0 ta t) := by
  obtain ⟨f, fd, F, M, b⟩ := c.ex
  exact pe_meth (pl := pl) he cl M F hr b .nil pass0 ha hst hpl ht
theorem pe_met0 {pl : Sem Bool} (c : Met X.prog X.w X.K X.mg X.base C m k ps sp) (cl : Cls X.K C) (hr : Room k X.A) (he : PE X o ta)
    (ht : eval (.Call (.Attribute o m apos) [] [] pos) X.env = (do
      let ov ← eval o X.env
      standAt apos.atName
      let (f, first) ← holding [ov] (getMethod ov m pl)
      callWith pos f first (backTo pos (starEach [] X.env)) (backToKw pos (keywordEach [] X.env))) := by rfl) :
    PE X (.Call (.Attribute o m apos) [] [] pos) (tMeth C m sp [] E0 ta tNil) := by
  obtain ⟨f, fd, F, M, b⟩ := c.ex
  exact pe_meth0 (pl := pl) he cl M F hr b .nil pass0 ht
end

/-! ### the built-in names -/
theorem bt_len : bootBuiltins "len" = some (.builtin "len") := by decide +kernel
theorem bt_list : bootBuiltins "list" = some (.type "list") := by decide +kernel
theorem bt_tuple : bootBuiltins "tuple" = some (.type "tuple") := by decide +kernel
theorem bt_int : bootBuiltins "int" = some (.type "int") := by decide +kernel
theorem bt_bool : bootBuiltins "bool" = some (.type "bool") := by decide +kernel
theorem bt_str : bootBuiltins "str" = some (.type "str") := by decide +kernel
theorem bt_abs : bootBuiltins "abs" = some (.builtin "abs") := by decide +kernel
theorem bt_min : bootBuiltins "min" = some (.builtin "min") := by decide +kernel
theorem bt_max : bootBuiltins "max" = some (.builtin "max") := by decide +kernel
theorem bt_sum : bootBuiltins "sum" = some (.builtin "sum") := by decide +kernel
theorem bt_sorted : bootBuiltins "sorted" = some (.builtin "sorted") := by decide +kernel
theorem bt_isinstance : bootBuiltins "isinstance" = some (.builtin "isinstance") := by decide +kernel
/-! ### rules that read the written part, the part a letter -/
section
variable {X : Cx} {K : PySem.W.Frag}
theorem k_in (hK : X.K = K := by rfl) : OpR X (compareOp .In) (rIn K false) := hK ▸ op_in_seq
theorem k_nin (hK : X.K = K := by rfl) : OpR X (compareOp .NotIn) (rIn K true) := hK ▸ op_notIn_seq
theorem k_eqD (hu : X.A.units + 64 < cLine) (hK : X.K = K := by rfl) : OpR X (compareOp .Eq) (rEqD K) := hK ▸ op_eqD hu
theorem k_neD (hu : X.A.units + 64 < cLine) (hK : X.K = K := by rfl) : OpR X (compareOp .NotEq) (rNeD K) := hK ▸ op_neD hu
def rLenS (K : PySem.W.Frag) : List V → Hp → VK → Prop := fun xs H Q => ∃ p ys, xs = [.ref p] ∧ (SqL K H p ys ∨ SqT K H p ys) ∧ Q (.int ys.length) H
theorem k_len (hK : X.K = K := by rfl) : CallR X (.builtin "len") (rLenS K) := hK ▸ call_len_seq
def rListOf (K : PySem.W.Frag) : List V → Hp → VK → Prop := fun xs H Q => ∃ p ys, xs = [.ref p] ∧ (SqL K H p ys ∨ SqT K H p ys) ∧ ∀ l, H l = none → Q (.ref l) (upd H l (.lst ys))
theorem k_list (hK : X.K = K := by rfl) : CallR X (.type "list") (rListOf K) := hK ▸ call_list_of
def rTupOf (K : PySem.W.Frag) : List V → Hp → VK → Prop := fun xs H Q => ∃ p ys, xs = [.ref p] ∧ ((SqL K H p ys ∧ ∀ l, H l = none → Q (.ref l) (upd H l (.tup ys))) ∨ (SqT K H p ys ∧ Q (.ref p) H))
theorem k_tuple (hK : X.K = K := by rfl) : CallR X (.type "tuple") (rTupOf K) := hK ▸ call_tuple_of
theorem k_sum (hc : X.calm = true) (hK : X.K = K := by rfl) : CallR X (.builtin "sum") (rSum K) := hK ▸ cr_sum hc
theorem k_sorted (hK : X.K = K := by rfl) : CallR X (.builtin "sorted") (rSorted K) := hK ▸ cr_sorted
theorem k_isi (hK : X.K = K := by rfl) : CallR X (.builtin "isinstance") (rIsi K) := hK ▸ call_isi
theorem k_ixL (hK : X.K = K := by rfl) : IxR X (rIxL K) := hK ▸ ix_list
theorem k_ixT (hK : X.K = K := by rfl) : IxR X (rIxT K) := hK ▸ ix_tup
theorem k_slL (hK : X.K = K := by rfl) : SlR X (rSlL K) := hK ▸ sl_list
theorem k_rev {e : Expr} {te : TE} {k : Nat} {p1 p2 p3 pos : Pos} (he : PE X e te) (hK : X.K = K := by rfl) : PE X (.Subscript e (.Slice none none (some (.UnaryOp .USub (.Constant (.int 1) k p1) p2)) p3) pos) (tRevL K te) := hK ▸ pe_revL he
theorem ki_list {tg l : Expr} {tl : TE} (hl : PE X l tl) (hK : X.K = K := by rfl) : PI X tg l (iList K tl) := hK ▸ pi_list hl
theorem ki_tup {tg l : Expr} {tl : TE} (hl : PE X l tl) (hK : X.K = K := by rfl) : PI X tg l (iTup K tl) := hK ▸ pi_tup hl
theorem ki_enum {e : Expr} {ta : TA} {p pos tpos : Pos} {elts : List Expr} {kk : Nat} (hg : Gl X "enumerate") (hm : X.mg "enumerate" = none) (ha : PA X [e] ta) (hs : starEach [e] X.env = [(false, eval e X.env)] := by rfl) (hK : X.K = K := by rfl) :
    PI X (.Tuple elts kk tpos) (.Call (.Name "enumerate" p) [e] [] pos) (iEnum K ta) := hK ▸ pi_enum hg hm ha hs
theorem kg_tup {es : List Expr} {k n : Nat} {t : TGs} {pos : Pos} (hc : X.calm = true) (h : PGs X es t) (hn : (assignEach es X.env).length = n := by rfl) (hst : (assignEach es X.env).findIdx? (·.1) = none := by rfl) (hK : X.K = K := by rfl) : PG X (.Tuple es k pos) (gTup K n t) := hK ▸ pg_tup hc h hn hst
theorem kg_unl {es : List Expr} {k n : Nat} {t : TGs} {pos : Pos} (hc : X.calm = true) (h : PGs X es t) (hn : (assignEach es X.env).length = n := by rfl) (hst : (assignEach es X.env).findIdx? (·.1) = none := by rfl) (hK : X.K = K := by rfl) : PG X (.Tuple es k pos) (gUnl K n t) := hK ▸ pg_unl hc h hn hst
theorem k_fld {e : Expr} {f : Str} {ta : TE} {pos : Pos} (he : PE X e ta) (hb : attributeBase e f X.env (eval e X.env) = eval e X.env := by rfl) (hK : X.K = K := by rfl) : PE X (.Attribute e f pos) (tFld K ta f) := hK ▸ pe_fld he hb
theorem k_cval {e : Expr} {f : Str} {ta : TE} {pos : Pos} (he : PE X e ta) (hb : attributeBase e f X.env (eval e X.env) = eval e X.env := by rfl) (hK : X.K = K := by rfl) : PE X (.Attribute e f pos) (ClX.tCVal K ta f) := hK ▸ ClX.pe_cval he hb
theorem k_truth {a : Expr} {ta : TE} (ha : PE X a ta) (he : ∀ whole, isTrue a X.env whole = (do let v ← whole; standAt a.pos; holding [v] (truthy v)) := by intro _; rfl) (hK : X.K = K := by rfl) : PT X a (fun σ H Q => ta σ H fun x H' => ∃ k, TruV K x H' k ∧ Q k H') := hK ▸ pt_truth ha he
section
variable {r : V → List V → Hp → VK → Prop} {o e : Expr} {es : List Expr} {to : TE} {t : TA} {apos cpos : Pos} {T id : String} {name : Str}
theorem k_bm (pa : PlainAttrs T) (slot : Slot T name id) (hty : typeOf (.builtin id) = pure (.type "method_descriptor")) (hm : MtR X id r) (ho : PE X o to) (ha : PA X (e :: es) t)
    (hbase : attributeBase o name X.env (eval o X.env) = eval o X.env := by rfl)
    (hfew : ((backTo cpos (starEach (e :: es) X.env)).all (fun x => !x.1) && (backToKw cpos (keywordEach [] X.env)).all (fun x => x.1.isSome)
      && decide ((e :: es).length + ([] : List Keyword).length + (if ([] : List Keyword).isEmpty then 0 else 1) < 30)) = true := by rfl)
    (hline : (apos.endLine == cpos.line) = true := by rfl) (hs : starEach (e :: es) X.env = (false, eval e X.env) :: starEach es X.env := by rfl) (hplain : (backTo cpos (starEach es X.env)).any (·.1) = false := by rfl) (hK : X.K = K := by rfl) :
    PE X (.Call (.Attribute o name apos) (e :: es) [] cpos) (tBM K T r to t) := hK ▸ pe_bm pa slot hty hm ho ha hbase hfew hline hs hplain
end
theorem k_index (hK : X.K = K := by rfl) : MtR X "list.index" (rIndex K) := hK ▸ mt_index
end
/-! ### heaps -/
abbrev iV (ns : List Int) : List V := ns.map V.int
theorem iV_at {ns : List Int} {i : Nat} {n : Int} (h : ns[i]? = some n) : (iV ns)[i]? = some (.int n) := by
  show (ns.map V.int)[i]? = _
  rw [List.getElem?_map, h]
  rfl
theorem iV_of {ns : List Int} {i : Nat} {x : V} (h : (iV ns)[i]? = some x) : ∃ n, ns[i]? = some n ∧ x = .int n := by
  have h' : (ns.map V.int)[i]? = some x := h
  rw [List.getElem?_map] at h'
  cases e : ns[i]? with
  | none => rw [e] at h'; cases h'
  | some n => rw [e] at h'; exact ⟨n, rfl, (Option.some.inj h').symm⟩
theorem iV_flat (ns : List Int) : (iV ns).all flatV = true := List.all_eq_true.mpr fun x hx => by
  obtain ⟨n, _, rfl⟩ := List.mem_map.mp hx
  rfl
theorem _root_.L2.Same.tup {K : PySem.W.Frag} {H H' : Hp} {a : Addr} {xs : List V} (e : Same H H') (h : SqT K H a xs) : SqT K H' a xs := by
  rcases h with (h | ⟨o, h⟩) | h
  · exact .inl (.inl (e _ _ h))
  · exact .inl (.inr ⟨o, e _ _ h⟩)
  · exact .inr h
theorem _root_.L2.Same.new {H : Hp} {p : Addr} {o : HO} (h : H p = none) : Same H (upd H p o) := fun b u e => by
  rw [upd_ne (ne_of_none e h)]
  exact e
theorem _root_.L2.Same.put {H H' : Hp} {p : Addr} {o : HO} (s : Same H H') (h : H p = none) : Same H (upd H' p o) := fun b u e => by
  rw [upd_ne (ne_of_none e h)]
  exact s _ _ e
theorem sz12 {n : Nat} (h : n ≤ 4096) : n ≤ sizeLine := Nat.le_trans h (by decide)
theorem sz12' {n : Nat} (h : n ≤ 4096) : n < sizeLine := Nat.lt_of_le_of_lt h (by decide)
theorem inV_iV (n : Int) (ns : List Int) : inV (.int n) (iV ns) = ns.contains n := by
  unfold inV iV
  rw [List.any_map]
  induction ns with
  | nil => rfl
  | cons a t ih =>
    rw [List.any_cons, ih, List.contains_cons]
    show (eqV (.int a) (.int n) || t.contains n) = (n == a || t.contains n)
    have e : eqV (.int a) (.int n) = (n == a) := by
      show (a == n) = (n == a)
      rw [Bool.eq_iff_iff]
      simp only [beq_iff_eq]
      exact ⟨fun h => h.symm, fun h => h.symm⟩
    rw [e]
theorem ixN_nat {n j : Nat} (h : j < n) : ixN n (j : Int) = some j := by
  unfold ixN
  rw [if_pos (by omega), if_pos (by omega), Int.toNat_natCast]
theorem cut_from {xs : List V} {k : Nat} (h : k ≤ xs.length) : cutV xs (some (k : Int)) none = xs.drop k := by
  unfold cutV
  rw [HT.sIx_nat, HT.sIx_none, Nat.min_eq_left h, ← List.length_drop, List.take_length]
theorem cut_to {xs : List V} {k : Nat} (h : k ≤ xs.length) : cutV xs none (some (k : Int)) = xs.take k := by
  unfold cutV
  rw [HT.sIx_nat, HT.sIx_none, Nat.min_eq_left h, List.drop_zero, Nat.sub_zero]
theorem iV_drop (ns : List Int) (k : Nat) : (iV ns).drop k = iV (ns.drop k) := (List.map_drop ..).symm
theorem iV_take (ns : List Int) (k : Nat) : (iV ns).take k = iV (ns.take k) := (List.map_take ..).symm
theorem iV_len (ns : List Int) : (iV ns).length = ns.length := List.length_map ..
theorem le2 {a b : V} : ([a, b] : List V).length ≤ sizeLine := by
  show 2 ≤ sizeLine
  decide
theorem iteDF {p A B : Prop} [Decidable p] (h : ¬ p) (hB : B) : if decide p = true then A else B := by
  rw [decide_eq_false h]
  exact iteF hB
theorem iteDT {p A B : Prop} [Decidable p] (h : p) (hA : A) : if decide p = true then A else B := by
  rw [decide_eq_true h]
  exact iteT hA
theorem filter1 {p : Int → Bool} {r : Int} {b : Bool} (h : p r = b) : [r].filter p = if b = true then [r] else [] := by
  cases b with
  | true => exact List.filter_cons_of_pos h
  | false => exact List.filter_cons_of_neg (by rw [h]; exact Bool.false_ne_true)
/-- an int list is to be read at a -/
abbrev SqI (K : PySem.W.Frag) (H : Hp) (a : Addr) (ns : List Int) : Prop := SqL K H a (iV ns)
theorem valV_keys {κ : Type} [DecidableEq κ] {kvs : List (κ × V)} {k : κ} (h : k ∉ kvs.map (·.1)) : valV kvs k = none := by
  cases e : valV kvs k with
  | none => rfl
  | some v => exact absurd (valV_in e) h
/-- a dict comprehension (keys ints, texts) over anything that is walked: Pv by the turn and the heap, the new dict at D within -/
theorem dc_it {J : It} {n : Nat} {G : Hp → Prop} {Y : Nat → Hp → V → Hp → Prop} (w : Walk J n G Y) {g : TG} {tt : TT} {tk tv : TE} {vs : List Nat} {σ : L2.St} {H1 : Hp} {D : Addr} {Qd : Hp → Prop} (Pv : Nat → Hp → Prop)
    (h0 : Pv 0 (upd H1 D (.dK []))) (hG : ∀ i H, i ≤ n → Pv i H → G H)
    (hs : ∀ i x H H', i < n → Pv i H → Y i H x H' → g x (wipe σ vs) H' fun σ2 H2 => wipe σ2 vs = wipe σ vs ∧ tt σ2 H2 fun b H3 =>
      if b = true then tk σ2 H3 fun y H4 => tv σ2 H4 fun z H5 => ∃ kvs k, y = kV k ∧ H5 D = some (.dK kvs) ∧ kvs.length < sizeLine ∧ Pv (i + 1) (upd H5 D (.dK (putK kvs k z))) else Pv (i + 1) H3)
    (hd : ∀ H, Pv n H → Qd H) :
    ∃ W : Nat → Nat → Hp → Prop, (∃ m, W 0 m (upd H1 D (.dK []))) ∧ ∀ i m H, W i m H →
      (J.stop i H ∧ Qd H) ∨ (J.go i H ∧ ∃ Nx : Hp → Prop, (∀ H', Nx H' → ∃ m', m' < m ∧ W (i + 1) m' H') ∧ ∀ x H', J.yld i H x H' → g x (wipe σ vs) H' fun σ2 H2 => wipe σ2 vs = wipe σ vs ∧ tt σ2 H2 fun b H3 =>
        if b = true then tk σ2 H3 fun y H4 => tv σ2 H4 fun z H5 => ∃ kvs k, y = kV k ∧ H5 D = some (.dK kvs) ∧ kvs.length < sizeLine ∧ Nx (upd H5 D (.dK (putK kvs k z))) else Nx H3) := by
  refine ⟨fun j m H => j ≤ n ∧ m = n - j ∧ Pv j H, ⟨n, Nat.zero_le _, rfl, h0⟩, fun j m H ⟨hj, hm, p⟩ => ?_⟩
  have hg := hG j H hj p
  rcases Nat.lt_or_ge j n with hlt | hge
  · exact .inr ⟨w.goes j H hlt hg, Pv (j + 1), fun H' p' => ⟨n - (j + 1), by omega, hlt, rfl, p'⟩, fun x H' y => hs j x H H' hlt p (w.yields j H x H' hlt hg y)⟩
  · obtain rfl : j = n := by omega
    exact .inl ⟨w.stops H hg, hd H p⟩
/-! ### what stands at an address -/
section
variable (K : PySem.W.Frag) (H : Hp)
/-- a list of the three lists -/
structure LLs (a : Addr) (L : QD.LS) : Prop where
  ex : ∃ A : Nat → Addr, SqL K H a [.ref (A 0), .ref (A 1), .ref (A 2)] ∧ ∀ w, w < 3 → SqI K H (A w) (L w)
/-- the dict of the places -/
def ixT (ns : List Int) : List (Key × V) := ns.zipIdx.map fun q => (Sum.inl q.1, V.int (q.2 : Nat))
structure DLs (a : Addr) (L : QD.LS) : Prop where
  ex : ∃ A : Nat → Addr, SqL K H a [.ref (A 0), .ref (A 1), .ref (A 2)] ∧ ∀ w, w < 3 → H (A w) = some (.dK (ixT (L w)))
theorem ixT_keys (ns : List Int) : (ixT ns).map (·.1) = ns.map Sum.inl := by
  unfold ixT
  rw [List.map_map]
  have e : ((fun q : Key × V => q.1) ∘ fun q : Int × Nat => ((Sum.inl q.1 : Key), V.int (q.2 : Nat))) = (fun k : Int => (Sum.inl k : Key)) ∘ Prod.fst := rfl
  rw [e, ← List.map_map, List.zipIdx_map_fst]
theorem ixT_snoc (ns : List Int) (n : Int) : ixT (ns ++ [n]) = ixT ns ++ [(Sum.inl n, V.int (ns.length : Nat))] := by
  unfold ixT
  rw [List.zipIdx_append, List.map_append]
  simp
theorem ixT_val' (x : Int) : ∀ (ns : List Int) (j : Nat), x ∈ ns → valV ((ns.zipIdx j).map fun q => ((Sum.inl q.1 : Key), V.int (q.2 : Nat))) (Sum.inl x) = some (.int (j + ns.idxOf x : Nat))
  | [], j, h => by cases h
  | a :: t, j, h => by
    rw [List.zipIdx_cons, List.map_cons, QD.idx_cons]
    by_cases e : a = x
    · subst e
      rw [if_pos rfl]
      exact valV_pos rfl
    · have hx : x ∈ t := by
        rcases List.mem_cons.mp h with q | q
        · exact absurd q.symm e
        · exact q
      rw [if_neg e, valV_neg (fun q => e (Sum.inl.inj q)), ixT_val' x t (j + 1) hx]
      congr 3
      omega
theorem ixT_val {ns : List Int} {x : Int} (h : x ∈ ns) : valV (ixT ns) (Sum.inl x) = some (.int (ns.idxOf x : Nat)) := by
  have e := ixT_val' x ns 0 h
  rw [Nat.zero_add] at e
  exact e
/-- a state -/
structure StAt (CS a : Addr) (L : QD.LS) : Prop where
  ok : QD.StOk L
  ex : ∃ (dx l p : Addr), H a = some (.ins CS dx [("_lists", .ref l), ("_places", .ref p)]) ∧ LLs K H l L ∧ DLs K H p L
/-- the dict of the read pairs -/
def prT (prs : List (Int × Int)) : List (List Key × V) := prs.map fun q => ([Sum.inl q.1, Sum.inl q.2], V.bl true)
/-- exactly the pairs that are read so -/
structure Prs (ks : List Int) (R : QD.Rd) (prs : List (Int × Int)) : Prop where
  nd : prs.Nodup
  iff : ∀ x y, (x, y) ∈ prs ↔ x ∈ ks ∧ y ∈ ks ∧ R x y = true
  len : prs.length < 64
/-- a reading -/
structure ReAt (CR a : Addr) (ks : List Int) (R : QD.Rd) : Prop where
  kok : QD.KOk ks
  ex : ∃ (dx l d : Addr) (prs : List (Int × Int)), H a = some (.ins CR dx [("_keys", .ref l), ("_before", .ref d)]) ∧ H d = some (.dT (prT prs)) ∧ Prs ks R prs
/-- a list of tuples (x, y) -/
structure PLs (a : Addr) (prs : List (Int × Int)) : Prop where
  ex : ∃ ts : List Addr, SqL K H a (ts.map V.ref) ∧ ts.length = prs.length ∧ ∀ (i : Nat) (t : Addr) (q : Int × Int), ts[i]? = some t → prs[i]? = some q → H t = some (.tup [.int q.1, .int q.2])
/-- a list of tuples (replica, index) -/
structure TLs (a : Addr) (ss : List (Nat × Nat)) : Prop where
  ex : ∃ ts : List Addr, SqL K H a (ts.map V.ref) ∧ ts.length = ss.length ∧ ∀ (i : Nat) (t : Addr) (q : Nat × Nat), ts[i]? = some t → ss[i]? = some q → H t = some (.tup [.int (q.1 : Nat), .int (q.2 : Nat)])
/-- a run -/
structure RuAt (CU a : Addr) (ss : List (Nat × Nat)) : Prop where
  ex : ∃ (dx l : Addr), H a = some (.ins CU dx [("_swaps", .ref l)]) ∧ TLs K H l ss
end
section
variable {K : PySem.W.Frag} {H H' : Hp} {a C : Addr} {L : QD.LS} {ks : List Int} {R : QD.Rd} {ss : List (Nat × Nat)}
theorem LLs.mono (h : LLs K H a L) (s : Same H H') : LLs K H' a L := by
  obtain ⟨A, h1, h2⟩ := h.ex
  exact ⟨A, s.seq h1, fun w hw => s.seq (h2 w hw)⟩
theorem DLs.mono (h : DLs K H a L) (s : Same H H') : DLs K H' a L := by
  obtain ⟨A, h1, h2⟩ := h.ex
  exact ⟨A, s.seq h1, fun w hw => s _ _ (h2 w hw)⟩
theorem StAt.mono (h : StAt K H C a L) (s : Same H H') : StAt K H' C a L := by
  obtain ⟨dx, l, p, h1, h2, h3⟩ := h.ex
  exact ⟨h.ok, dx, l, p, s _ _ h1, h2.mono s, h3.mono s⟩
theorem ReAt.mono (h : ReAt H C a ks R) (s : Same H H') : ReAt H' C a ks R := by
  obtain ⟨dx, l, d, prs, h1, h2, h3⟩ := h.ex
  exact ⟨h.kok, dx, l, d, prs, s _ _ h1, s _ _ h2, h3⟩
theorem TLs.mono (h : TLs K H a ss) (s : Same H H') : TLs K H' a ss := by
  obtain ⟨ts, h1, h2, h3⟩ := h.ex
  exact ⟨ts, s.seq h1, h2, fun i t q e1 e2 => s _ _ (h3 i t q e1 e2)⟩
theorem PLs.mono {prs : List (Int × Int)} (h : PLs K H a prs) (s : Same H H') : PLs K H' a prs := by
  obtain ⟨ts, h1, h2, h3⟩ := h.ex
  exact ⟨ts, s.seq h1, h2, fun i t q e1 e2 => s _ _ (h3 i t q e1 e2)⟩
theorem Prs.perm {prs prs' : List (Int × Int)} (h : Prs ks R prs) (p : prs'.Perm prs) : Prs ks R prs' :=
  ⟨p.nodup_iff.mpr h.nd, fun x y => p.mem_iff.trans (h.iff x y), by rw [p.length_eq]; exact h.len⟩
theorem Prs.keys {ks' : List Int} {prs : List (Int × Int)} (h : Prs ks R prs) (p : ks'.Perm ks) : Prs ks' R prs :=
  ⟨h.nd, fun x y => by rw [h.iff, p.mem_iff, p.mem_iff], h.len⟩
theorem ReAt.keys {ks' : List Int} (h : ReAt H C a ks R) (p : ks'.Perm ks) : ReAt H C a ks' R := by
  obtain ⟨dx, l, d, prs, h1, h2, h3⟩ := h.ex
  exact ⟨h.kok.perm p, dx, l, d, prs, h1, h2, h3.keys p⟩
theorem prT_val {x y : Int} {prs : List (Int × Int)} : valV (prT prs) [Sum.inl x, Sum.inl y] = if (x, y) ∈ prs then some (V.bl true) else none := by
  induction prs with
  | nil => rfl
  | cons p t ih =>
    obtain ⟨u, v⟩ := p
    show valV (([Sum.inl u, Sum.inl v], V.bl true) :: prT t) [Sum.inl x, Sum.inl y] = _
    by_cases e : (u, v) = (x, y)
    · have e1 : u = x := congrArg Prod.fst e
      have e2 : v = y := congrArg Prod.snd e
      subst e1 e2
      rw [valV_pos rfl, if_pos List.mem_cons_self]
    · rw [valV_neg (fun q => e (by
        have q1 : (Sum.inl u : Key) = Sum.inl x := (List.cons.inj q).1
        have q2 : (Sum.inl v : Key) = Sum.inl y := (List.cons.inj (List.cons.inj q).2).1
        rw [Sum.inl.inj q1, Sum.inl.inj q2])), ih]
      have e3 : (x, y) ∈ (u, v) :: t ↔ (x, y) ∈ t := by
        rw [List.mem_cons]
        exact ⟨fun q => q.resolve_left (fun z => e z.symm), Or.inr⟩
      by_cases m : (x, y) ∈ t
      · rw [if_pos m, if_pos (e3.mpr m)]
      · rw [if_neg m, if_neg (fun z => m (e3.mp z))]
theorem prT_snoc (prs : List (Int × Int)) (x y : Int) : prT (prs ++ [(x, y)]) = prT prs ++ [([Sum.inl x, Sum.inl y], V.bl true)] := by
  unfold prT
  rw [List.map_append]
  rfl
theorem RuAt.mono (h : RuAt K H C a ss) (s : Same H H') : RuAt K H' C a ss := by
  obtain ⟨dx, l, h1, h2⟩ := h.ex
  exact ⟨dx, l, s _ _ h1, h2.mono s⟩
/-- the w-th of the three -/
theorem LLs.at_ (h : LLs K H a L) : ∃ A : Nat → Addr, SqL K H a [.ref (A 0), .ref (A 1), .ref (A 2)] ∧ (∀ w, w < 3 → SqI K H (A w) (L w)) ∧ ∀ w : Nat, w < 3 → atI ([.ref (A 0), .ref (A 1), .ref (A 2)] : List V) (w : Int) = some (.ref (A w)) := by
  obtain ⟨A, h1, h2⟩ := h.ex
  refine ⟨A, h1, h2, fun w hw => atI_nat ?_⟩
  match w, hw with
  | 0, _ => rfl
  | 1, _ => rfl
  | 2, _ => rfl
theorem three_at {A : Nat → Addr} {w : Nat} (hw : w < 3) : atI ([.ref (A 0), .ref (A 1), .ref (A 2)] : List V) (w : Int) = some (.ref (A w)) := atI_nat (by
  match w, hw with
  | 0, _ => rfl
  | 1, _ => rfl
  | 2, _ => rfl)
end
end Qd

set_option Elab.async false
set_option linter.all false
set_option maxRecDepth 100000
set_option maxHeartbeats 4000000
/-! The defs of lists.py. -/
namespace Qd
open PySem PySem.Spec PyProof.Rows L2
section
variable {P : Program} {w : World} {K : PySem.W.Frag} {mg : Str → Option Value} {base : Heap} {CS CR CU f : Addr} {fd : FuncData}
/-! ### check_replica -/
def sp_check_replica : Sp := fun vs H Q _ => ∃ n : Nat, vs = [.int n] ∧ n < 3 ∧ ∀ H', Same H H' → Q .non H'
abbrev N_check_replica : List Str := ["replica"]
abbrev P_check_replica : List Str := ["replica"]
theorem sc_check_replica : FnScope N_check_replica P_check_replica (defScope s_check_replica) := ⟨rfl, rfl, rfl, by decide +kernel, rfl, by decide +kernel, by decide +kernel⟩
theorem ok_check_replica (F : F_check_replica K f fd) (T : Txt K mg CS CR CU) : FnOk P w K mg base CX0 1 f fd P_check_replica sp_check_replica := by
  refine FunD.ok F sc_check_replica (fun vs H Q E h => ?_) (fun cdv A outer s H vs Q E hr h => ?_)
  · obtain ⟨n, rfl, _⟩ := h
    rfl
  · obtain ⟨n, rfl, h3, k⟩ := h
    have nd := sc_check_replica.nd
    refine ⟨_, PSs.nox ((pss_one (ps_if (pt_cmpR (k_nin (K := K)) (pv 0) (pe_tup (pa_cons pe_int (pa_cons pe_int (pa_cons pe_int pa_nil)))) (by rfl))
    (pss_one ps_never)
    pss_nil))), ?_⟩
    refine ⟨_, rfl, by decide, fun p hp => ⟨p, _, rfl, .inr (SqT.of upd_same), rfl, rfl, _, rfl, ?_⟩⟩
    match n, h3 with
    | 0, _ => exact k _ (Same.new hp)
    | 1, _ => exact k _ (Same.new hp)
    | 2, _ => exact k _ (Same.new hp)
/-! ### check_replicas -/
/-- the replica numbers in ns, ascending -/
def sel (ns : List Int) : List Int := ([0, 1, 2] : List Int).filter fun r => ns.contains r
def sp_check_replicas (K : PySem.W.Frag) : Sp := fun vs H Q _ => ∃ (a : Addr) (ns : List Nat), vs = [.ref a] ∧ (SqI K H a (ns.map Int.ofNat) ∨ SqT K H a (iV (ns.map Int.ofNat))) ∧ (∀ n ∈ ns, n < 3) ∧
  ∀ H' p, Same H H' → H p = none → H' p = some (.tup (iV (sel (ns.map Int.ofNat)))) → Q (.ref p) H'
abbrev N_check_replicas : List Str := ["replicas", "replica"]
abbrev P_check_replicas : List Str := ["replicas"]
theorem sc_check_replicas : FnScope N_check_replicas P_check_replicas (defScope s_check_replicas) := ⟨rfl, rfl, rfl, by decide +kernel, rfl, by decide +kernel, by decide +kernel⟩
theorem chk_tail {K : PySem.W.Frag} {H H1 : Hp} {a : Addr} {ns : List Int} (hs : SqI K H a ns ∨ SqT K H a (iV ns)) (s : Same H H1) : SqI K H1 a ns ∨ SqT K H1 a (iV ns) :=
  hs.elim (fun h => .inl (Same.seq s h)) fun h => .inr (Same.tup s h)
theorem chk_ret {K : PySem.W.Frag} {H H1 : Hp} {Q : VK} {a : Addr} {v : Option V} {ns : List Int} (s : Same H H1) (hs : SqI K H a ns ∨ SqT K H a (iV ns)) (k : ∀ H' p, Same H H' → H p = none → H' p = some (.tup (iV (sel ns))) → Q (.ref p) H') :
    tRet (tCB (rTupOf K) (tCons (tLc (iTup K (tTup (tCons (tC (V.int 0)) (tCons (tC (V.int 1)) (tCons (tC (V.int 2)) tNil))))) (gName 1) (tTest (tOp (rIn K false) (tVar 1) (tVar 0))) (tVar 1) [1]) tNil)) { nx := fun _ H' => Q .non H', rt := Q } [some (.ref a), v] H1 := by
  refine ⟨by decide, fun p hp => ⟨p, rfl, ⟨_, SqT.of upd_same⟩, fun D hD => ?_⟩⟩
  have npD : p ≠ D := fun e => by rw [e, upd_same] at hD; cases hD
  have hD1 : H1 D = none := by rw [upd_ne (Ne.symm npD)] at hD; exact hD
  have s1 : Same H (upd H1 p (.tup [.int 0, .int 1, .int 2])) := Same.put s (s.free hp)
  refine lc_tup (K := K) (a := p) (xs := iV [0, 1, 2]) (fun i H2 => Same (upd H1 p (.tup [.int 0, .int 1, .int 2])) H2 ∧ H2 D = some (.lst (iV ((([0, 1, 2] : List Int).take i).filter fun r => ns.contains r)))) ⟨Same.new hD, upd_same⟩ (fun i H2 _ q => SqT.of (q.1 _ _ upd_same)) (fun i x H2 hx q => ?_) fun H2 q => ?_
  · obtain ⟨r, hr, rfl⟩ := iV_of hx
    obtain ⟨q1, q2⟩ := q
    refine ⟨rfl, _, rfl, _, rfl, a, _, rfl, chk_tail hs (s1.trans q1), rfl, iV_flat ns, _, rfl, ?_⟩
    have e : (if false = true then !inV (V.int r) (iV ns) else inV (V.int r) (iV ns)) = ns.contains r := inV_iV r ns
    rw [e]
    have e2 : (([0, 1, 2] : List Int).take (i + 1)) = (([0, 1, 2] : List Int).take i) ++ [r] := by
      rw [List.take_succ, hr]
      rfl
    cases c : ns.contains r with
    | true =>
      refine iteT ⟨_, rfl, _, q2, sz12' ?_, ?_⟩
      · show (iV _).length ≤ 4096
        rw [List.length_map]
        have h := List.length_filter_le (fun r => ns.contains r) (([0, 1, 2] : List Int).take i)
        rw [List.length_take] at h
        exact Nat.le_trans h (Nat.le_trans (Nat.min_le_right _ _) (by decide))
      · refine ⟨Same.put q1 hD, ?_⟩
        rw [upd_same, e2, List.filter_append]
        rw [filter1 (p := fun r => ns.contains r) c]
        simp [iV]
    | false =>
      refine iteF ⟨q1, ?_⟩
      rw [q2, e2, List.filter_append]
      rw [filter1 (p := fun r => ns.contains r) c]
      simp
  · obtain ⟨q1, q2⟩ := q
    refine ⟨D, _, rfl, .inl ⟨SqL.of q2, fun l hl => ?_⟩⟩
    have hl1 : H l = none := (s1.trans q1).free hl
    exact k _ l (Same.put (s1.trans q1) hl1) hl1 upd_same
theorem ok_check_replicas (F : F_check_replicas K f fd) (T : Txt K mg CS CR CU) (c_check_replica : Cal P w K mg base "check_replica" 1 P_check_replica sp_check_replica) :
    FnOk P w K mg base CX0 2 f fd P_check_replicas (sp_check_replicas K) := by
  refine FunD.ok F sc_check_replicas (fun vs H Q E h => ?_) (fun cdv A outer s H vs Q E hr h => ?_)
  · obtain ⟨a, ns, rfl, _⟩ := h
    rfl
  · obtain ⟨a, ns, rfl, hs, h3, k⟩ := h
    have nd := sc_check_replicas.nd
    have turn : ∀ {i : Nat} {x : V}, (iV (ns.map Int.ofNat))[i]? = some x → ∃ n : Nat, n < 3 ∧ x = .int n := fun {i x} hx => by
      obtain ⟨z, hz, rfl⟩ := iV_of hx
      rw [List.getElem?_map] at hz
      cases e : ns[i]? with
      | none => rw [e] at hz; cases hz
      | some n => rw [e] at hz; exact ⟨n, h3 n (List.mem_of_getElem? e), by rw [← Option.some.inj hz]; rfl⟩
    rcases id hs with h1 | h1
    · refine ⟨_, PSs.nox ((pss_cons (ps_for PassesOwn.never rfl (ki_list (K := K) (pv 0)) (pg_name (i := 1) nd rfl (Or.inl rfl))
    (pss_one (ps_expr (pe_cal c_check_replica (hr.mono (by decide)) (pa_cons (pv 1) pa_nil)))))
  (pss_one (ps_ret (pe_callTy (k_tuple (K := K)) (by rfl) T.tuple bt_tuple (pa_cons (pe_lc (own := [("replica", 1)]) (g := gName 1) rfl nd (ki_tup (K := K) (pe_tup (pa_cons pe_int (pa_cons pe_int (pa_cons pe_int pa_nil))))) (blkOk_by (own := [("replica", 1)]) (N := N_check_replicas) (sc := defScope s_check_replicas) (by decide +kernel)) (fun _ _ _ _ _ => pg_name (i := 1) nd rfl (Or.inl rfl)) (fun _ _ _ _ _ => (pts_one (pt_cmpR (k_in (K := K)) (pv 1) (pv 0) (by rfl)))) (fun _ _ _ _ _ => (pv 1))) pa_nil)))))), ?_⟩
      refine ⟨_, rfl, a, rfl, ⟨_, h1⟩, for_list (K := K) (a := a) (xs := iV (ns.map Int.ofNat)) (fun i σ H1 => ∃ v, σ = [some (.ref a), v] ∧ Same H H1) ⟨none, rfl, Same.refl _⟩ (fun i σ H1 _ ⟨_, _, s⟩ => Same.seq s h1) ?_ ?_⟩
      · rintro i x σ H1 hx ⟨v, rfl, s⟩
        obtain ⟨n, hn, rfl⟩ := turn hx
        exact ⟨_, rfl, n, rfl, hn, fun H2 s2 => ⟨_, rfl, s.trans s2⟩⟩
      · rintro σ H1 ⟨v, rfl, s⟩
        exact chk_ret s hs k
    · refine ⟨_, PSs.nox ((pss_cons (ps_for PassesOwn.never rfl (ki_tup (K := K) (pv 0)) (pg_name (i := 1) nd rfl (Or.inl rfl))
    (pss_one (ps_expr (pe_cal c_check_replica (hr.mono (by decide)) (pa_cons (pv 1) pa_nil)))))
  (pss_one (ps_ret (pe_callTy (k_tuple (K := K)) (by rfl) T.tuple bt_tuple (pa_cons (pe_lc (own := [("replica", 1)]) (g := gName 1) rfl nd (ki_tup (K := K) (pe_tup (pa_cons pe_int (pa_cons pe_int (pa_cons pe_int pa_nil))))) (blkOk_by (own := [("replica", 1)]) (N := N_check_replicas) (sc := defScope s_check_replicas) (by decide +kernel)) (fun _ _ _ _ _ => pg_name (i := 1) nd rfl (Or.inl rfl)) (fun _ _ _ _ _ => (pts_one (pt_cmpR (k_in (K := K)) (pv 1) (pv 0) (by rfl)))) (fun _ _ _ _ _ => (pv 1))) pa_nil)))))), ?_⟩
      refine ⟨_, rfl, a, rfl, ⟨_, h1⟩, for_tup (K := K) (a := a) (xs := iV (ns.map Int.ofNat)) (fun i σ H1 => ∃ v, σ = [some (.ref a), v] ∧ Same H H1) ⟨none, rfl, Same.refl _⟩ (fun i σ H1 _ ⟨_, _, s⟩ => Same.tup s h1) ?_ ?_⟩
      · rintro i x σ H1 hx ⟨v, rfl, s⟩
        obtain ⟨n, hn, rfl⟩ := turn hx
        exact ⟨_, rfl, n, rfl, hn, fun H2 s2 => ⟨_, rfl, s.trans s2⟩⟩
      · rintro σ H1 ⟨v, rfl, s⟩
        exact chk_ret s hs k
/-! ### first_wrong_place -/
def sp_fwp (K : PySem.W.Frag) : Sp := fun vs H Q _ => ∃ (a : Addr) (ns : List Int), vs = [.ref a] ∧ SqI K H a ns ∧ QD.KOk ns ∧ ∀ H', Same H H' → Q .non H'
abbrev N_first_wrong_place : List Str := ["order", "seen", "place", "key"]
abbrev P_first_wrong_place : List Str := ["order"]
theorem sc_first_wrong_place : FnScope N_first_wrong_place P_first_wrong_place (defScope s_first_wrong_place) := ⟨rfl, rfl, rfl, by decide +kernel, rfl, by decide +kernel, by decide +kernel⟩
theorem ok_first_wrong_place (F : F_first_wrong_place K f fd) (T : Txt K mg CS CR CU) : FnOk P w K mg base CX0 1 f fd P_first_wrong_place (sp_fwp K) := by
  refine FunD.ok F sc_first_wrong_place (fun vs H Q E h => ?_) (fun cdv A outer s H vs Q E hr h => ?_)
  · obtain ⟨a, ns, rfl, _⟩ := h
    rfl
  · obtain ⟨a, ns, rfl, h1, ok, k⟩ := h
    have nd := sc_first_wrong_place.nd
    have hu := hu_of hr
    refine ⟨_, PSs.nox ((pss_cons (ps_set (i := 1) nd rfl (Or.inl rfl) pe_dnewK)
  (pss_cons (ps_for PassesOwn.never rfl (ki_enum (K := K) (by rfl) T.enumerate (pa_cons (pv 0) pa_nil)) (kg_tup (K := K) (n := 2) rfl (pgs_cons (pg_name (i := 2) nd rfl (Or.inl rfl)) (pgs_cons (pg_name (i := 3) nd rfl (Or.inl rfl)) pgs_nil)))
    (pss_cons (ps_if (PW.pt (pw_or (pt_cmpR op_ge (pv 2) (C8.pe_gc rfl T.MAX_KEYS) (nomark _)) (pw_or (pt_cmpR op_lt (pv 3) pe_int (nomark _)) (pw_or (pt_cmpR op_gt (pv 3) (C8.pe_gc rfl T.MAX_KEY) (nomark _)) (pw_or1 (pt_cmp (pc_din hu (pv 3) (pv 1))))))))
    (pss_one (ps_ret (pv 2)))
    pss_nil)
  (pss_one (ps_dput hu (pv 1) (pv 3) pe_bl rfl))))
  (pss_one (ps_ret pe_non))))), ?_⟩
    intro d hd
    have s0 : Same H (upd H d (.dK [])) := Same.new hd
    refine ⟨_, rfl, a, iV ns, rfl, Same.seq s0 h1, for_it (walk_enum (K := K) (a := a) (xs := iV ns)) (fun i σ H1 => ∃ v v', σ = [some (.ref a), some (.ref d), v, v'] ∧ Same H H1 ∧ H1 d = some (.dK ((ns.take i).map fun k => (Sum.inl k, V.bl true))))
      ⟨none, none, rfl, s0, upd_same⟩ (fun i σ H1 _ ⟨_, _, _, s1, _⟩ => Same.seq s1 h1) ?_ ?_⟩
    · rintro i x σ H1 H2 hi ⟨v, v', rfl, s1, hd1⟩ ⟨t, x1, x2, rfl, ht, rfl, e1, e2⟩
      obtain ⟨n, hn, rfl⟩ := iV_of e2
      cases e1
      have hlen : i < ns.length := (List.getElem?_eq_some_iff.mp hn).1
      have hl10 := ok.len
      have hm : n ∈ ns := List.mem_of_getElem? hn
      have n1 := ok.lo n hm
      have n2 := ok.hi n hm
      have hdt : d ≠ t := ne_of_none hd1 ht
      refine ⟨t, _, rfl, SqT.of upd_same, rfl, ?_⟩
      have hno : valV ((ns.take i).map fun k => ((Sum.inl k : Key), V.bl true)) (Sum.inl n) = none := valV_keys fun hm => by
        rw [List.map_map] at hm
        obtain ⟨k, hk, e⟩ := List.mem_map.mp hm
        have e' : k = n := Sum.inl.inj e
        subst e'
        obtain ⟨j, hj, e3⟩ := List.mem_take_iff_getElem.mp hk
        have e4 : j = i := nd_ix ok.nd (by rw [List.getElem?_eq_getElem (by omega), e3]) hn
        omega
      have hd2 : (upd H1 t (.tup [.int i, .int n])) d = some (.dK ((ns.take i).map fun k => (Sum.inl k, V.bl true))) := by rw [upd_ne hdt]; exact hd1
      have g := DGet.k (k := Sum.inl n) hd2
      rw [hno] at g
      refine ⟨_, _, rfl, _, _, rfl, rfl, ⟨_, rfl, _, _, rfl, rfl, _, rfl, iteDF (by omega) ⟨_, rfl, _, _, rfl, rfl, _, rfl, iteDF (by omega) ⟨_, rfl, _, _, rfl, rfl, _, rfl, iteDF (by omega) ⟨_, rfl, _, rfl, d, _, rfl, g, _, rfl, iteF ?_⟩⟩⟩⟩⟩
      refine ⟨_, rfl, _, rfl, d, _, rfl, DPut.k (k := Sum.inl n) hd2 (sz12' (by rw [List.length_map, List.length_take]; omega)), _, _, rfl, ?_, ?_⟩
      · exact Same.put (Same.put s1 (s1.free ht)) hd
      · rw [upd_same, putK_new _ hno, List.take_succ, hn]
        simp
    · rintro σ H1 ⟨v, v', rfl, s1, hd1⟩
      exact k _ s1
/-! ### check_list -/
abbrev N_check_list : List Str := ["order", "place"]
abbrev P_check_list : List Str := ["order"]
theorem sc_check_list : FnScope N_check_list P_check_list (defScope s_check_list) := ⟨rfl, rfl, rfl, by decide +kernel, rfl, by decide +kernel, by decide +kernel⟩
theorem ok_check_list (F : F_check_list K f fd) (T : Txt K mg CS CR CU) (c_first_wrong_place : Cal P w K mg base "first_wrong_place" 1 P_first_wrong_place (sp_fwp K)) : FnOk P w K mg base CX0 2 f fd P_check_list (sp_fwp K) := by
  refine FunD.ok F sc_check_list (fun vs H Q E h => ?_) (fun cdv A outer s H vs Q E hr h => ?_)
  · obtain ⟨a, ns, rfl, _⟩ := h
    rfl
  · obtain ⟨a, ns, rfl, h1, ok, k⟩ := h
    have nd := sc_check_list.nd
    refine ⟨_, PSs.nox ((pss_cons (ps_set (i := 1) nd rfl (Or.inl rfl) (pe_cal c_first_wrong_place (hr.mono (by decide)) (pa_cons (pv 0) pa_nil)))
  (pss_one (ps_if (pt_cmp (pc_notN (pv 1)))
    (pss_one ps_never)
    pss_nil)))), ?_⟩
    refine ⟨_, rfl, a, ns, rfl, h1, ok, fun H1 s1 => ⟨_, rfl, _, rfl, iteF ?_⟩⟩
    exact k _ s1
/-! ### index_of is below (a dict comprehension) -/
/-! ### swap_at -/
def sp_swap_at (K : PySem.W.Frag) : Sp := fun vs H Q _ => ∃ (a : Addr) (ns : List Int) (i : Nat), vs = [.ref a, .int i] ∧ SqI K H a ns ∧ QD.KOk ns ∧ i + 1 < ns.length ∧ ∀ H' p, Same H H' → H p = none → H' p = some (.lst (iV (QD.swp ns i))) → Q (.ref p) H'
abbrev N_swap_at : List Str := ["order", "index", "swapped"]
abbrev P_swap_at : List Str := ["order", "index"]
theorem sc_swap_at : FnScope N_swap_at P_swap_at (defScope s_swap_at) := ⟨rfl, rfl, rfl, by decide +kernel, rfl, by decide +kernel, by decide +kernel⟩
theorem ok_swap_at (F : F_swap_at K f fd) (T : Txt K mg CS CR CU) (c_check_list : Cal P w K mg base "check_list" 2 P_check_list (sp_fwp K)) : FnOk P w K mg base CX0 3 f fd P_swap_at (sp_swap_at K) := by
  refine FunD.ok F sc_swap_at (fun vs H Q E h => ?_) (fun cdv A outer s H vs Q E hr h => ?_)
  · obtain ⟨a, ns, i, rfl, _⟩ := h
    rfl
  · obtain ⟨a, ns, i, rfl, h1, ok, hi, k⟩ := h
    have nd := sc_swap_at.nd
    refine ⟨_, PSs.nox ((pss_cons (ps_expr (pe_cal c_check_list (hr.mono (by decide)) (pa_cons (pv 0) pa_nil)))
  (pss_cons (ps_if (PW.pt (pw_or (pt_cmpR op_lt (pv 1) pe_int (nomark _)) (pw_or1 (pt_cmpR op_gt (pv 1) (pe_op op_sub (pe_callB (k_len (K := K)) (by rfl) T.len bt_len (pa_cons (pv 0) pa_nil)) pe_int) (nomark _)))))
    (pss_one ps_never)
    pss_nil)
  (pss_cons (ps_set (i := 2) nd rfl (Or.inl rfl) (pe_callTy (k_list (K := K)) (by rfl) T.list bt_list (pa_cons (pv 0) pa_nil)))
  (pss_cons (ps_asg (pe_ix (k_ixL (K := K)) (pv 0) (pe_op op_add (pv 1) pe_int) (fun _ _ => rfl)) (pg_sub (pv 2) (pv 1) set_list))
  (pss_cons (ps_asg (pe_ix (k_ixL (K := K)) (pv 0) (pv 1) (fun _ _ => rfl)) (pg_sub (pv 2) (pe_op op_add (pv 1) pe_int) set_list))
  (pss_one (ps_ret (pv 2))))))))), ?_⟩
    refine ⟨_, rfl, a, ns, rfl, h1, ok, fun H1 s1 => ?_⟩
    have h2 : SqI K H1 a ns := Same.seq s1 h1
    have hl : (iV ns).length = ns.length := List.length_map ..
    obtain ⟨x, hx⟩ : ∃ x, ns[i]? = some x := ⟨_, List.getElem?_eq_getElem (show i < ns.length by omega)⟩
    obtain ⟨y, hy⟩ : ∃ y, ns[i + 1]? = some y := ⟨_, List.getElem?_eq_getElem hi⟩
    refine ⟨_, rfl, _, _, rfl, rfl, _, rfl, iteDF (by omega) ⟨_, rfl, _, rfl, a, _, rfl, .inl h2, _, _, rfl, rfl, _, _, rfl, rfl, _, rfl, iteDF (by rw [hl]; omega) ?_⟩⟩
    refine ⟨_, rfl, a, _, rfl, .inl h2, fun l hl0 => ?_⟩
    have nal : ∀ {u : HO}, SqI K (upd H1 l u) a ns := fun {u} => Same.seq (Same.new hl0) h2
    have nal2 : ∀ {u v : HO}, SqI K (upd (upd H1 l u) l v) a ns := fun {u v} => by rw [upd_upd]; exact nal
    refine ⟨_, rfl, _, rfl, _, _, rfl, rfl, a, _, _, _, rfl, rfl, nal, at_of (j := i + 1) (by omega) (iV_at hy), _, rfl, _, rfl, l, _, _, i, rfl, rfl, upd_same, ixN_nat (by rw [hl]; omega), ?_⟩
    refine ⟨_, rfl, _, rfl, a, _, _, _, rfl, rfl, nal2, at_of (j := i) rfl (iV_at hx), _, rfl, _, rfl, _, _, rfl, rfl, l, _, _, i + 1, rfl, rfl, upd_same, ?_, ?_⟩
    · have e : ((i : Int) + 1) = ((i + 1 : Nat) : Int) := rfl
      rw [e]
      exact ixN_nat (by rw [List.length_set, hl]; exact hi)
    · refine ⟨_, rfl, ?_⟩
      have hlH : H l = none := s1.free hl0
      refine k _ l ?_ hlH ?_
      · rw [upd_upd, upd_upd]
        exact Same.put s1 hlH
      · rw [upd_same]
        have e : ((iV ns).set i (V.int y)).set (i + 1) (V.int x) = iV (QD.swp ns i) := by
          rw [← QD.swp_set hx hy]
          show _ = ((ns.set i y).set (i + 1) x).map V.int
          rw [List.map_set, List.map_set]
        rw [e]
end
end Qd

set_option Elab.async false
set_option linter.all false
set_option maxRecDepth 100000
set_option maxHeartbeats 4000000
/-! index_of, and states.py. -/
namespace Qd
open PySem PySem.Spec PyProof.Rows L2
section
variable {P : Program} {w : World} {K : PySem.W.Frag} {mg : Str → Option Value} {base : Heap} {CS CR CU f : Addr} {fd : FuncData}
/-! ### index_of -/
def sp_index_of (K : PySem.W.Frag) : Sp := fun vs H Q _ => ∃ (a : Addr) (ns : List Int), vs = [.ref a] ∧ SqI K H a ns ∧ QD.KOk ns ∧ ∀ H' p, Same H H' → H p = none → H' p = some (.dK (ixT ns)) → Q (.ref p) H'
abbrev N_index_of : List Str := ["order", "place", "key"]
abbrev P_index_of : List Str := ["order"]
theorem sc_index_of : FnScope N_index_of P_index_of (defScope s_index_of) := ⟨rfl, rfl, rfl, by decide +kernel, rfl, by decide +kernel, by decide +kernel⟩
theorem ok_index_of (F : F_index_of K f fd) (T : Txt K mg CS CR CU) : FnOk P w K mg base CX0 1 f fd P_index_of (sp_index_of K) := by
  refine FunD.ok F sc_index_of (fun vs H Q E h => ?_) (fun cdv A outer s H vs Q E hr h => ?_)
  · obtain ⟨a, ns, rfl, _⟩ := h
    rfl
  · obtain ⟨a, ns, rfl, h1, ok, k⟩ := h
    have nd := sc_index_of.nd
    refine ⟨_, PSs.nox ((pss_one (ps_ret (pe_dc (own := [("place", 1), ("key", 2)]) (g := _) rfl nd (ki_enum (K := K) (by rfl) T.enumerate (pa_cons (pv 0) pa_nil)) (blkOk_by (own := [("place", 1), ("key", 2)]) (N := N_index_of) (sc := defScope s_index_of) (by decide +kernel)) (fun _ _ _ _ _ => kg_tup (K := K) (n := 2) rfl (pgs_cons (pg_name (i := 1) nd rfl (Or.inl rfl)) (pgs_cons (pg_name (i := 2) nd rfl (Or.inl rfl)) pgs_nil))) (fun _ _ _ _ _ => pts_nil) (fun _ _ _ _ _ => (pv 2)) (fun _ _ _ _ _ => (pv 1)))))), ?_⟩
    refine ⟨_, rfl, a, iV ns, rfl, h1, fun D hD => ?_⟩
    refine dc_it (walk_enum (K := K) (a := a) (xs := iV ns)) (fun i H2 => Same H H2 ∧ H2 D = some (.dK (ixT (ns.take i)))) ⟨Same.new hD, upd_same⟩ (fun i H2 _ q => Same.seq q.1 h1) ?_ ?_
    · rintro i x H1 H2 hi ⟨s1, hd1⟩ ⟨t, x1, x2, rfl, ht, rfl, e1, e2⟩
      obtain ⟨n, hn, rfl⟩ := iV_of e2
      cases e1
      have hDt : D ≠ t := ne_of_none hd1 ht
      have hlen : i < ns.length := (List.getElem?_eq_some_iff.mp hn).1
      have hl10 := ok.len
      have hno : valV (ixT (ns.take i)) (Sum.inl n : Key) = none := valV_keys (by
        rw [ixT_keys]
        intro hm
        obtain ⟨k, hk, e⟩ := List.mem_map.mp hm
        have e' : k = n := Sum.inl.inj e
        subst e'
        obtain ⟨j, hj, e3⟩ := List.mem_take_iff_getElem.mp hk
        have e4 : j = i := nd_ix ok.nd (by rw [List.getElem?_eq_getElem (by omega), e3]) hn
        omega)
      have hkl : (ixT (ns.take i)).length ≤ 4096 := by
        unfold ixT
        rw [List.length_map, List.length_zipIdx, List.length_take]
        omega
      refine ⟨t, _, rfl, SqT.of upd_same, rfl, _, _, rfl, _, _, rfl, rfl, rfl, _, rfl, _, rfl, _, Sum.inl n, rfl, by rw [upd_ne hDt]; exact hd1, sz12' hkl, ?_, ?_⟩
      · exact Same.put (Same.put s1 (s1.free ht)) hD
      · rw [upd_same, putK_new _ hno, List.take_succ, hn]
        show some (HO.dK (ixT (ns.take i) ++ [(Sum.inl n, V.int i)])) = some (HO.dK (ixT (ns.take i ++ [n])))
        rw [ixT_snoc, List.length_take, Nat.min_eq_left (Nat.le_of_lt hlen)]
    · rintro H2 ⟨s2, hd2⟩
      have e : (iV ns).length = ns.length := List.length_map ..
      rw [e, List.take_length] at hd2
      exact k _ _ s2 hD hd2
/-! ### require_key -/
def sp_require_key (K : PySem.W.Frag) : Sp := fun vs H Q _ => ∃ (a : Addr) (x : Int), vs = [.ref a, .int x] ∧ ((∃ kvs v, H a = some (.dK kvs) ∧ valV kvs (Sum.inl x) = some v) ∨ ∃ ns : List Int, SqI K H a ns ∧ x ∈ ns) ∧ Q .non H
abbrev N_require_key : List Str := ["keys", "key"]
abbrev P_require_key : List Str := ["keys", "key"]
theorem sc_require_key : FnScope N_require_key P_require_key (defScope s_require_key) := ⟨rfl, rfl, rfl, by decide +kernel, rfl, by decide +kernel, by decide +kernel⟩
theorem ok_require_key (F : F_require_key K f fd) (T : Txt K mg CS CR CU) : FnOk P w K mg base CX0 1 f fd P_require_key (sp_require_key K) := by
  refine FunD.ok F sc_require_key (fun vs H Q E h => ?_) (fun cdv A outer s H vs Q E hr h => ?_)
  · obtain ⟨a, x, rfl, _⟩ := h
    rfl
  · obtain ⟨a, x, rfl, h1, k⟩ := h
    have nd := sc_require_key.nd
    have hu := hu_of hr
    rcases h1 with ⟨kvs, v, h1, hv⟩ | ⟨ns, h1, hx⟩
    · refine ⟨_, PSs.nox ((pss_one (ps_if (pt_cmp (pc_dnotin hu (pv 1) (pv 0)))
    (pss_one ps_never)
    pss_nil))), ?_⟩
      have g := DGet.k (k := Sum.inl x) h1
      rw [hv] at g
      exact ⟨_, rfl, _, rfl, a, _, rfl, g, _, rfl, iteF k⟩
    · refine ⟨_, PSs.nox ((pss_one (ps_if (pt_cmpR (k_nin (K := K)) (pv 1) (pv 0) (by rfl))
    (pss_one ps_never)
    pss_nil))), ?_⟩
      refine ⟨_, rfl, _, rfl, a, _, rfl, .inl h1, rfl, iV_flat _, _, rfl, ?_⟩
      have e : (if true = true then !inV (V.int x) (iV ns) else inV (V.int x) (iV ns)) = false := by
        rw [if_pos rfl, inV_iV, List.contains_iff_mem.mpr hx]
        rfl
      rw [e]
      exact iteF k
/-! ### data -/
theorem dp_all {K : PySem.W.Frag} {H : Hp} : ∀ ns : List Int, DpAll K H (iV ns) (ns.map PyData.int)
  | [] => .nil
  | n :: t => .cons (.int n) (dp_all t)
abbrev dI (ns : List Int) : PyData := .list (ns.map PyData.int)
theorem dp_ints {K : PySem.W.Frag} {H : Hp} {a : Addr} {ns : List Int} (h : SqI K H a ns) : Dp K H (.ref a) (dI ns) := .lst h (dp_all ns)
theorem lay_ints : ∀ ns : List Int, PyData.canLayAll0 (ns.map PyData.int) = true
  | [] => by simp [PyData.canLayAll0]
  | n :: t => by simp [PyData.canLayAll0, PyData.canLay0, lay_ints t]
theorem depth_ints : ∀ ns : List Int, PyData.depthAll (ns.map PyData.int) = 0
  | [] => by simp [PyData.depthAll]
  | n :: t => by simp [PyData.depthAll, PyData.depth, depth_ints t]
theorem shaped_ints (ns : List Int) : SeqAt.shaped (dI ns) = true := by
  unfold SeqAt.shaped dI
  rw [PyData.canLay0, lay_ints, PyData.depth, depth_ints]
  rfl
theorem eqv_of (d : PyData) (h : SeqAt.shaped d = true) : PyData.eqv d d = true := SeqAt.eqv_refl_plain d (PyData.plain_of_canLay0 d (SeqAt.canLay_of_shaped h))
/-! ### _wrong_replica -/
def sp_wrong_replica (K : PySem.W.Frag) : Sp := fun vs H Q _ => ∃ (a : Addr) (L : QD.LS), vs = [.ref a] ∧ LLs K H a L ∧ QD.StOk L ∧ ∀ H', Same H H' → Q .non H'
theorem three_of {B : Nat → Addr} {i : Nat} {x : V} (h : ([.ref (B 0), .ref (B 1), .ref (B 2)] : List V)[i]? = some x) : i < 3 ∧ x = .ref (B i) := by
  match i, h with
  | 0, h => exact ⟨by decide, (Option.some.inj h).symm⟩
  | 1, h => exact ⟨by decide, (Option.some.inj h).symm⟩
  | 2, h => exact ⟨by decide, (Option.some.inj h).symm⟩
  | n + 3, h => cases h
abbrev N_wrong_replica : List Str := ["orders", "keys", "replica", "order"]
abbrev P_wrong_replica : List Str := ["orders"]
theorem sc_wrong_replica : FnScope N_wrong_replica P_wrong_replica (defScope s_wrong_replica) := ⟨rfl, rfl, rfl, by decide +kernel, rfl, by decide +kernel, by decide +kernel⟩
theorem ok_wrong_replica (F : F_wrong_replica K f fd) (T : Txt K mg CS CR CU) (c_first_wrong_place : Cal P w K mg base "first_wrong_place" 1 P_first_wrong_place (sp_fwp K)) : FnOk P w K mg base CX0 2 f fd P_wrong_replica (sp_wrong_replica K) := by
  refine FunD.ok F sc_wrong_replica (fun vs H Q E h => ?_) (fun cdv A outer s H vs Q E hr h => ?_)
  · obtain ⟨a, L, rfl, _⟩ := h
    rfl
  · obtain ⟨a, L, rfl, h1, ok, k⟩ := h
    have nd := sc_wrong_replica.nd
    refine ⟨_, PSs.nox ((pss_cons (ps_set (i := 1) nd rfl (Or.inl rfl) (pe_callB (k_sorted (K := K)) (by rfl) T.sorted bt_sorted (pa_cons (pe_ix (k_ixL (K := K)) (pv 0) pe_int (fun _ _ => rfl)) pa_nil)))
  (pss_cons (ps_for PassesOwn.never rfl (ki_enum (K := K) (by rfl) T.enumerate (pa_cons (pv 0) pa_nil)) (kg_tup (K := K) (n := 2) rfl (pgs_cons (pg_name (i := 2) nd rfl (Or.inl rfl)) (pgs_cons (pg_name (i := 3) nd rfl (Or.inl rfl)) pgs_nil)))
    (pss_one (ps_if (PW.pt (pw_or (pt_cmp (pc_notN (pe_cal c_first_wrong_place (hr.mono (by decide)) (pa_cons (pv 3) pa_nil)))) (pw_or1 (pt_cmpR (k_neD (K := K) hr.units) (pe_callB (k_sorted (K := K)) (by rfl) T.sorted bt_sorted (pa_cons (pv 3) pa_nil)) (pv 1) (nomark _)))))
    (pss_one (ps_ret (pv 2)))
    pss_nil)))
  (pss_one (ps_ret pe_non))))), ?_⟩
    obtain ⟨B, hB, hBw, hBi⟩ := h1.at_
    refine ⟨_, rfl, a, _, _, _, rfl, rfl, hB, hBi 0 (by decide), B 0, L 0, rfl, hBw 0 (by decide), Nat.lt_of_le_of_lt ok.ok.len (by decide), fun ns p pm pw hp => ?_⟩
    obtain rfl : ns = QD.srt (L 0) := QD.srt_of pm pw
    have s0 : Same H (upd H p (.lst (iV (QD.srt (L 0))))) := Same.new hp
    refine ⟨_, rfl, a, _, rfl, Same.seq s0 hB, for_it (walk_enum (K := K) (a := a)) (fun i σ H1 => ∃ v v', σ = [some (.ref a), some (.ref p), v, v'] ∧ Same (upd H p (.lst (iV (QD.srt (L 0))))) H1) ⟨none, none, rfl, Same.refl _⟩ (fun i σ H1 _ ⟨_, _, _, s1⟩ => Same.seq (s0.trans s1) hB) ?_ ?_⟩
    · rintro i x σ H1 H2 hi ⟨v, v', rfl, s1⟩ ⟨t, x1, x2, rfl, ht, rfl, e1, e2⟩
      cases e1
      obtain ⟨hi3, rfl⟩ := three_of e2
      refine ⟨t, _, rfl, SqT.of upd_same, rfl, _, _, rfl, _, _, rfl, rfl, ?_⟩
      have sA : Same H (upd H1 t (.tup [.int i, .ref (B i)])) := Same.put (s0.trans s1) ((s0.trans s1).free ht)
      refine ⟨_, rfl, B i, L i, rfl, Same.seq sA (hBw i hi3), ok.kok hi3, fun H3 s3 => ⟨_, rfl, iteF ?_⟩⟩
      have sB := sA.trans s3
      refine ⟨_, rfl, B i, L i, rfl, Same.seq sB (hBw i hi3), Nat.lt_of_le_of_lt (ok.kok hi3).len (by decide), fun ns q qm qw hq => ?_⟩
      obtain rfl : ns = QD.srt (L 0) := by
        rw [QD.srt_of qm qw]
        exact QD.srt_same (ok.perm hi3)
      have sP : Same (upd H p (.lst (iV (QD.srt (L 0))))) (upd H3 q (.lst (iV (QD.srt (L 0))))) := Same.put (s1.trans ((Same.new ht).trans s3)) ((s1.trans ((Same.new ht).trans s3)).free hq)
      refine ⟨_, rfl, dI (QD.srt (L 0)), dI (QD.srt (L 0)), dp_ints (SqL.of upd_same), dp_ints (SqL.of (sP _ _ upd_same)), shaped_ints _, shaped_ints _, _, rfl, ?_⟩
      rw [eqv_of _ (shaped_ints _)]
      exact iteF ⟨_, _, rfl, sP⟩
    · rintro σ H1 ⟨v, v', rfl, s1⟩
      exact k _ (s0.trans s1)
end
end Qd

set_option Elab.async false
set_option linter.all false
set_option maxRecDepth 100000
set_option maxHeartbeats 4000000
/-! The class State. -/
namespace Qd
open PySem PySem.Spec PyProof.Rows L2
/-! ### three new lists -/
/-- a new list of three new objects -/
structure FOs (H0 H : Hp) (D : Addr) (B : Nat → Addr) (ob : Nat → HO) : Prop where
  nD : H0 D = none
  nB : ∀ w, w < 3 → H0 (B w) = none
  d : H D = some (.lst [.ref (B 0), .ref (B 1), .ref (B 2)])
  at_ : ∀ w, w < 3 → H (B w) = some (ob w)
  dB : ∀ w, w < 3 → B w ≠ D
  inj : ∀ i j, i < 3 → j < 3 → B i = B j → i = j
abbrev lO (L : QD.LS) : Nat → HO := fun w => .lst (iV (L w))
abbrev dO (L : QD.LS) : Nat → HO := fun w => .dK (ixT (L w))
abbrev FLs (H0 H : Hp) (D : Addr) (B : Nat → Addr) (L : QD.LS) : Prop := FOs H0 H D B (lO L)
theorem FOs.lls {K : PySem.W.Frag} {H0 H : Hp} {D : Addr} {B : Nat → Addr} {L : QD.LS} (h : FLs H0 H D B L) : LLs K H D L := ⟨B, SqL.of h.d, fun w hw => SqL.of (h.at_ w hw)⟩
theorem FOs.dls {K : PySem.W.Frag} {H0 H : Hp} {D : Addr} {B : Nat → Addr} {L : QD.LS} (h : FOs H0 H D B (dO L)) : DLs K H D L := ⟨B, SqL.of h.d, fun w hw => h.at_ w hw⟩
/-- the first i of them stand -/
structure PvC (H0 : Hp) (D : Addr) (ob : Nat → HO) (i : Nat) (H : Hp) : Prop where
  s : Same H0 H
  ex : ∃ B : Nat → Addr, H D = some (.lst ((List.range i).map fun j => V.ref (B j))) ∧ (∀ j, j < i → H0 (B j) = none ∧ B j ≠ D ∧ H (B j) = some (ob j)) ∧ ∀ j k, j < i → k < i → B j = B k → j = k
theorem PvC.zero {H0 : Hp} {D : Addr} {ob : Nat → HO} (hD : H0 D = none) : PvC H0 D ob 0 (upd H0 D (.lst [])) :=
  ⟨Same.new hD, fun _ => D, upd_same, fun j h => by omega, fun j k h => by omega⟩
theorem PvC.step' {H0 H H' : Hp} {D : Addr} {ob : Nat → HO} {i : Nat} (h : PvC H0 D ob i H) (hD : H0 D = none) {l : Addr} (hl : H l = none) (s : Same H H') (hl' : H' l = some (ob i)) (hi : i < 3) :
    ∃ acc, H' D = some (.lst acc) ∧ acc.length < sizeLine ∧ PvC H0 D ob (i + 1) (upd H' D (.lst (acc ++ [V.ref l]))) := by
  obtain ⟨B, h1, h2, h3⟩ := h.ex
  have hDl : D ≠ l := ne_of_none h1 hl
  have nB : ∀ j, j < i → B j ≠ l := fun j hj => ne_of_none (h2 j hj).2.2 hl
  refine ⟨(List.range i).map fun j => V.ref (B j), s _ _ h1, sz12' (by rw [List.length_map, List.length_range]; omega), ⟨Same.put (h.s.trans s) hD, fun j => if j = i then l else B j, ?_, fun j hj => ?_, fun j k hj hk e => ?_⟩⟩
  · rw [upd_same, List.range_succ, List.map_append]
    have e : (List.range i).map (fun j => V.ref (if j = i then l else B j)) = (List.range i).map fun j => V.ref (B j) := List.map_congr_left fun j hj => by
      rw [if_neg (Nat.ne_of_lt (List.mem_range.mp hj))]
    rw [e]
    show _ = some (HO.lst (_ ++ [V.ref (if i = i then l else B i)]))
    rw [if_pos rfl]
  · dsimp only
    by_cases e : j = i
    · subst e
      rw [if_pos rfl]
      exact ⟨h.s.free hl, Ne.symm hDl, by rw [upd_ne (Ne.symm hDl)]; exact hl'⟩
    · have hj' : j < i := by omega
      rw [if_neg e]
      obtain ⟨a, b, c⟩ := h2 j hj'
      exact ⟨a, b, by rw [upd_ne b]; exact s _ _ c⟩
  · dsimp only at e
    by_cases e1 : j = i
    · by_cases e2 : k = i
      · omega
      · rw [if_pos e1, if_neg e2] at e
        exact absurd e.symm (nB k (by omega))
    · by_cases e2 : k = i
      · rw [if_neg e1, if_pos e2] at e
        exact absurd e (nB j (by omega))
      · rw [if_neg e1, if_neg e2] at e
        exact h3 j k (by omega) (by omega) e
theorem PvC.step {H0 H : Hp} {D : Addr} {L : QD.LS} {i : Nat} (h : PvC H0 D (lO L) i H) (hD : H0 D = none) {l : Addr} (hl : H l = none) (hi : i < 3) :
    ∃ acc, upd H l (.lst (iV (L i))) D = some (.lst acc) ∧ acc.length < sizeLine ∧ PvC H0 D (lO L) (i + 1) (upd (upd H l (.lst (iV (L i)))) D (.lst (acc ++ [V.ref l]))) :=
  h.step' hD hl (Same.new hl) upd_same hi
theorem PvC.done {H0 H : Hp} {D : Addr} {ob : Nat → HO} (h : PvC H0 D ob 3 H) (hD : H0 D = none) : ∃ B, FOs H0 H D B ob := by
  obtain ⟨B, h1, h2, h3⟩ := h.ex
  exact ⟨B, hD, fun w hw => (h2 w hw).1, h1, fun w hw => (h2 w hw).2.2, fun w hw => (h2 w hw).2.1, h3⟩
section
variable {P : Program} {w : World} {K : PySem.W.Frag} {mg : Str → Option Value} {base : Heap} {CS CR CU f : Addr} {fd : FuncData}
/-! ### the fields -/
theorem sf_l {l p : Addr} : ([("_lists", .ref l), ("_places", .ref p)] : List (Str × V)).lookup ("_lists" : Str) = some (.ref l) := by
  rw [List.lookup_cons]
  rfl
theorem sf_p {l p : Addr} : ([("_lists", .ref l), ("_places", .ref p)] : List (Str × V)).lookup ("_places" : Str) = some (.ref p) := by
  rw [List.lookup_cons, List.lookup_cons]
  rfl
theorem sf_no {l p : Addr} {m : Str} (h1 : (m == "_lists") = false) (h2 : (m == "_places") = false) : ([("_lists", .ref l), ("_places", .ref p)] : List (Str × V)).lookup m = none := by
  rw [List.lookup_cons, h1, List.lookup_cons, h2]
  rfl
theorem sf_put (l p : Addr) : putF "_places" (.ref p) (putF "_lists" (.ref l) []) = ([("_lists", .ref l), ("_places", .ref p)] : List (Str × V)) := by
  show (if ("_lists" : Str) = "_places" then [(("_lists" : Str), V.ref p)] else (("_lists" : Str), V.ref l) :: putF "_places" (V.ref p) []) = _
  rw [if_neg (by decide +kernel)]
  rfl
/-! ### lists -/
def sp_lists (K : PySem.W.Frag) (CS : Addr) : Sp := fun vs H Q _ => ∃ (a : Addr) (L : QD.LS), vs = [.ref a] ∧ StAt K H CS a L ∧ ∀ H' D B, Same H H' → FLs H H' D B L → Q (.ref D) H'
abbrev N_State_lists : List Str := ["self", "order"]
abbrev P_State_lists : List Str := ["self"]
theorem sc_State_lists : FnScope N_State_lists P_State_lists (defScope s_State_lists) := ⟨rfl, rfl, rfl, by decide +kernel, rfl, by decide +kernel, by decide +kernel⟩
theorem ok_State_lists (F : F_State_lists K f fd) (T : Txt K mg CS CR CU) : FnOk P w K mg base CX0 1 f fd P_State_lists (sp_lists K CS) := by
  refine FunD.ok F sc_State_lists (fun vs H Q E h => ?_) (fun cdv A outer s H vs Q E hr h => ?_)
  · obtain ⟨a, L, rfl, _⟩ := h
    rfl
  · obtain ⟨a, L, rfl, h1, k⟩ := h
    have nd := sc_State_lists.nd
    refine ⟨_, PSs.nox ((pss_one (ps_ret (pe_lc (own := [("order", 1)]) (g := gName 1) rfl nd (ki_list (K := K) (k_fld (K := K) (pv 0))) (blkOk_by (own := [("order", 1)]) (N := N_State_lists) (sc := defScope s_State_lists) (by decide +kernel)) (fun _ _ _ _ _ => pg_name (i := 1) nd rfl (Or.inl rfl)) (fun _ _ _ _ _ => pts_nil) (fun _ _ _ _ _ => (pe_callTy (k_list (K := K)) (by rfl) T.list bt_list (pa_cons (pv 1) pa_nil))))))), ?_⟩
    obtain ⟨dx, l, p, ha, hl, hp⟩ := h1.ex
    obtain ⟨B, hB, hBw, hBi⟩ := hl.at_
    refine ⟨_, rfl, a, CS, dx, _, _, rfl, ha, T.cState, T.nLists, sf_l, l, rfl, ⟨_, hB⟩, fun D hD => ?_⟩
    refine lc_list (K := K) (a := l) (fun i H2 => PvC H D (lO L) i H2) (PvC.zero hD) (fun i H2 _ q => Same.seq q.s hB) (fun i x H2 hx q => ?_) fun H2 q => ?_
    · obtain ⟨hi, rfl⟩ := three_of hx
      exact ⟨rfl, _, rfl, B i, _, rfl, .inl (Same.seq q.s (hBw i hi)), fun l hl => q.step hD hl hi⟩
    · obtain ⟨B', h⟩ := q.done hD
      exact k _ D B' q.s h
/-! ### list_of -/
def sp_list_of (K : PySem.W.Frag) (CS : Addr) : Sp := fun vs H Q _ => ∃ (a : Addr) (L : QD.LS) (w : Nat), vs = [.ref a, .int w] ∧ StAt K H CS a L ∧ w < 3 ∧ ∀ H' p, Same H H' → H p = none → H' p = some (.lst (iV (L w))) → Q (.ref p) H'
abbrev N_State_list_of : List Str := ["self", "replica"]
abbrev P_State_list_of : List Str := ["self", "replica"]
theorem sc_State_list_of : FnScope N_State_list_of P_State_list_of (defScope s_State_list_of) := ⟨rfl, rfl, rfl, by decide +kernel, rfl, by decide +kernel, by decide +kernel⟩
theorem ok_State_list_of (F : F_State_list_of K f fd) (T : Txt K mg CS CR CU) (c_check_replica : Cal P w K mg base "check_replica" 1 P_check_replica sp_check_replica) : FnOk P w K mg base CX0 2 f fd P_State_list_of (sp_list_of K CS) := by
  refine FunD.ok F sc_State_list_of (fun vs H Q E h => ?_) (fun cdv A outer s H vs Q E hr h => ?_)
  · obtain ⟨a, L, w, rfl, _⟩ := h
    rfl
  · obtain ⟨a, L, w, rfl, h1, hw, k⟩ := h
    have nd := sc_State_list_of.nd
    refine ⟨_, PSs.nox ((pss_cons (ps_expr (pe_cal c_check_replica (hr.mono (by decide)) (pa_cons (pv 1) pa_nil)))
  (pss_one (ps_ret (pe_callTy (k_list (K := K)) (by rfl) T.list bt_list (pa_cons (pe_ix (k_ixL (K := K)) (k_fld (K := K) (pv 0)) (pv 1) (fun _ _ => rfl)) pa_nil)))))), ?_⟩
    refine ⟨_, rfl, w, rfl, hw, fun H1 s1 => ?_⟩
    obtain ⟨dx, l, p, ha, hl, hp⟩ := (h1.mono s1).ex
    obtain ⟨B, hB, hBw, hBi⟩ := hl.at_
    exact ⟨_, rfl, a, CS, dx, _, _, rfl, ha, T.cState, T.nLists, sf_l, _, rfl, l, _, _, _, rfl, rfl, hB, hBi w hw, B w, _, rfl, .inl (hBw w hw), fun q hq => k _ q (Same.put s1 (s1.free hq)) (s1.free hq) upd_same⟩
/-! ### all_keys -/
def sp_all_keys (K : PySem.W.Frag) (CS : Addr) : Sp := fun vs H Q _ => ∃ (a : Addr) (L : QD.LS), vs = [.ref a] ∧ StAt K H CS a L ∧ ∀ H' p, Same H H' → H p = none → H' p = some (.lst (iV (QD.srt (L 0)))) → Q (.ref p) H'
abbrev N_State_all_keys : List Str := ["self"]
abbrev P_State_all_keys : List Str := ["self"]
theorem sc_State_all_keys : FnScope N_State_all_keys P_State_all_keys (defScope s_State_all_keys) := ⟨rfl, rfl, rfl, by decide +kernel, rfl, by decide +kernel, by decide +kernel⟩
theorem ok_State_all_keys (F : F_State_all_keys K f fd) (T : Txt K mg CS CR CU) : FnOk P w K mg base CX0 1 f fd P_State_all_keys (sp_all_keys K CS) := by
  refine FunD.ok F sc_State_all_keys (fun vs H Q E h => ?_) (fun cdv A outer s H vs Q E hr h => ?_)
  · obtain ⟨a, L, rfl, _⟩ := h
    rfl
  · obtain ⟨a, L, rfl, h1, k⟩ := h
    have nd := sc_State_all_keys.nd
    refine ⟨_, PSs.nox ((pss_one (ps_ret (pe_callB (k_sorted (K := K)) (by rfl) T.sorted bt_sorted (pa_cons (pe_ix (k_ixL (K := K)) (k_fld (K := K) (pv 0)) pe_int (fun _ _ => rfl)) pa_nil))))), ?_⟩
    obtain ⟨dx, l, p, ha, hl, hp⟩ := h1.ex
    obtain ⟨B, hB, hBw, hBi⟩ := hl.at_
    refine ⟨_, rfl, a, CS, dx, _, _, rfl, ha, T.cState, T.nLists, sf_l, l, _, _, _, rfl, rfl, hB, hBi 0 (by decide), B 0, L 0, rfl, hBw 0 (by decide), Nat.lt_of_le_of_lt h1.ok.ok.len (by decide), fun ns q pm pw hq => ?_⟩
    obtain rfl : ns = QD.srt (L 0) := QD.srt_of pm pw
    exact k _ q (Same.new hq) hq upd_same
/-! ### says -/
def sp_says (K : PySem.W.Frag) (CS : Addr) : Sp := fun vs H Q _ => ∃ (a : Addr) (L : QD.LS) (w : Nat) (x y : Int), vs = [.ref a, .int w, .int x, .int y] ∧ StAt K H CS a L ∧ w < 3 ∧ x ∈ L w ∧ y ∈ L w ∧ ∀ H', Same H H' → Q (.bl (QD.bef (L w) x y)) H'
abbrev N_State_says : List Str := ["self", "replica", "x", "y", "place"]
abbrev P_State_says : List Str := ["self", "replica", "x", "y"]
theorem sc_State_says : FnScope N_State_says P_State_says (defScope s_State_says) := ⟨rfl, rfl, rfl, by decide +kernel, rfl, by decide +kernel, by decide +kernel⟩
theorem ok_State_says (F : F_State_says K f fd) (T : Txt K mg CS CR CU) (c_check_replica : Cal P w K mg base "check_replica" 1 P_check_replica sp_check_replica) (c_require_key : Cal P w K mg base "require_key" 1 P_require_key (sp_require_key K)) :
    FnOk P w K mg base CX0 2 f fd P_State_says (sp_says K CS) := by
  refine FunD.ok F sc_State_says (fun vs H Q E h => ?_) (fun cdv A outer s H vs Q E hr h => ?_)
  · obtain ⟨a, L, w, x, y, rfl, _⟩ := h
    rfl
  · obtain ⟨a, L, w, x, y, rfl, h1, hw, hx, hy, k⟩ := h
    have nd := sc_State_says.nd
    have hu := hu_of hr
    refine ⟨_, PSs.nox ((pss_cons (ps_expr (pe_cal c_check_replica (hr.mono (by decide)) (pa_cons (pv 1) pa_nil)))
  (pss_cons (ps_set (i := 4) nd rfl (Or.inl rfl) (pe_ix (k_ixL (K := K)) (k_fld (K := K) (pv 0)) (pv 1) (fun _ _ => rfl)))
  (pss_cons (ps_expr (pe_cal c_require_key (hr.mono (by decide)) (pa_cons (pv 4) (pa_cons (pv 2) pa_nil))))
  (pss_cons (ps_expr (pe_cal c_require_key (hr.mono (by decide)) (pa_cons (pv 4) (pa_cons (pv 3) pa_nil))))
  (pss_one (ps_ret (pe_cmpR op_lt (pe_dget hu (pv 4) (pv 2) (fun _ _ => rfl)) (pe_dget hu (pv 4) (pv 3) (fun _ _ => rfl)) (nomark _))))))))), ?_⟩
    refine ⟨_, rfl, w, rfl, hw, fun H1 s1 => ?_⟩
    obtain ⟨dx, l, p, ha, hl, hp⟩ := (h1.mono s1).ex
    obtain ⟨B, hB, hBd⟩ := hp.ex
    have gx := DGet.k (k := Sum.inl x) (hBd w hw)
    have gy := DGet.k (k := Sum.inl y) (hBd w hw)
    rw [ixT_val hx] at gx
    rw [ixT_val hy] at gy
    refine ⟨_, rfl, a, CS, dx, _, _, rfl, ha, T.cState, T.nPlaces, sf_p, _, rfl, p, _, _, _, rfl, rfl, hB, three_at hw, ?_⟩
    refine ⟨_, rfl, _, rfl, B w, x, rfl, .inl ⟨_, _, hBd w hw, ixT_val hx⟩, ?_⟩
    refine ⟨_, rfl, _, rfl, B w, y, rfl, .inl ⟨_, _, hBd w hw, ixT_val hy⟩, ?_⟩
    refine ⟨_, rfl, _, rfl, B w, _, rfl, gx, _, rfl, _, rfl, B w, _, rfl, gy, _, _, rfl, rfl, ?_⟩
    have e : decide ((((L w).idxOf x : Nat) : Int) < ((L w).idxOf y : Nat)) = QD.bef (L w) x y := by
      unfold QD.bef
      exact decide_eq_decide.mpr (by omega)
    show Q (.bl (decide ((((L w).idxOf x : Nat) : Int) < ((L w).idxOf y : Nat)))) H1
    rw [e]
    exact k _ s1
/-! ### __len__ -/
def sp_len (K : PySem.W.Frag) (CS : Addr) : Sp := fun vs H Q _ => ∃ (a : Addr) (L : QD.LS), vs = [.ref a] ∧ StAt K H CS a L ∧ Q (.int ((L 0).length : Nat)) H
abbrev N_State_len : List Str := ["self"]
abbrev P_State_len : List Str := ["self"]
theorem sc_State_len : FnScope N_State_len P_State_len (defScope s_State_len) := ⟨rfl, rfl, rfl, by decide +kernel, rfl, by decide +kernel, by decide +kernel⟩
theorem ok_State_len (F : F_State_len K f fd) (T : Txt K mg CS CR CU) : FnOk P w K mg base CX0 1 f fd P_State_len (sp_len K CS) := by
  refine FunD.ok F sc_State_len (fun vs H Q E h => ?_) (fun cdv A outer s H vs Q E hr h => ?_)
  · obtain ⟨a, L, rfl, _⟩ := h
    rfl
  · obtain ⟨a, L, rfl, h1, k⟩ := h
    have nd := sc_State_len.nd
    refine ⟨_, PSs.nox ((pss_one (ps_ret (pe_callB (k_len (K := K)) (by rfl) T.len bt_len (pa_cons (pe_ix (k_ixL (K := K)) (k_fld (K := K) (pv 0)) pe_int (fun _ _ => rfl)) pa_nil))))), ?_⟩
    obtain ⟨dx, l, p, ha, hl, hp⟩ := h1.ex
    obtain ⟨B, hB, hBw, hBi⟩ := hl.at_
    refine ⟨_, rfl, a, CS, dx, _, _, rfl, ha, T.cState, T.nLists, sf_l, l, _, _, _, rfl, rfl, hB, hBi 0 (by decide), B 0, _, rfl, .inl (hBw 0 (by decide)), ?_⟩
    rw [show (iV (L 0)).length = (L 0).length from List.length_map ..]
    exact k
/-! ### __init__ -/
def sp_State_init (K : PySem.W.Frag) (CS : Addr) : Sp := fun vs H Q _ => ∃ (a dx : Addr) (B : Nat → Addr) (L : QD.LS), vs = [.ref a, .ref (B 0), .ref (B 1), .ref (B 2)] ∧ H a = some (.ins CS dx []) ∧ (∀ w, w < 3 → SqI K H (B w) (L w)) ∧ QD.StOk L ∧
  ∀ H', StAt K H' CS a L → (∀ b o, H b = some o → b ≠ a → H' b = some o) → Q .non H'
/-- its lists are new -/
def NewSt (H0 H : Hp) (CS p : Addr) : Prop := ∃ dx l q, H p = some (.ins CS dx [("_lists", .ref l), ("_places", .ref q)]) ∧ H0 l = none ∧ H0 q = none ∧ (∃ u, H l = some u) ∧ ∃ u, H q = some u
theorem NewSt.mono {H0 H H' : Hp} {p : Addr} (h : NewSt H0 H CS p) (s : Same H H') : NewSt H0 H' CS p := by
  obtain ⟨dx, l, q, h1, h2, h3, ⟨u, h4⟩, v, h5⟩ := h
  exact ⟨dx, l, q, s _ _ h1, h2, h3, ⟨u, s _ _ h4⟩, v, s _ _ h5⟩
theorem NewSt.since {H0 H1 H : Hp} {p : Addr} (h : NewSt H1 H CS p) (s : Same H0 H1) : NewSt H0 H CS p := by
  obtain ⟨dx, l, q, h1, h2, h3, h4⟩ := h
  exact ⟨dx, l, q, h1, s.free h2, s.free h3, h4⟩
def sp_State_init2 (K : PySem.W.Frag) (CS : Addr) : Sp := fun vs H Q _ => ∃ (a dx : Addr) (B : Nat → Addr) (L : QD.LS), vs = [.ref a, .ref (B 0), .ref (B 1), .ref (B 2)] ∧ H a = some (.ins CS dx []) ∧ (∀ w, w < 3 → SqI K H (B w) (L w)) ∧ QD.StOk L ∧
  ∀ H', StAt K H' CS a L → NewSt H H' CS a → (∀ b o, H b = some o → b ≠ a → H' b = some o) → Q .non H'
abbrev N_State_init : List Str := ["self", "first", "second", "third", "orders", "wrong", "order"]
abbrev P_State_init : List Str := ["self", "first", "second", "third"]
theorem sc_State_init : FnScope N_State_init P_State_init (defScope s_State_init) := ⟨rfl, rfl, rfl, by decide +kernel, rfl, by decide +kernel, by decide +kernel⟩
theorem ok_State_init2 (F : F_State_init K f fd) (T : Txt K mg CS CR CU) (c_wrong_replica : Cal P w K mg base "_wrong_replica" 2 P_wrong_replica (sp_wrong_replica K)) (c_index_of : Cal P w K mg base "index_of" 1 P_index_of (sp_index_of K)) :
    FnOk P w K mg base CX0 3 f fd P_State_init (sp_State_init2 K CS) := by
  refine FunD.ok F sc_State_init (fun vs H Q E h => ?_) (fun cdv A outer s H vs Q E hr h => ?_)
  · obtain ⟨a, dx, B, L, rfl, _⟩ := h
    rfl
  · obtain ⟨a, dx, B, L, rfl, ha, hBw, ok, k⟩ := h
    have nd := sc_State_init.nd
    refine ⟨_, PSs.nox ((pss_cons (ps_set (i := 4) nd rfl (Or.inl rfl) (pe_lst (pa_cons (pe_callTy (k_list (K := K)) (by rfl) T.list bt_list (pa_cons (pv 1) pa_nil)) (pa_cons (pe_callTy (k_list (K := K)) (by rfl) T.list bt_list (pa_cons (pv 2) pa_nil)) (pa_cons (pe_callTy (k_list (K := K)) (by rfl) T.list bt_list (pa_cons (pv 3) pa_nil)) pa_nil)))))
  (pss_cons (ps_set (i := 5) nd rfl (Or.inl rfl) (pe_cal c_wrong_replica (hr.mono (by decide)) (pa_cons (pv 4) pa_nil)))
  (pss_cons (ps_if (pt_cmp (pc_notN (pv 5)))
    (pss_one ps_never)
    pss_nil)
  (pss_cons (ps_fld (pv 0) (pv 4) rfl)
  (pss_one (ps_fld (pv 0) (pe_lc (own := [("order", 6)]) (g := gName 6) rfl nd (ki_list (K := K) (pv 4)) (blkOk_by (own := [("order", 6)]) (N := N_State_init) (sc := defScope s_State_init) (by decide +kernel)) (fun _ _ _ _ _ => pg_name (i := 6) nd rfl (Or.inl rfl)) (fun _ _ _ _ _ => pts_nil) (fun _ _ _ _ _ => (pe_cal c_index_of (hr.mono (by decide)) (pa_cons (pv 6) pa_nil)))) rfl))))))), ?_⟩
    have q1 : ∀ {l0 : Addr} {H1 : Hp}, Same H H1 → H1 l0 = none → ∀ w, w < 3 → SqI K (upd H1 l0 (.lst (iV (L 0)))) (B w) (L w) := fun s1 h w hw => Same.seq (s1.trans (Same.new h)) (hBw w hw)
    refine ⟨_, rfl, B 0, _, rfl, .inl (hBw 0 (by decide)), fun l0 n0 => ?_⟩
    have s0 : Same H (upd H l0 (.lst (iV (L 0)))) := Same.new n0
    refine ⟨_, rfl, B 1, _, rfl, .inl (Same.seq s0 (hBw 1 (by decide))), fun l1 n1 => ?_⟩
    have s1 := s0.trans (Same.new (o := .lst (iV (L 1))) n1)
    refine ⟨_, rfl, B 2, _, rfl, .inl (Same.seq s1 (hBw 2 (by decide))), fun l2 n2 => ?_⟩
    have s2 := s1.trans (Same.new (o := .lst (iV (L 2))) n2)
    refine ⟨by show 3 ≤ sizeLine; decide, fun o no => ?_⟩
    have s3 := s2.trans (Same.new (o := .lst [.ref l0, .ref l1, .ref l2]) no)
    have e0 : upd (upd (upd (upd H l0 (.lst (iV (L 0)))) l1 (.lst (iV (L 1)))) l2 (.lst (iV (L 2)))) o (.lst [.ref l0, .ref l1, .ref l2]) l0 = some (.lst (iV (L 0))) :=
      (Same.new no) _ _ ((Same.new n2) _ _ ((Same.new n1) _ _ upd_same))
    have e1 : upd (upd (upd (upd H l0 (.lst (iV (L 0)))) l1 (.lst (iV (L 1)))) l2 (.lst (iV (L 2)))) o (.lst [.ref l0, .ref l1, .ref l2]) l1 = some (.lst (iV (L 1))) :=
      (Same.new no) _ _ ((Same.new n2) _ _ upd_same)
    have e2 : upd (upd (upd (upd H l0 (.lst (iV (L 0)))) l1 (.lst (iV (L 1)))) l2 (.lst (iV (L 2)))) o (.lst [.ref l0, .ref l1, .ref l2]) l2 = some (.lst (iV (L 2))) :=
      (Same.new no) _ _ upd_same
    have eo : upd (upd (upd (upd H l0 (.lst (iV (L 0)))) l1 (.lst (iV (L 1)))) l2 (.lst (iV (L 2)))) o (.lst [.ref l0, .ref l1, .ref l2]) o = some (.lst [.ref l0, .ref l1, .ref l2]) := upd_same
    generalize upd (upd (upd (upd H l0 (.lst (iV (L 0)))) l1 (.lst (iV (L 1)))) l2 (.lst (iV (L 2)))) o (.lst [.ref l0, .ref l1, .ref l2]) = H1 at *
    have LL : LLs K H1 o L := ⟨fun w => if w = 0 then l0 else if w = 1 then l1 else l2, SqL.of eo, fun w hw => by
      match w, hw with
      | 0, _ => exact SqL.of e0
      | 1, _ => exact SqL.of e1
      | 2, _ => exact SqL.of e2⟩
    refine ⟨_, rfl, o, L, rfl, LL, ok, fun H2 s4 => ⟨_, rfl, _, rfl, iteF ?_⟩⟩
    have sA := s3.trans s4
    have hao : a ≠ o := ne_of (sA _ _ ha) (s4 _ _ eo) (by intro z; cases z)
    refine ⟨_, rfl, _, rfl, a, CS, dx, [], rfl, sA _ _ ha, T.cState, T.nLists, (by show 0 < 1000; decide), ?_⟩
    -- the places
    generalize hH3 : upd H2 a (.ins CS dx (putF "_lists" (.ref o) [])) = H3
    have k3 : ∀ b u, H2 b = some u → b ≠ a → H3 b = some u := fun b u q hb => by rw [← hH3, upd_ne hb]; exact q
    have h3a : H3 a = some (.ins CS dx (putF "_lists" (.ref o) [])) := by rw [← hH3, upd_same]
    have noA : ∀ {b : Addr} {xs : List V}, H2 b = some (.lst xs) → b ≠ a := fun q e => by
      rw [e, sA _ _ ha] at q
      cases q
    have h3o : H3 o = some (.lst [.ref l0, .ref l1, .ref l2]) := k3 _ _ (s4 _ _ eo) (noA (s4 _ _ eo))
    have LL3 : LLs K H3 o L := ⟨fun w => if w = 0 then l0 else if w = 1 then l1 else l2, SqL.of h3o, fun w hw => by
      match w, hw with
      | 0, _ => exact SqL.of (k3 _ _ (s4 _ _ e0) (noA (s4 _ _ e0)))
      | 1, _ => exact SqL.of (k3 _ _ (s4 _ _ e1) (noA (s4 _ _ e1)))
      | 2, _ => exact SqL.of (k3 _ _ (s4 _ _ e2) (noA (s4 _ _ e2)))⟩
    obtain ⟨C, hC, hCw⟩ := LL3.ex
    refine ⟨_, rfl, o, rfl, ⟨_, hC⟩, fun D hD => ?_⟩
    refine lc_list (K := K) (a := o) (fun i H4 => PvC H3 D (dO L) i H4) (PvC.zero hD) (fun i H4 _ q => Same.seq q.s hC) (fun i x H4 hx q => ?_) fun H4 q => ?_
    · obtain ⟨hi, rfl⟩ := three_of hx
      exact ⟨rfl, _, rfl, C i, L i, rfl, Same.seq q.s (hCw i hi), ok.kok hi, fun H5 p s5 hp hp' => q.step' hD hp s5 hp' hi⟩
    · obtain ⟨B', h⟩ := q.done hD
      have h4a := q.s _ _ h3a
      refine ⟨_, rfl, a, CS, dx, _, rfl, h4a, T.cState, T.nPlaces, (by show 1 < 1000; decide), ?_⟩
      have keep : ∀ b u, H4 b = some u → (∀ fs, u ≠ .ins CS dx fs) → upd H4 a (.ins CS dx (putF "_places" (.ref D) (putF "_lists" (.ref o) []))) b = some u := fun b u q2 n => by
        rw [upd_ne (fun e => by rw [e, h4a] at q2; exact n _ (Option.some.inj q2).symm)]
        exact q2
      have kl : ∀ b xs, H1 b = some (.lst xs) → upd H4 a (.ins CS dx (putF "_places" (.ref D) (putF "_lists" (.ref o) []))) b = some (.lst xs) := fun b xs q2 =>
        keep _ _ (q.s _ _ (k3 _ _ (s4 _ _ q2) (noA (s4 _ _ q2)))) (fun fs e => by cases e)
      refine k _ ⟨ok, dx, o, D, ?_, ⟨fun w => if w = 0 then l0 else if w = 1 then l1 else l2, SqL.of (kl _ _ eo), fun w hw => ?_⟩, ⟨B', SqL.of (keep _ _ h.d (fun fs e => by cases e)), fun w hw => keep _ _ (h.at_ w hw) (fun fs e => by cases e)⟩⟩ ⟨dx, o, D, by rw [upd_same, sf_put], s2.free no, ?_, ⟨_, kl _ _ eo⟩, _, keep _ _ h.d (fun fs e => by cases e)⟩ fun b u hb hne => ?_
      · rw [upd_same, sf_put]
      · match w, hw with
        | 0, _ => exact SqL.of (kl _ _ e0)
        | 1, _ => exact SqL.of (kl _ _ e1)
        | 2, _ => exact SqL.of (kl _ _ e2)
      · refine sA.free ?_
        have hDa : D ≠ a := Ne.symm (ne_of_none h3a hD)
        rw [← hH3, upd_ne hDa] at hD
        exact hD
      · rw [upd_ne hne]
        exact q.s _ _ (k3 _ _ (sA _ _ hb) hne)
theorem ok_State_init (F : F_State_init K f fd) (T : Txt K mg CS CR CU) (c_wrong_replica : Cal P w K mg base "_wrong_replica" 2 P_wrong_replica (sp_wrong_replica K)) (c_index_of : Cal P w K mg base "index_of" 1 P_index_of (sp_index_of K)) :
    FnOk P w K mg base CX0 3 f fd P_State_init (sp_State_init K CS) := (ok_State_init2 F T c_wrong_replica c_index_of).imp fun vs H Q E h => by
  obtain ⟨a, dx, B, L, h1, h2, h3, h4, k⟩ := h
  exact ⟨a, dx, B, L, h1, h2, h3, h4, fun H' st _ kp => k H' st kp⟩
/-! ### with_list -/
def sp_with_list (K : PySem.W.Frag) (CS : Addr) : Sp := fun vs H Q _ => ∃ (a b : Addr) (L : QD.LS) (w : Nat) (l : List Int), vs = [.ref a, .int w, .ref b] ∧ StAt K H CS a L ∧ w < 3 ∧ SqI K H b l ∧ l.Perm (L 0) ∧
  ∀ H' p, Same H H' → StAt K H' CS p (QD.setL L w l) → Q (.ref p) H'
def sp_with_list2 (K : PySem.W.Frag) (CS : Addr) : Sp := fun vs H Q _ => ∃ (a b : Addr) (L : QD.LS) (w : Nat) (l : List Int), vs = [.ref a, .int w, .ref b] ∧ StAt K H CS a L ∧ w < 3 ∧ SqI K H b l ∧ l.Perm (L 0) ∧
  ∀ H' p, Same H H' → StAt K H' CS p (QD.setL L w l) → NewSt H H' CS p → Q (.ref p) H'
abbrev N_State_with_list : List Str := ["self", "replica", "order", "orders", "first", "second", "third"]
abbrev P_State_with_list : List Str := ["self", "replica", "order"]
theorem sc_State_with_list : FnScope N_State_with_list P_State_with_list (defScope s_State_with_list) := ⟨rfl, rfl, rfl, by decide +kernel, rfl, by decide +kernel, by decide +kernel⟩
theorem ok_State_with_list2 (F : F_State_with_list K f fd) (T : Txt K mg CS CR CU) (c_check_replica : Cal P w K mg base "check_replica" 1 P_check_replica sp_check_replica) (c_first_wrong_place : Cal P w K mg base "first_wrong_place" 1 P_first_wrong_place (sp_fwp K))
    (m_State_all_keys : Met P w K mg base CS "all_keys" 1 P_State_all_keys (sp_all_keys K CS)) (m_State_lists : Met P w K mg base CS "lists" 1 P_State_lists (sp_lists K CS)) (c_State : Mak P w K mg base "State" CS 3 P_State_init (sp_State_init2 K CS)) :
    FnOk P w K mg base CX0 5 f fd P_State_with_list (sp_with_list2 K CS) := by
  refine FunD.ok F sc_State_with_list (fun vs H Q E h => ?_) (fun cdv A outer s H vs Q E hr h => ?_)
  · obtain ⟨a, b, L, w, l, rfl, _⟩ := h
    rfl
  · obtain ⟨a, b, L, w, l, rfl, h1, hw, hl, pl, k⟩ := h
    have nd := sc_State_with_list.nd
    refine ⟨_, PSs.nox ((pss_cons (ps_expr (pe_cal c_check_replica (hr.mono (by decide)) (pa_cons (pv 1) pa_nil)))
  (pss_cons (ps_if (PW.pt (pw_or (pt_cmp (pc_notN (pe_cal c_first_wrong_place (hr.mono (by decide)) (pa_cons (pv 2) pa_nil)))) (pw_or1 (pt_cmpR (k_neD (K := K) hr.units) (pe_callB (k_sorted (K := K)) (by rfl) T.sorted bt_sorted (pa_cons (pv 2) pa_nil)) (pe_met0 m_State_all_keys T.cState (hr.mono (by decide)) (pv 0)) (nomark _)))))
    (pss_one ps_never)
    pss_nil)
  (pss_cons (ps_set (i := 3) nd rfl (Or.inl rfl) (pe_met0 m_State_lists T.cState (hr.mono (by decide)) (pv 0)))
  (pss_cons (ps_asg (pv 2) (pg_sub (pv 3) (pv 1) set_list))
  (pss_cons (ps_asg (pv 3) (kg_unl (K := K) (n := 3) rfl (pgs_cons (pg_name (i := 4) nd rfl (Or.inl rfl)) (pgs_cons (pg_name (i := 5) nd rfl (Or.inl rfl)) (pgs_cons (pg_name (i := 6) nd rfl (Or.inl rfl)) pgs_nil)))))
  (pss_one (ps_ret (pe_mak c_State (hr.mono (by decide)) (pa_cons (pv 4) (pa_cons (pv 5) (pa_cons (pv 6) pa_nil)))))))))))), ?_⟩
    have okl : QD.KOk l := h1.ok.ok.perm pl
    refine ⟨_, rfl, w, rfl, hw, fun H1 s1 => ?_⟩
    refine ⟨_, rfl, b, l, rfl, Same.seq s1 hl, okl, fun H2 s2 => ⟨_, rfl, iteF ?_⟩⟩
    have sA := s1.trans s2
    refine ⟨_, rfl, b, l, rfl, Same.seq sA hl, Nat.lt_of_le_of_lt okl.len (by decide), fun ns q pm pw hq => ?_⟩
    obtain rfl : ns = QD.srt (L 0) := by
      rw [QD.srt_of pm pw]
      exact QD.srt_same pl
    have sB := sA.trans (Same.new (o := .lst (iV (QD.srt (L 0)))) hq)
    obtain ⟨dx, l1, p1, ha, _⟩ := (h1.mono sB).ex
    refine ⟨_, rfl, a, dx, _, rfl, ha, sf_no (by decide +kernel) (by decide +kernel), a, L, rfl, h1.mono sB, fun H3 r s3 hr hr' => ?_⟩
    refine ⟨dI (QD.srt (L 0)), dI (QD.srt (L 0)), dp_ints (SqL.of (s3 _ _ upd_same)), dp_ints (SqL.of hr'), shaped_ints _, shaped_ints _, _, rfl, ?_⟩
    rw [eqv_of _ (shaped_ints _)]
    refine iteF ?_
    have sC := sB.trans s3
    obtain ⟨dx, l1, p1, ha, _⟩ := (h1.mono sC).ex
    refine ⟨_, rfl, a, dx, _, rfl, ha, sf_no (by decide +kernel) (by decide +kernel), a, L, rfl, h1.mono sC, fun H4 D B s4 fl => ?_⟩
    have sD := sC.trans s4
    refine ⟨_, rfl, _, rfl, _, rfl, D, _, _, w, rfl, rfl, fl.d, ixN_nat hw, ?_⟩
    generalize hH5 : upd H4 D (.lst (([.ref (B 0), .ref (B 1), .ref (B 2)] : List V).set w (.ref b))) = H5
    have h5D : H5 D = some (.lst (([.ref (B 0), .ref (B 1), .ref (B 2)] : List V).set w (.ref b))) := by rw [← hH5, upd_same]
    have k5 : ∀ c u, H4 c = some u → c ≠ D → H5 c = some u := fun c u q n => by rw [← hH5, upd_ne n]; exact q
    have s5 : Same H H5 := by rw [← hH5]; exact Same.put sD (sC.free fl.nD)
    obtain ⟨C, hC⟩ : ∃ C : Nat → Addr, C = fun j => if j = w then b else B j := ⟨_, rfl⟩
    have eC : ([.ref (B 0), .ref (B 1), .ref (B 2)] : List V).set w (.ref b) = [.ref (C 0), .ref (C 1), .ref (C 2)] := by
      rw [hC]
      match w, hw with
      | 0, _ => rfl
      | 1, _ => rfl
      | 2, _ => rfl
    rw [eC] at h5D
    have hCw : ∀ j, j < 3 → SqI K H5 (C j) (QD.setL L w l j) := fun j hj => by
      rw [hC]
      dsimp only
      by_cases e : j = w
      · subst e
        rw [if_pos rfl, QD.setL_same]
        exact Same.seq s5 hl
      · rw [if_neg e, QD.setL_ne L l e]
        exact SqL.of (k5 _ _ (fl.at_ j hj) (fl.dB j hj))
    refine ⟨_, rfl, D, _, rfl, SqL.of h5D, rfl, _, _, rfl, _, _, rfl, _, _, rfl, rfl, ?_⟩
    refine ⟨_, rfl, _, rfl, _, rfl, fun x dy nx ny nxy => ?_⟩
    have s6 : Same H5 (upd (upd H5 dy (.own x)) x (.ins CS dy [])) := fun c u q => by
      rw [upd_ne (ne_of_none q nx), upd_ne (ne_of_none q ny)]
      exact q
    exact ⟨x, dy, C, QD.setL L w l, rfl, upd_same, fun j hj => Same.seq s6 (hCw j hj), h1.ok.set hw pl, fun H6 st nw kp => ⟨rfl, k _ x (fun c u q => kp c u (s6 _ _ (s5 _ _ q)) (ne_of_none (s5 _ _ q) nx)) st (nw.since (s5.trans s6))⟩⟩
theorem with_list_weak {fd : FuncData} (F : FnOk P w K mg base CX0 5 f fd P_State_with_list (sp_with_list2 K CS)) : FnOk P w K mg base CX0 5 f fd P_State_with_list (sp_with_list K CS) := F.imp fun vs H Q E h => by
  obtain ⟨a, b, L, w, l, h1, h2, h3, h4, h5, k⟩ := h
  exact ⟨a, b, L, w, l, h1, h2, h3, h4, h5, fun H' p s st _ => k H' p s st⟩
end
end Qd

set_option Elab.async false
set_option linter.all false
set_option maxRecDepth 100000
set_option maxHeartbeats 4000000
/-! Rules of this proof's own: dict comprehensions whose keys are tuples, sorted(d) of such a dict, len(o) by an own method, calls with keyword-only parameters alone. -/
namespace Qd
open PySem PySem.Spec PyProof.Rows L2
/-! ### a store by a comprehension, int, text or tuple keys -/
section
variable {X : Cx} {pins : List (Addr × Obj)} {σ : L2.St} {H H' : Hp} {s : Shared} {E : Value → Shared → Prop} {D : Addr} {y v : V} {u r : Value} {Q : Unit → Shared → Prop}
theorem put_run (room : X.A.units < cLine) (I : Inv X pins σ H s) (g : DPut H D y v H') (ry : RelV y u) (rv : RelV v r) (fin : ∀ s', Inv X pins σ H' s' → Q () s') : wpAny (model X.prog X.w) X.A (dictSet D u r) Q E s := by
  rcases g with ⟨kvs, k, e, rfl, l, rfl⟩ | ⟨kvs, k, b, e, rfl, eb, l, rfl⟩
  · exact d_dictSet I e l ry rv fin
  · obtain rfl : u = .ref b := ry
    obtain ⟨fits, notSys, xs, rel, dict⟩ := dt_of I.hok e
    have grown : (putK kvs k v).length ≤ sizeLine := Nat.le_trans (length_putK kvs k v) l
    refine wpAny_dictSet_heap (hsz := by rw [← Paired.length rel]; exact fits) room (key_of I.hok eb) dict fun h' new same => fin _ ?_
    obtain ⟨o, es, ep, at_, exact_, data, keys, _, once⟩ := new
    have stay : ∀ c ys, H c = some (.tup ys) → upd H D (.dT (putK kvs k v)) c = some (.tup ys) := fun c ys ec => by
      rw [upd_ne (ne_of ec e fun z => nomatch z)]
      exact ec
    exact d_write I (by rw [e]; trivial) same ⟨o, at_⟩ ⟨grown, notSys, _, (rel.put k eb rv).keeps stay, o, es, ep, at_, exact_, data, keys, once⟩
end
section
variable {X : Cx}
/-- {k: v for target in iter if ..}, the new dict at D, its keys tuples -/
def tDcT (wi : TI) (g : TG) (tt : TT) (tk tv : TE) (vs : List Nat) : TE := fun σ H Q => wi σ H fun J H1 => ∀ D, H1 D = none → ∃ W : Nat → Nat → Hp → Prop, (∃ m, W 0 m (upd H1 D (.dT []))) ∧ ∀ i m H, W i m H →
  (J.stop i H ∧ Q (.ref D) H) ∨ (J.go i H ∧ ∃ Nx : Hp → Prop, (∀ H', Nx H' → ∃ m', m' < m ∧ W (i + 1) m' H') ∧ ∀ x H', J.yld i H x H' → g x (wipe σ vs) H' fun σ2 H2 => wipe σ2 vs = wipe σ vs ∧ tt σ2 H2 fun b H3 =>
    if b = true then tk σ2 H3 fun y H4 => tv σ2 H4 fun z H5 => ∃ H6, DPut H5 D y z H6 ∧ Nx H6 else Nx H3)
/-- the block, run: use: what is done with the dict within it; end_: its end -/
theorem dcT_core {pins : List (Addr × Obj)} {s : Shared} {σ : L2.St} {H : Hp} {Q : VK} {kx vx tg iter : Expr} {ifs : List Expr} {scope : Scope} {own : List (Str × Nat)} {pos pos' : Pos} {wi : TI} {g : TG} {tt : TT} {tk tv : TE} {use : Option (Value → Sem Unit)} {Qf : Value → Shared → Prop}
    (room : X.A.units < cLine) (calm : X.calm = true) (hN : X.N.Nodup) (I : Inv X pins σ H s) (walks : PI X tg iter wi) (ok : BlkOk X.N X.env.scope scope own)
    (target : ∀ (s : Shared) (H : Hp) (C : Addr) (cl : List (Str × Addr)) (fp : List Addr), PG (X.blk s H scope (compEnvC scope cl C X.env) fp) tg g)
    (tests : ∀ (s : Shared) (H : Hp) (C : Addr) (cl : List (Str × Addr)) (fp : List Addr), PTs (X.blk s H scope (compEnvC scope cl C X.env) fp) ifs tt)
    (key : ∀ (s : Shared) (H : Hp) (C : Addr) (cl : List (Str × Addr)) (fp : List Addr), PE (X.blk s H scope (compEnvC scope cl C X.env) fp) kx tk)
    (val : ∀ (s : Shared) (H : Hp) (C : Addr) (cl : List (Str × Addr)) (fp : List Addr), PE (X.blk s H scope (compEnvC scope cl C X.env) fp) vx tv)
    (folded : ∀ x, foldedSetIterable iter X.env x = pure x) (h : tDcT wi g tt tk tv (own.map (·.2)) σ H Q)
    (end_ : ∀ D C s' m H', Inv X pins σ H' s' → Q (.ref D) H' → s'.heap.Ns C m → FpOk X pins H' C → compPost (model X.prog X.w) X.A X.xe use Qf (.ref D) C (.ok .next) s') :
    wpAny (model X.prog X.w) X.A (comprehension (.DictComp kx vx [⟨tg, iter, ifs, 0⟩] scope pos) scope X.env pos' newDict false (eval iter X.env) use) Qf X.xe s := by
  have captured : ∀ y ∈ scope.names, y.2 = .free → ∃ c, X.env.cells.lookup y.1 = some c := fun y hy e =>
    (ok.free y hy e).elim (fun k => I.ok.has _ (.inl k)) fun k => I.ok.has _ (.inr k)
  refine wpAny_comprehension_free (use := use) rfl folded (closure_ok captured) ok.kind (fun y hy e => by rw [ok.uniq y hy, e]) ?_
  refine thn (walks.run pins s σ H _ I h) fun xv s1 begins => thn begins fun itv s2 made => ?_
  obtain ⟨it, fp, tn, J, H2, rfl, I2, T, st2, f2, reading⟩ := made
  refine wpAny_newObj_type (newEnv_comp ?_)
  -- D: where the new dict stands; s3: the state with it
  generalize eD : s2.heap.objs.size = D
  have freeD : H2 D = none := I2.hok.fresh (Nat.le_of_eq eD)
  obtain ⟨W, ⟨m0, w0⟩, step⟩ := reading D freeD
  generalize es3 : ({ s2 with heap := s2.heap.push { cls := .type "dict", data := .dict #[] } } : Shared) = s3
  have heap3 : s3.heap = s2.heap.push { cls := .type "dict", data := .dict #[] } := by rw [← es3]
  have I3 : Inv X pins σ (upd H2 D (.dT [])) s3 := by
    rw [← es3]
    refine I2.laid (t' := s2.toks) (fun b o e => Heap.get?_push_of_some _ e) (Nat.le_of_eq eD) ?_
    rw [← eD]
    exact dt_empty s2.heap I2.big
  have young : ∀ b ∈ fp, b < s2.heap.objs.size := fun b hb => let ⟨_, e, _⟩ := T.obj _ _ st2 b hb; Heap.lt_size e
  have f3 : ∀ b ∈ fp, FpOk X pins (upd H2 D (.dT [])) b ∧ b < s3.heap.objs.size := fun b hb => by
    have lt := young b hb
    have ne : b ≠ D := by rw [← eD]; exact Nat.ne_of_lt lt
    exact ⟨⟨by rw [upd_ne ne]; exact (f2 b hb).1, (f2 b hb).2⟩, by rw [heap3, Heap.size_push]; exact Nat.lt_succ_of_lt lt⟩
  have st3 : tn 0 s3.heap := T.keep _ _ _ st2 fun b _ o e => by rw [heap3]; exact Heap.get?_push_of_some _ e
  have I4 := block_start I3 ok hN f3
  -- the block's environment
  have pg := target s3 (upd H2 D (.dT [])) s3.heap.objs.size (cellsFrom (s3.heap.objs.size + 1) scope.names (cloFrom X.env.cells scope.names [])) fp
  have pt := tests s3 (upd H2 D (.dT [])) s3.heap.objs.size (cellsFrom (s3.heap.objs.size + 1) scope.names (cloFrom X.env.cells scope.names [])) fp
  have pk := key s3 (upd H2 D (.dT [])) s3.heap.objs.size (cellsFrom (s3.heap.objs.size + 1) scope.names (cloFrom X.env.cells scope.names [])) fp
  have pv := val s3 (upd H2 D (.dT [])) s3.heap.objs.size (cellsFrom (s3.heap.objs.size + 1) scope.names (cloFrom X.env.cells scope.names [])) fp
  have unseen : ∀ b ∈ fp, (upd H2 D (.dT [])) b = none := fun b hb => (f3 b hb).1.1
  show codeAny _ _ (.compStart (.DictComp kx vx [⟨tg, iter, ifs, 0⟩] scope pos) 0 (.ref it) (.ref D) (compEnvC scope (cellsFrom (s3.heap.objs.size + 1) scope.names (cloFrom X.env.cells scope.names [])) s3.heap.objs.size X.env)) _ { s3 with heap := pushCells (s3.heap.push { cls := .type "dict", data := .dict #[] }) scope.names }
  generalize ece : compEnvC scope (cellsFrom (s3.heap.objs.size + 1) scope.names (cloFrom X.env.cells scope.names [])) s3.heap.objs.size X.env = ce at I4 pg pt pk pv ⊢
  have atL : ce.locals = s3.heap.objs.size := by subst ece; rfl
  generalize eH3 : upd H2 D (.dT []) = H3 at I3 I4 pg pt pk pv w0 unseen f3
  generalize es4 : ({ s3 with heap := pushCells (s3.heap.push { cls := .type "dict", data := .dict #[] }) scope.names } : Shared) = s4 at I4 ⊢
  have st4 : tn 0 s4.heap := T.keep _ _ _ st3 fun b _ o e => by rw [← es4]; exact pushCells_keeps _ _ _ _ (Heap.get?_push_of_some _ e)
  have stations : ∀ {σ' : L2.St} {H' : Hp} {s' : Shared}, Inv (X.blk s3 H3 scope ce fp) [] σ' H' s' → (∀ b ∈ fp, H' b = none) → ∀ b ∈ fp, FpOk (X.blk s3 H3 scope ce fp) [] H' b := fun {σ' H' s'} I' un b hb =>
    ⟨un b hb, (I'.ok.exf b hb).1, I'.ok.exfs b hb, .inl hb, fun x c e => (I'.ok.exf b hb).2 x c e, fun p hp => absurd (show p ∈ ([] : List (Addr × Obj)) ++ [] from hp) (by simp)⟩
  refine codeAny_compStart_dict ?_ (T.self X.A 0 _ _ _ st4 ?_)
  all_goals
    refine compLoop_anyD (fun n s' => ∃ i H', Inv (X.blk s3 H3 scope ce fp) [] (wipe σ (own.map (·.2))) H' s' ∧ tn i s'.heap ∧ (∀ b ∈ fp, H' b = none) ∧ W i n H') ?_ m0 ⟨0, H3, I4, st4, unseen, w0⟩
    rintro n s5 ⟨i, H5, I5, st5, un5, w5⟩
    rcases step i n H5 w5 with ⟨stop, done⟩ | ⟨go, Nx, next, turn⟩
    · -- no item is left
      refine thnF (T.done (X.blk s3 H3 scope ce fp) rfl rfl rfl calm i [] s5 _ H5 (fun _ _ => False) I5 (stations I5 un5) st5 stop) fun r s6 ⟨hr, I6⟩ => ?_
      subst hr
      have I7 : Inv X pins σ H5 s6 := I3.call' (ch := fp) I6.os I6.base I6.hok I6.bare fun b hb => ⟨(f3 b hb).1.2.2.2.1, (f3 b hb).1.2.1, (f3 b hb).1.2.2.2.2.1, (f3 b hb).1.2.2.2.2.2⟩
      have freeC : H5 s3.heap.objs.size = none := by rw [← atL]; exact I6.free
      obtain ⟨m, ns, _⟩ := I6.loc
      have ns' : s6.heap.Ns ce.locals m := ns
      rw [atL] at ns'
      exact end_ D s3.heap.objs.size s6 m H5 I7 done ns' (I3.fpOk (Nat.le_refl _) freeC)
    · refine thnF (T.item (X.blk s3 H3 scope ce fp) rfl rfl rfl calm i [] s5 _ H5 (fun _ _ => False) I5 (stations I5 un5) st5 go) fun r s6 ⟨u, hr, given⟩ => ?_
      subst hr
      refine thnF given fun _ s7 ⟨x, H7, I7, r7, y7, st7, un7⟩ => ?_
      have I7p := I7.pinned (stations I7 un7) (T.obj _ _ st7)
      refine thnF (pg.run _ s7 _ H7 x u _ I7p r7 (turn x H7 y7)) fun _ s8 ⟨σ8, H8, I8, kept8, q8⟩ => ?_
      refine thnF (pt.run _ s8 σ8 H8 _ I8 q8) fun b s9 ⟨H9, I9, q9⟩ => ?_
      have back : ∀ {s' : Shared} {H' : Hp}, Inv (X.blk s3 H3 scope ce fp) ([] ++ pinsAt fp s7.heap) σ8 H' s' → Nx H' → ∃ m, m < n ∧ ∃ i H', Inv (X.blk s3 H3 scope ce fp) [] (wipe σ (own.map (·.2))) H' s' ∧ tn i s'.heap ∧ (∀ b ∈ fp, H' b = none) ∧ W i m H' := fun {s' H'} I' nx => by
        obtain ⟨m', less, w'⟩ := next H' nx
        have stood : ∀ b ∈ fp, ∀ o, s7.heap.get? b = some o → s'.heap.get? b = some o ∧ H' b = none := fun b hb o e =>
          have z := I'.pin (b, o) (List.mem_append_right _ (List.mem_append_right _ (mem_pinsAt hb e)))
          ⟨z.1, z.2.1⟩
        refine ⟨m', less, i + 1, H', (I'.unpinned (pins := [])).weak (by rw [← kept8, wipe_length]) (fun j v e => (wipe_some (by rw [kept8]; exact e)).1), T.keep _ _ _ st7 fun b hb o e => (stood b hb o e).1, fun b hb => ?_, w'⟩
        obtain ⟨o, e, _⟩ := T.obj _ _ st7 b hb
        exact (stood b hb o e).2
      cases b with
      | false => exact back I9 q9
      | true =>
        refine thnF (pk.run _ s9 σ8 H9 _ I9 q9) fun z s10 ⟨yk, H10, I10, r10, q10⟩ => ?_
        refine thnF (pv.run _ s10 σ8 H10 _ I10 q10) fun z2 s11 ⟨yv, H11, I11, r11, H12, put, nx⟩ => ?_
        exact put_run (X := X.blk s3 H3 scope ce fp) room I11 put r10 r11 fun s12 I12 => back I12 nx
end
section
variable {X : Cx} {kx vx tg iter : Expr} {ifs : List Expr} {scope : Scope} {own : List (Str × Nat)} {pos : Pos} {wi : TI} {g : TG} {tt : TT} {tk tv : TE}
theorem pe_dcT (room : X.A.units < cLine) (calm : X.calm = true) (hN : X.N.Nodup) (walks : PI X tg iter wi) (ok : BlkOk X.N X.env.scope scope own)
    (target : ∀ (s : Shared) (H : Hp) (C : Addr) (cl : List (Str × Addr)) (fp : List Addr), PG (X.blk s H scope (compEnvC scope cl C X.env) fp) tg g)
    (tests : ∀ (s : Shared) (H : Hp) (C : Addr) (cl : List (Str × Addr)) (fp : List Addr), PTs (X.blk s H scope (compEnvC scope cl C X.env) fp) ifs tt)
    (key : ∀ (s : Shared) (H : Hp) (C : Addr) (cl : List (Str × Addr)) (fp : List Addr), PE (X.blk s H scope (compEnvC scope cl C X.env) fp) kx tk)
    (val : ∀ (s : Shared) (H : Hp) (C : Addr) (cl : List (Str × Addr)) (fp : List Addr), PE (X.blk s H scope (compEnvC scope cl C X.env) fp) vx tv)
    (folded : ∀ x, foldedSetIterable iter X.env x = pure x := by intro _; rfl) :
    PE X (.DictComp kx vx [⟨tg, iter, ifs, 0⟩] scope pos) (tDcT wi g tt tk tv (own.map (·.2))) := by
  refine ⟨fun pins s σ H Q I h => ?_⟩
  rw [arm_eval_DictComp]
  refine dcT_core room calm hN I walks ok target tests key val folded h fun D C s' m H' I' q ns fp => ⟨m, ns, fun h'' sb => ?_⟩
  obtain ⟨g0, g1, g2, g3, g4, g5⟩ := fp
  exact ⟨.ref D, H', I'.turned (t' := s'.toks) (fun b o hb e => (sb.2 b hb).trans e) g0 g1 g3 g4 g5, rfl, q⟩
/-- y = {..} on one line, y a local that the comprehension does not have -/
theorem ps_setDcT {i : Nat} {y : Str} {py spos : Pos} (room : X.A.units < cLine) (calm : X.calm = true) (hN : X.N.Nodup) (hy : X.N[i]? = some y) (loc : X.env.scope.names.lookup y = some .local)
    (swaps : swapsWith (.DictComp kx vx [⟨tg, iter, ifs, 0⟩] scope pos) (some (.Name y py)) spos.line X.env = pure true) (walks : PI X tg iter wi) (ok : BlkOk X.N X.env.scope scope own)
    (target : ∀ (s : Shared) (H : Hp) (C : Addr) (cl : List (Str × Addr)) (fp : List Addr), PG (X.blk s H scope (compEnvC scope cl C X.env) fp) tg g)
    (tests : ∀ (s : Shared) (H : Hp) (C : Addr) (cl : List (Str × Addr)) (fp : List Addr), PTs (X.blk s H scope (compEnvC scope cl C X.env) fp) ifs tt)
    (key : ∀ (s : Shared) (H : Hp) (C : Addr) (cl : List (Str × Addr)) (fp : List Addr), PE (X.blk s H scope (compEnvC scope cl C X.env) fp) kx tk)
    (val : ∀ (s : Shared) (H : Hp) (C : Addr) (cl : List (Str × Addr)) (fp : List Addr), PE (X.blk s H scope (compEnvC scope cl C X.env) fp) vx tv)
    (folded : ∀ x, foldedSetIterable iter X.env x = pure x := by intro _; rfl) :
    PS X (.Assign [.Name y py] (.DictComp kx vx [⟨tg, iter, ifs, 0⟩] scope pos) spos) (tAsg (tDcT wi g tt tk tv (own.map (·.2))) (gName i)) := by
  refine ⟨fun pins s σ H D I h => ?_⟩
  rw [exec_Assign_Name_used _ _ _ _ swaps]
  refine wpAny_bind (wpAny_standAt (wpAny_bind ?_))
  show wpAny _ X.A (do let _ ← comprehension (.DictComp kx vx [⟨tg, iter, ifs, 0⟩] scope pos) scope X.env (firstIterPos [⟨tg, iter, ifs, 0⟩] pos) newDict false (eval iter X.env) (some (assign (.Name y py) X.env))) _ _ s
  have reading : tDcT wi g tt tk tv (own.map (·.2)) σ H (fun x H1 => gName i x σ H1 D.nx) := h
  refine wpAny_bind (thn (dcT_core (Qf := fun _ s' => SP X pins D .next s') room calm hN I walks ok target tests key val folded reading fun L C s' m H' I' q ns fp => ?_) fun _ s' hq => wpAny_pure (wpAny_pure hq))
  show wpAny _ _ (assign (.Name y py) X.env (.ref L)) _ _ _
  refine wpAny_assign_Name (store_ok2 (v := V.ref L) I' hN hy (.inl loc) rfl (fun s2 I2 ⟨a, sb, at_⟩ => ?_) (.inr loc))
  obtain ⟨g0, g1, g2, g3, g4, g5⟩ := fp
  have other : C ≠ a := at_.elim (fun z => by rw [z]; exact g1) fun z e => g4 y a z e.symm
  exact ⟨m, ns.sameBut sb other, fun h3 sb3 => ⟨_, H', I2.turned (t' := s2.toks) (fun b o hb e => (sb3.2 b hb).trans e) g0 g1 g3 g4 g5, q⟩⟩
theorem swD_true {gs : List Comprehension} {y : Str} {py : Pos} {l : Nat} {env : Env} (hk : env.scope.kind = .function) (hy : env.scope.names.lookup y = some .local) (hl : (py.line == pos.line) = true)
    (none_ : (scope.names.any fun (n, k) => n == y && (k == .local || k == .cell)) = false) : swapsWith (.DictComp kx vx gs scope pos) (some (.Name y py)) l env = pure true := by
  have kind : env.kindOf y = some .local := hy
  have block : env.blockKind = .function := by
    unfold Env.blockKind
    rw [hk]
    rfl
  unfold swapsWith
  simp only [block, kind, none_, Expr.pos, hl]
  rfl
end
/-- over anything that is walked -/
theorem dcT_it {J : It} {n : Nat} {G : Hp → Prop} {Y : Nat → Hp → V → Hp → Prop} (w : Walk J n G Y) {g : TG} {tt : TT} {tk tv : TE} {vs : List Nat} {σ : L2.St} {H1 : Hp} {D : Addr} {Qd : Hp → Prop} (Pv : Nat → Hp → Prop)
    (h0 : Pv 0 (upd H1 D (.dT []))) (hG : ∀ i H, i ≤ n → Pv i H → G H)
    (hs : ∀ i x H H', i < n → Pv i H → Y i H x H' → g x (wipe σ vs) H' fun σ2 H2 => wipe σ2 vs = wipe σ vs ∧ tt σ2 H2 fun b H3 =>
      if b = true then tk σ2 H3 fun y H4 => tv σ2 H4 fun z H5 => ∃ H6, DPut H5 D y z H6 ∧ Pv (i + 1) H6 else Pv (i + 1) H3)
    (hd : ∀ H, Pv n H → Qd H) :
    ∃ W : Nat → Nat → Hp → Prop, (∃ m, W 0 m (upd H1 D (.dT []))) ∧ ∀ i m H, W i m H →
      (J.stop i H ∧ Qd H) ∨ (J.go i H ∧ ∃ Nx : Hp → Prop, (∀ H', Nx H' → ∃ m', m' < m ∧ W (i + 1) m' H') ∧ ∀ x H', J.yld i H x H' → g x (wipe σ vs) H' fun σ2 H2 => wipe σ2 vs = wipe σ vs ∧ tt σ2 H2 fun b H3 =>
        if b = true then tk σ2 H3 fun y H4 => tv σ2 H4 fun z H5 => ∃ H6, DPut H5 D y z H6 ∧ Nx H6 else Nx H3) := by
  refine ⟨fun j m H => j ≤ n ∧ m = n - j ∧ Pv j H, ⟨n, Nat.zero_le _, rfl, h0⟩, fun j m H ⟨hj, hm, p⟩ => ?_⟩
  have hg := hG j H hj p
  rcases Nat.lt_or_ge j n with hlt | hge
  · exact .inr ⟨w.goes j H hlt hg, Pv (j + 1), fun H' p' => ⟨n - (j + 1), by omega, hlt, rfl, p'⟩, fun x H' y => hs j x H H' hlt p (w.yields j H x H' hlt hg y)⟩
  · obtain rfl : j = n := by omega
    exact .inl ⟨w.stops H hg, hd H p⟩
/-! ### sorted(d), its keys tuples of ints -/
section
variable {X : Cx}
/-- bs: the keys' tuples in the dict's order; ys: some order of them -/
def rSortDT : List V → Hp → VK → Prop := fun vs H Q => ∃ (a : Addr) (kvs : List (List Key × V)) (d : Nat) (B : Int), vs = [.ref a] ∧ H a = some (.dT kvs) ∧ kvs.length < 64 ∧ 1 ≤ d ∧ (∀ p ∈ kvs, ∃ ns : List Int, p.1 = ns.map Sum.inl ∧ ns.length = d ∧ TS.Bd B ns) ∧
  ∀ (bs ys : List Addr) (p : Addr), IsKeys H kvs bs → ys.Perm bs → H p = none → Q (.ref p) (upd H p (.lst (ys.map V.ref)))
theorem keys_back {H : Hp} : ∀ {kvs : List (List Key × V)} {bs : List Addr}, IsKeys H kvs bs → ∀ b ∈ bs, ∃ p ∈ kvs, H b = some (.tup (p.1.map kV))
  | _, _, .nil, b, hb => by cases hb
  | _, _, .cons r t, b, hb => by
    rcases List.mem_cons.mp hb with e | hb
    · exact ⟨_, List.mem_cons_self, by rw [e]; exact r⟩
    · obtain ⟨p, hp, q⟩ := keys_back t b hb
      exact ⟨p, List.mem_cons_of_mem _ hp, q⟩
def unref : Value → Addr
  | .ref a => a
  | _ => 0
theorem refs_perm {vs : List Value} {bs : List Addr} (h : vs.Perm (bs.map Value.ref)) : ∃ ys : List Addr, ys.Perm bs ∧ vs = ys.map Value.ref := by
  refine ⟨vs.map unref, ?_, ?_⟩
  · have z := h.map unref
    rw [List.map_map] at z
    have e : bs.map (unref ∘ Value.ref) = bs := (List.map_congr_left (g := id) fun a _ => rfl).trans (List.map_id bs)
    rw [e] at z
    exact z
  · rw [List.map_map]
    refine (List.map_id vs).symm.trans (List.map_congr_left fun v hv => ?_)
    obtain ⟨a, _, rfl⟩ := List.mem_map.mp (h.mem_iff.mp hv)
    rfl
theorem cr_sortedDT (calm : X.calm = true) : CallR X (.builtin "sorted") rSortDT := by
  intro pins s σ H vs us Q I r h
  obtain ⟨a, kvs, d, B, rfl, ha, few, hd, two, q⟩ := h
  obtain ⟨u, rfl, ru⟩ := vals1 r
  obtain rfl : u = .ref a := ru
  obtain ⟨fits, notSys, xs, rel, o, es, ep, at_, exact_, data, entries, once⟩ := (show ObjOk X.prog X.w H s.heap a (.dT kvs) from I.hok a _ ha)
  have sizes : es.size = xs.length := size_of_entries entries
  have len : kvs.length = xs.length := Paired.length rel
  refine Calls.call_function_entry kind_sorted plain_sorted entry_sorted (args_sorted1 _) ?_
  show wpAny _ _ (checkCount "sorted" 1 1 _ >>= _) _ _ _
  refine wpAny_bind (m := checkCount "sorted" 1 1 _) (wpAny_pure ?_)
  refine wpAny_bind (PySem.W.kdu_collect (A := X.A.in1) (kdl_raw notSys exact_ data) (I.ok.hd calm) at_ (by rw [sizes, ← len]; exact fits) fun h' tk acc kept items => ?_)
  -- what was collected: the keys' tuples
  have got : acc.toList = (xs.map fun x => x.2.1).map Value.ref := by
    have hl : acc.toList.length = xs.length := by rw [Array.length_toList, items.1, sizes]
    refine List.ext_getElem (by rw [hl]; simp) fun j h1 h2 => ?_
    obtain ⟨en, hj, hv⟩ := items.2 j acc.toList[j] (by rw [← Array.getElem?_toList]; exact List.getElem?_eq_getElem h1)
    rw [hv]
    have hx : j < xs.length := by rw [← hl]; exact h1
    have e1 := entry_at entries j
    rw [hj, List.getElem?_eq_getElem hx] at e1
    have e2 : en = entryOfKey (tupleKind (mixKind X.prog X.w)) xs[j] := Option.some.inj e1
    rw [e2, List.getElem_map, List.getElem_map]
    rfl
  have keysAt : IsKeys H kvs (xs.map fun x => x.2.1) := isKeys_of rel
  have n64 : acc.toList.length < 64 := by rw [got]; simp; omega
  have I1 : Inv X pins σ H { s with heap := h', toks := tk } := I.kept kept
  refine wpAny_bind (wpAny_newList ?_ (by rw [sizeLine_eq]; omega))
  have newL : (h'.push (seqObj "list" acc.toList.toArray 0)).get? h'.objs.size = some (seqObj "list" acc.toList.toArray 0) := Heap.get?_push_size _ rfl
  show wpAny _ _ _ _ _ { s with heap := h'.push (seqObj "list" acc.toList.toArray 0), toks := tk }
  have tups : TS.TupsOk h' d B acc.toList := fun v hv => by
    rw [got] at hv
    obtain ⟨b, hb, rfl⟩ := List.mem_map.mp hv
    obtain ⟨p, hp, q2⟩ := keys_back keysAt b hb
    obtain ⟨ns, e1, e2, e3⟩ := two p hp
    rw [e1, List.map_map] at q2
    exact ⟨ns, tupI_raw I1 (SqT.of q2), e2, e3⟩
  have tups' : TS.TupsOk (h'.push (seqObj "list" acc.toList.toArray 0)) d B acc.toList := tups.keeps fun b ob e _ => Heap.get?_push_of_some _ e
  refine wpAny_bind (wpAny_holding (TS.call_sort_tups (s := { s with heap := h'.push (seqObj "list" acc.toList.toArray 0), toks := tk }) newL n64 hd tups' fun out perm _ => ?_))
  obtain ⟨ys, yp, ye⟩ := refs_perm (vs := out.toList) (by rw [← got]; exact perm)
  obtain ⟨n, at2⟩ := PyProof.Rows.sortedHeap_at (vs := acc.toList) (out := out) newL
  have lenY : (ys.map V.ref).length ≤ sizeLine := by
    rw [List.length_map, yp.length_eq]
    simp
    omega
  refine wpAny_pure ⟨.ref h'.objs.size, rfl, .ref h'.objs.size, upd H h'.objs.size (.lst (ys.map V.ref)), I1.laid (t' := tk) (fun b ob e => ?_) (Nat.le_refl _) ⟨lenY, out.toList, n, by rw [ye]; exact vals_refs ys, by rw [Array.toArray_toList]; exact at2⟩, rfl, q _ ys _ keysAt yp (I1.hok.fresh (Nat.le_refl _))⟩
  have lt : b < h'.objs.size := Heap.lt_size e
  rw [PyProof.Rows.sortedHeap_old (Nat.ne_of_lt lt) (by rw [size_push']; exact Nat.lt_succ_of_lt lt)]
  exact Heap.get?_push_of_some _ e
end
/-! ### len(o) by an own method -/
section
variable {X : Cx} {C : Addr} {k : Nat} {ps : List Str} {sp : Sp}
def rLenO (C : Addr) (sp : Sp) : List V → Hp → VK → Prop := fun xs H Q => ∃ (a dx : Addr) (fs : List (Str × V)), xs = [.ref a] ∧ H a = some (.ins C dx fs) ∧ sp [.ref a] H (fun v H' => ∃ n : Nat, v = .int n ∧ n ≤ sizeLine ∧ Q (.int n) H') E0
theorem call_lenO (c : Met X.prog X.w X.K X.mg X.base C "__len__" k ps sp) (hr : Room (k + 1) X.A) : CallR X (.builtin "len") (rLenO C sp) := by
  intro pins s σ H xs us Q I r h
  obtain ⟨a, dx, fs, rfl, ha, hsp⟩ := h
  obtain ⟨u, rfl, ru⟩ := vals1 r
  obtain rfl : u = .ref a := ru
  obtain ⟨f, fd, F, M, b⟩ := c.ex
  obtain ⟨mA, J, _⟩ := ins_get I.hok ha
  obtain ⟨od, J, _⟩ := J.look
  obtain ⟨m, frame⟩ := I.fr
  have env : Env0 X.prog X.w X.K X.mg X.base X.A.in1 X.stack s H := by
    have e := I.env0
    exact ⟨e.frames, e.mod, e.bs, e.bsz, e.funs, e.frf, e.hok, e.bare⟩
  have one : Vals [V.ref a] [Value.ref a] := .cons rfl .nil
  have count := F.len _ _ _ _ hsp
  have binds := b s [.ref a] I.kIn (by simpa using count)
  refine PySem.W.len_K frame I.ok.mod.kin J M.at_ M.fn (wpAny_call (codeAny_mono (F.run X.A.in1 X.stack s H ⟨[.ref a], []⟩ [.ref a] [.ref a] _ E0 hr.in1 env (by simpa using binds) one hsp) fun r s' end_ => ?_))
  cases r with
  | error e => exact False.elim end_
  | ok fl =>
    cases fl with
    | ret w =>
      obtain ⟨z, H', I', rz, n, rfl, small, q⟩ := I.after end_
      obtain ⟨t, rfl⟩ := rz
      exact ⟨⟨Int.natCast_nonneg n, by rw [sizeLine_eq] at small; omega⟩, .int n, H', I'.tok _, ⟨_, rfl⟩, q⟩
    | next => exact False.elim end_
    | brk => exact False.elim end_
    | cont => exact False.elim end_
end
/-! ### f(e, k = v): keyword-only parameters alone -/
section
variable {K : PySem.W.Frag} {x qual : Str} {params : Arguments} {body : List Stmt} {scope : Scope} {f : Addr} {fd : FuncData} {ps : List Str} {kws : List (Str × V)}
/-- n positional values, the keywords' ks, those that lack: ms -/
theorem kbn_of (F : FunD K x qual params body scope [] kws f fd) (n : Nat) (ks : List Str) (ms : List (Str × V)) (hk : kws ≠ []) (hms : ∀ q ∈ ms, q ∈ kws) (g : {α : Type} → List α → List α → List α → List α)
    (hrel : ∀ {vs mz zs : List V} {us mv ws : List Value}, Vals vs us → Vals mz mv → Vals zs ws → Vals (g vs mz zs) (g us mv ws))
    (h : ∀ (D : Addr) (doc pm : Value) (an : Option Addr) (cdv ct : Value) (us mv ws : List Value), us.length = n → mv.length = ms.length → ws.length = ks.length →
      KwChain D ((ms.map (·.1)).zip mv) (bindArgs (PySem.W.fnOf x qual params body scope .none (.ref D) doc pm an cdv ct) ⟨us, ks.zip ws⟩) (ps.zip (g us mv ws))) :
    ∃ mv : List Value, KBn K fd ps n ks (fun us ws => g us mv ws) (fun vs zs => g vs (ms.map (·.2)) zs) := by
  obtain ⟨oc, od, dV, kV, doc, pm, an, cdv, ct, osl, rfl, lk, code, defaults, keywords⟩ := F.ex
  obtain ⟨_, rfl⟩ : ([] : List V) = [] ∧ dV = .none := defaults.elim id fun q => absurd rfl q.1
  obtain ⟨D, rfl, all⟩ := keywords.resolve_left hk
  obtain ⟨mv, len, rel, found⟩ := kwd_vals (ms := ms) fun q hm => all q (hms q hm)
  exact ⟨mv, fun s us ws X l1 l2 => BindsTo.of_looks fun M => KwChain.looks X found (h D doc pm an cdv ct us mv ws l1 len l2), fun r1 r2 => hrel r1 rel r2⟩
end
/-- a def of the top called with one keyword, by its promise: gV puts the values in the parameters' order -/
structure CalK (P : Program) (w : World) (K : PySem.W.Frag) (mg : Str → Option Value) (base : Heap) (x : Str) (k n : Nat) (ks ps : List Str) (gV : List V → List V → List V) (sp : Sp) : Prop where
  ex : ∃ (f : Addr) (fd : FuncData) (g : List Value → List Value → List Value), FnOk P w K mg base CX0 k f fd ps sp ∧ mg x = some (.ref f) ∧ PySem.W.keepIn K (.ref f) = true ∧ KBn K fd ps n ks g gV
/-- a def of the top called by position alone, its keyword-only defaults dvs -/
structure CalD (P : Program) (w : World) (K : PySem.W.Frag) (mg : Str → Option Value) (base : Heap) (x : Str) (k : Nat) (ps : List Str) (dvs : List V) (sp : Sp) : Prop where
  ex : ∃ (f : Addr) (fd : FuncData) (ds : List Value), FnOk P w K mg base CX0 k f fd ps sp ∧ mg x = some (.ref f) ∧ PySem.W.keepIn K (.ref f) = true ∧ Binds K fd ps ds ∧ Vals dvs ds
section
variable {X : Cx} {k n : Nat} {x : Str} {ks ps : List Str} {sp : Sp} {dvs : List V} {p pos : Pos} {e : Expr} {es : List Expr} {kws : List Keyword} {t tk : TA} {gV : List V → List V → List V}
theorem pe_calK (c : CalK X.prog X.w X.K X.mg X.base x k n ks ps gV sp) (hr : Room k X.A) (ha : PA X (e :: es) t) (hkw : PK X kws tk) (hg : Gl X x := by rfl) (hall : (backToKw pos (keywordEach kws X.env)).all (·.1.isSome) = true := by rfl)
    (hks : (backToKw pos (keywordEach kws X.env)).filterMap (·.1) = ks := by rfl) (hdb : (x == ("__debug__" : Str)) = false := by decide) (he : starEach (e :: es) X.env = (false, eval e X.env) :: starEach es X.env := by rfl)
    (hpl : ((backTo pos (starEach (e :: es) X.env)).any (·.1) || (backToKw pos (keywordEach kws X.env)).any (·.1.isNone)) = false := by rfl) :
    PE X (.Call (.Name x p) (e :: es) kws pos) (tCallN n ks.length sp gV E0 t tk) := by
  obtain ⟨f, fd, g, F, m, kp, b⟩ := c.ex
  exact pe_callN F hr hg m kp b pass0 ha hkw hall hks hdb he hpl
theorem pe_calD (c : CalD X.prog X.w X.K X.mg X.base x k ps dvs sp) (hr : Room k X.A) (ha : PA X (e :: es) t) (hg : Gl X x := by rfl) (hdb : (x == ("__debug__" : Str)) = false := by decide)
    (he : starEach (e :: es) X.env = (false, eval e X.env) :: starEach es X.env := by rfl) (hpl : (backTo pos (starEach es X.env)).any (·.1) = false := by rfl) :
    PE X (.Call (.Name x p) (e :: es) [] pos) (tCall sp dvs E0 t) := by
  obtain ⟨f, fd, ds, F, m, kp, b, d⟩ := c.ex
  exact pe_call F hr hg m kp b d pass0 ha hdb he hpl
end
end Qd

set_option Elab.async false
set_option linter.all false
set_option maxRecDepth 100000
set_option maxHeartbeats 4000000
/-! readings.py. -/
namespace Qd
open PySem PySem.Spec PyProof.Rows L2
section
variable {P : Program} {w : World} {K : PySem.W.Frag} {mg : Str → Option Value} {base : Heap} {CS CR CU f : Addr} {fd : FuncData}
theorem dgetT {H : Hp} {d t : Addr} {prs : List (Int × Int)} {x y : Int} (hd : H d = some (.dT (prT prs))) (ht : H t = none) : DGet (upd H t (.tup [.int x, .int y])) d (.ref t) (if (x, y) ∈ prs then some (V.bl true) else none) := by
  have e : (upd H t (.tup [.int x, .int y])) d = some (.dT (prT prs)) := by
    rw [upd_ne (ne_of_none hd ht)]
    exact hd
  have g := DGet.t (k := [Sum.inl x, Sum.inl y]) e (b := t) upd_same
  rw [prT_val] at g
  exact g
/-! ### _first_wrong_pair -/
def sp_fwr (K : PySem.W.Frag) : Sp := fun vs H Q _ => ∃ (a d : Addr) (ns ks : List Int) (R : QD.Rd) (prs : List (Int × Int)), vs = [.ref a, .ref d] ∧ SqI K H a ns ∧ H d = some (.dT (prT prs)) ∧ Prs ks R prs ∧ QD.Tour R ks ∧ ns.Nodup ∧ (∀ x ∈ ns, x ∈ ks) ∧ ∀ H', Same H H' → Q .non H'
abbrev N_first_wrong_pair : List Str := ["keys", "pairs", "at", "x", "y"]
abbrev P_first_wrong_pair : List Str := ["keys", "pairs"]
theorem sc_first_wrong_pair : FnScope N_first_wrong_pair P_first_wrong_pair (defScope s_first_wrong_pair) := ⟨rfl, rfl, rfl, by decide +kernel, rfl, by decide +kernel, by decide +kernel⟩
theorem ok_first_wrong_pair (F : F_first_wrong_pair K f fd) (T : Txt K mg CS CR CU) : FnOk P w K mg base CX0 1 f fd P_first_wrong_pair (sp_fwr K) := by
  refine FunD.ok F sc_first_wrong_pair (fun vs H Q E h => ?_) (fun cdv A outer s H vs Q E hr h => ?_)
  · obtain ⟨a, d, ns, ks, R, prs, rfl, _⟩ := h
    rfl
  · obtain ⟨a, d, ns, ks, R, prs, rfl, ha, hd, hP, hT, hN, hin, k⟩ := h
    have nd := sc_first_wrong_pair.nd
    have hu := hu_of hr
    refine ⟨_, PSs.nox ((pss_cons (ps_for PassesOwn.never rfl (ki_enum (K := K) (by rfl) T.enumerate (pa_cons (pv 0) pa_nil)) (kg_tup (K := K) (n := 2) rfl (pgs_cons (pg_name (i := 2) nd rfl (Or.inl rfl)) (pgs_cons (pg_name (i := 3) nd rfl (Or.inl rfl)) pgs_nil)))
    (pss_cons (ps_if (pt_cmp (pc_din hu (pe_tup (pa_cons (pv 3) (pa_cons (pv 3) pa_nil))) (pv 1)))
    (pss_one (ps_ret (pe_tup (pa_cons (pv 3) (pa_cons (pv 3) pa_nil)))))
    pss_nil)
  (pss_one (ps_for PassesOwn.never rfl (ki_list (K := K) (pe_slice (k_slL (K := K)) (pv 0) (po_some (pe_op op_add (pv 2) pe_int)) po_none)) (pg_name (i := 4) nd rfl (Or.inl rfl))
    (pss_one (ps_if (pt_cmpR op_eq (pe_cmp (pc_din hu (pe_tup (pa_cons (pv 3) (pa_cons (pv 4) pa_nil))) (pv 1)) rfl) (pe_cmp (pc_din hu (pe_tup (pa_cons (pv 4) (pa_cons (pv 3) pa_nil))) (pv 1)) rfl) (nomark _))
    (pss_one (ps_ret (pe_tup (pa_cons (pv 3) (pa_cons (pv 4) pa_nil)))))
    pss_nil))))))
  (pss_one (ps_ret pe_non)))), ?_⟩
    refine ⟨_, rfl, a, _, rfl, ha, for_it (walk_enum (K := K) (a := a) (xs := iV ns)) (fun i σ H1 => ∃ v v' v'', σ = [some (.ref a), some (.ref d), v, v', v''] ∧ Same H H1) ⟨none, none, none, rfl, Same.refl _⟩ (fun i σ H1 _ ⟨_, _, _, _, s1⟩ => Same.seq s1 ha) ?_ ?_⟩
    · rintro i x0 σ H1 H2 hi ⟨v, v', v'', rfl, s1⟩ ⟨t, x1, x2, rfl, ht, rfl, e1, e2⟩
      obtain ⟨x, hx, rfl⟩ := iV_of e2
      cases e1
      have hxk := hin x (List.mem_of_getElem? hx)
      refine ⟨t, _, rfl, SqT.of upd_same, rfl, _, _, rfl, _, _, rfl, rfl, ?_⟩
      have sA := Same.put (o := .tup [.int i, .int x]) s1 (s1.free ht)
      refine ⟨_, rfl, _, rfl, le2, fun t2 ht2 => ⟨_, rfl, d, _, rfl, dgetT (sA _ _ hd) ht2, _, rfl, ?_⟩⟩
      have nxx : (x, x) ∉ prs := fun m => by
        have := ((hP.iff x x).mp m).2.2
        rw [hT.irr] at this
        cases this
      rw [if_neg nxx]
      refine iteF ?_
      have hlen : i < ns.length := (List.getElem?_eq_some_iff.mp hx).1
      have sB := Same.put (o := .tup [.int x, .int x]) sA (sA.free ht2)
      refine ⟨_, rfl, _, rfl, _, _, rfl, rfl, _, rfl, a, _, rfl, Same.seq sB ha, fun p hp => ?_⟩
      have ec : cutV (iV ns) (some ((i : Int) + 1)) none = iV (ns.drop (i + 1)) := by
        have e : ((i : Int) + 1) = ((i + 1 : Nat) : Int) := rfl
        rw [e, cut_from (by rw [iV_len]; exact hlen), iV_drop]
      rw [ec]
      have sC := Same.put (o := .lst (iV (ns.drop (i + 1)))) sB (sB.free hp)
      refine ⟨p, rfl, ⟨_, SqL.of upd_same⟩, ?_⟩
      generalize hH3 : upd _ p (.lst (iV (ns.drop (i + 1)))) = H3 at sC
      have hp3 : H3 p = some (.lst (iV (ns.drop (i + 1)))) := by rw [← hH3, upd_same]
      refine for_list (K := K) (a := p) (xs := iV (ns.drop (i + 1))) (fun j σ H4 => ∃ v4, σ = [some (.ref a), some (.ref d), some (.int i), some (.int x), v4] ∧ Same H3 H4) ⟨v'', rfl, Same.refl _⟩ (fun j σ H4 _ ⟨_, _, s4⟩ => SqL.of (s4 _ _ hp3)) ?_ ?_
      · rintro j y0 σ H4 hj ⟨v4, rfl, s4⟩
        obtain ⟨y, hy, rfl⟩ := iV_of hj
        have sD := sC.trans s4
        rw [List.getElem?_drop] at hy
        have hyk := hin y (List.mem_of_getElem? hy)
        have hxy : x ≠ y := fun e => by
          subst e
          have := nd_ix hN hx hy
          omega
        refine ⟨_, rfl, _, rfl, le2, fun t3 ht3 => ⟨_, rfl, d, _, rfl, dgetT (sD _ _ hd) ht3, ?_⟩⟩
        have sE := Same.put (o := .tup [.int x, .int y]) sD (sD.free ht3)
        refine ⟨_, rfl, _, rfl, le2, fun t4 ht4 => ⟨_, rfl, d, _, rfl, dgetT (sE _ _ hd) ht4, rfl, _, rfl, ?_⟩⟩
        have n : ((if (x, y) ∈ prs then some (V.bl true) else none).isSome = (if (y, x) ∈ prs then some (V.bl true) else none).isSome) → False := fun e => by
          have t := hT.tot x hxk y hyk hxy
          by_cases m : (x, y) ∈ prs
          · have r := ((hP.iff x y).mp m).2.2
            have m2 : (y, x) ∉ prs := fun z => by
              have r2 := ((hP.iff y x).mp z).2.2
              rw [t, r] at r2
              cases r2
            rw [if_pos m, if_neg m2] at e
            cases e
          · have r : R x y = false := by
              cases q : R x y with
              | false => rfl
              | true => exact absurd ((hP.iff x y).mpr ⟨hxk, hyk, q⟩) m
            have m2 : (y, x) ∈ prs := (hP.iff y x).mpr ⟨hyk, hxk, by rw [t, r]; rfl⟩
            rw [if_neg m, if_pos m2] at e
            cases e
        refine iteDF (fun e => n (V.bl.inj e)) ?_
        exact ⟨_, rfl, s4.trans ((Same.new ht3).trans (Same.new ht4))⟩
      · rintro σ H4 ⟨v4, rfl, s4⟩
        exact ⟨_, _, _, rfl, sC.trans s4⟩
    · rintro σ H1 ⟨v, v', v'', rfl, s1⟩
      exact k _ s1
/-! ### Reading.__init__ -/
theorem rf_k {l d : Addr} : ([("_keys", .ref l), ("_before", .ref d)] : List (Str × V)).lookup ("_keys" : Str) = some (.ref l) := by
  rw [List.lookup_cons]
  rfl
theorem rf_b {l d : Addr} : ([("_keys", .ref l), ("_before", .ref d)] : List (Str × V)).lookup ("_before" : Str) = some (.ref d) := by
  rw [List.lookup_cons, List.lookup_cons]
  rfl
theorem rf_no {l d : Addr} {m : Str} (h1 : (m == "_keys") = false) (h2 : (m == "_before") = false) : ([("_keys", .ref l), ("_before", .ref d)] : List (Str × V)).lookup m = none := by
  rw [List.lookup_cons, h1, List.lookup_cons, h2]
  rfl
theorem rf_put (l p : Addr) : putF "_before" (.ref p) (putF "_keys" (.ref l) []) = ([("_keys", .ref l), ("_before", .ref p)] : List (Str × V)) := by
  show (if ("_keys" : Str) = "_before" then [(("_keys" : Str), V.ref p)] else (("_keys" : Str), V.ref l) :: putF "_before" (V.ref p) []) = _
  rw [if_neg (by decide +kernel)]
  rfl
def sp_Reading_init (K : PySem.W.Frag) (CR : Addr) : Sp := fun vs H Q _ => ∃ (a dx b c : Addr) (ks : List Int) (R : QD.Rd) (prs : List (Int × Int)), vs = [.ref a, .ref b, .ref c] ∧ H a = some (.ins CR dx []) ∧ SqI K H b ks ∧ QD.KOk ks ∧ PLs K H c prs ∧ Prs ks R prs ∧ QD.Tour R ks ∧
  ∀ H', ReAt H' CR a ks R → (∀ b o, H b = some o → b ≠ a → H' b = some o) → Q .non H'
abbrev N_Reading_init : List Str := ["self", "all_keys", "pairs", "x", "y", "keys", "before", "wrong"]
abbrev P_Reading_init : List Str := ["self", "all_keys", "pairs"]
theorem sc_Reading_init : FnScope N_Reading_init P_Reading_init (defScope s_Reading_init) := ⟨rfl, rfl, rfl, by decide +kernel, rfl, by decide +kernel, by decide +kernel⟩
theorem ok_Reading_init (F : F_Reading_init K f fd) (T : Txt K mg CS CR CU) (c_check_list : Cal P w K mg base "check_list" 2 P_check_list (sp_fwp K)) (c_require_key : Cal P w K mg base "require_key" 1 P_require_key (sp_require_key K))
    (c_first_wrong_pair : Cal P w K mg base "_first_wrong_pair" 1 P_first_wrong_pair (sp_fwr K)) : FnOk P w K mg base CX0 3 f fd P_Reading_init (sp_Reading_init K CR) := by
  refine FunD.ok F sc_Reading_init (fun vs H Q E h => ?_) (fun cdv A outer s H vs Q E hr h => ?_)
  · obtain ⟨a, dx, b, c, ks, R, prs, rfl, _⟩ := h
    rfl
  · obtain ⟨a, dx, b, c, ks, R, prs, rfl, ha, hb, ok, hc, hP, hT, k⟩ := h
    have nd := sc_Reading_init.nd
    refine ⟨_, PSs.nox ((pss_cons (ps_expr (pe_cal c_check_list (hr.mono (by decide)) (pa_cons (pv 1) pa_nil)))
  (pss_cons (ps_for PassesOwn.never rfl (ki_list (K := K) (pv 2)) (kg_tup (K := K) (n := 2) rfl (pgs_cons (pg_name (i := 3) nd rfl (Or.inl rfl)) (pgs_cons (pg_name (i := 4) nd rfl (Or.inl rfl)) pgs_nil)))
    (pss_cons (ps_expr (pe_cal c_require_key (hr.mono (by decide)) (pa_cons (pv 1) (pa_cons (pv 3) pa_nil))))
  (pss_one (ps_expr (pe_cal c_require_key (hr.mono (by decide)) (pa_cons (pv 1) (pa_cons (pv 4) pa_nil)))))))
  (pss_cons (ps_set (i := 5) nd rfl (Or.inl rfl) (pe_callB (k_sorted (K := K)) (by rfl) T.sorted bt_sorted (pa_cons (pv 1) pa_nil)))
  (pss_cons (ps_setDcT (i := 6) hr.units0 rfl nd rfl rfl (swD_true rfl rfl rfl (by decide +kernel)) (own := [("x", 3), ("y", 4)]) (g := _) (ki_list (K := K) (pv 2)) (blkOk_by (own := [("x", 3), ("y", 4)]) (N := N_Reading_init) (sc := defScope s_Reading_init) (by decide +kernel)) (fun _ _ _ _ _ => kg_tup (K := K) (n := 2) rfl (pgs_cons (pg_name (i := 3) nd rfl (Or.inl rfl)) (pgs_cons (pg_name (i := 4) nd rfl (Or.inl rfl)) pgs_nil))) (fun _ _ _ _ _ => pts_nil) (fun _ _ _ _ _ => (pe_tup (pa_cons (pv 3) (pa_cons (pv 4) pa_nil)))) (fun _ _ _ _ _ => pe_bl))
  (pss_cons (ps_set (i := 7) nd rfl (Or.inl rfl) (pe_cal c_first_wrong_pair (hr.mono (by decide)) (pa_cons (pv 5) (pa_cons (pv 6) pa_nil))))
  (pss_cons (ps_if (pt_cmp (pc_notN (pv 7)))
    (pss_one ps_never)
    pss_nil)
  (pss_cons (ps_fld (pv 0) (pv 5) rfl)
  (pss_one (ps_fld (pv 0) (pv 6) rfl)))))))))), ?_⟩
    obtain ⟨ts, hts, tlen, tat⟩ := hc.ex
    have item : ∀ {i : Nat} {x : V}, (ts.map V.ref)[i]? = some x → ∃ t q, x = .ref t ∧ prs[i]? = some q ∧ H t = some (.tup [.int q.1, .int q.2]) := fun {i x} hx => by
      rw [List.getElem?_map] at hx
      cases e : ts[i]? with
      | none => rw [e] at hx; cases hx
      | some t =>
        rw [e] at hx
        have hi := (List.getElem?_eq_some_iff.mp e).1
        have hq : prs[i]? = some (prs[i]'(by omega)) := List.getElem?_eq_getElem (by omega)
        exact ⟨t, _, (Option.some.inj hx).symm, hq, tat i t _ e hq⟩
    have ksOf : ∀ {i : Nat} {q : Int × Int}, prs[i]? = some q → q.1 ∈ ks ∧ q.2 ∈ ks := fun {i q} h => by
      have z := (hP.iff q.1 q.2).mp (List.mem_of_getElem? h)
      exact ⟨z.1, z.2.1⟩
    refine ⟨_, rfl, b, ks, rfl, hb, ok, fun H1 s1 => ?_⟩
    refine ⟨_, rfl, c, rfl, ⟨_, Same.seq s1 hts⟩, for_list (K := K) (a := c) (xs := ts.map V.ref) (fun i σ H2 => ∃ v v', σ = [some (.ref a), some (.ref b), some (.ref c), v, v', none, none, none] ∧ Same H H2) ⟨none, none, rfl, s1⟩ (fun i σ H2 _ ⟨_, _, _, s2⟩ => Same.seq s2 hts) ?_ ?_⟩
    · rintro i x0 σ H2 hx ⟨v, v', rfl, s2⟩
      obtain ⟨t, q, rfl, hq, ht⟩ := item hx
      exact ⟨t, _, rfl, SqT.of (s2 _ _ ht), rfl, _, _, rfl, _, _, rfl, rfl, _, rfl, _, rfl, b, q.1, rfl, .inr ⟨ks, Same.seq s2 hb, (ksOf hq).1⟩, _, rfl, _, rfl, b, q.2, rfl, .inr ⟨ks, Same.seq s2 hb, (ksOf hq).2⟩, _, _, rfl, s2⟩
    · rintro σ H2 ⟨v, v', rfl, s2⟩
      refine ⟨_, rfl, b, ks, rfl, Same.seq s2 hb, Nat.lt_of_le_of_lt ok.len (by decide), fun ns p pm pw hp => ?_⟩
      obtain rfl : ns = QD.srt ks := QD.srt_of pm pw
      have s3 := Same.put (o := .lst (iV (QD.srt ks))) s2 (s2.free hp)
      generalize hH3 : upd H2 p (.lst (iV (QD.srt ks))) = H3 at s3
      have hp3 : H3 p = some (.lst (iV (QD.srt ks))) := by rw [← hH3, upd_same]
      refine ⟨_, rfl, c, rfl, ⟨ts.map V.ref, ?_⟩, fun D hD => ?_⟩
      · exact Same.seq s3 hts
      refine dcT_it (walk_list (K := K) (a := c) (xs := ts.map V.ref)) (fun i H4 => Same H3 H4 ∧ H4 D = some (.dT (prT (prs.take i)))) ⟨Same.new hD, upd_same⟩ (fun i H4 _ q => Same.seq (s3.trans q.1) hts) (fun i x0 H4 H5 hi ⟨s4, hD4⟩ ⟨e5, hx⟩ => ?_) fun H4 ⟨s4, hD4⟩ => ?_
      · subst e5
        obtain ⟨t, q, rfl, hq, ht⟩ := item hx
        have hlt : i < prs.length := (List.getElem?_eq_some_iff.mp hq).1
        refine ⟨t, _, rfl, SqT.of ((s3.trans s4) _ _ ht), rfl, _, _, rfl, _, _, rfl, rfl, rfl, _, rfl, _, rfl, le2, fun t2 ht2 => ?_⟩
        have hDt : D ≠ t2 := ne_of_none hD4 ht2
        refine ⟨_, DPut.t (k := [Sum.inl q.1, Sum.inl q.2]) (by rw [upd_ne hDt]; exact hD4) upd_same (sz12' ?_), ?_, ?_⟩
        · have l64 := hP.len
          unfold prT
          rw [List.length_map, List.length_take]
          omega
        · exact Same.put (Same.put s4 (s4.free ht2)) hD
        · have hno : valV (prT (prs.take i)) [Sum.inl q.1, Sum.inl q.2] = none := by
            rw [prT_val, if_neg]
            intro m
            obtain ⟨j, hj, e3⟩ := List.mem_take_iff_getElem.mp m
            have e4 : j = i := nd_ix hP.nd (by rw [List.getElem?_eq_getElem (by omega), e3]) hq
            omega
          rw [upd_same, putK_new _ hno, List.take_succ, hq]
          show some (HO.dT (prT (prs.take i) ++ [([Sum.inl q.1, Sum.inl q.2], V.bl true)])) = some (HO.dT (prT (prs.take i ++ [q])))
          rw [← prT_snoc]
      · have hfull : (ts.map V.ref).length = prs.length := by rw [List.length_map, tlen]
        rw [hfull, List.take_length] at hD4
        have s5 := s3.trans s4
        refine ⟨_, rfl, _, rfl, p, D, QD.srt ks, ks, R, prs, rfl, SqL.of (s4 _ _ hp3), hD4, hP, hT, (QD.srt_perm ks).nodup_iff.mpr ok.nd, fun x hx => (QD.srt_perm ks).mem_iff.mp hx, fun H5 s6 => ?_⟩
        have s7 := s5.trans s6
        refine ⟨_, rfl, _, rfl, iteF ?_⟩
        refine ⟨_, rfl, _, rfl, a, CR, dx, [], rfl, s7 _ _ ha, T.cReading, T.nKeys, (by show 0 < 1000; decide), ?_⟩
        refine ⟨_, rfl, _, rfl, a, CR, dx, _, rfl, upd_same, T.cReading, T.nBefore, (by show 1 < 1000; decide), ?_⟩
        have hDa : D ≠ a := ne_of (s6 _ _ hD4) (s7 _ _ ha) (by intro z; cases z)
        refine k _ ⟨ok, dx, p, D, prs, ?_, ?_, hP⟩ fun b' u hb' hne => ?_
        · rw [upd_same, rf_put]
        · rw [upd_ne hDa, upd_ne hDa]
          exact s6 _ _ hD4
        · rw [upd_ne hne, upd_ne hne]
          exact s7 _ _ hb'
/-! ### pairs -/
theorem paired_perm {α β : Type} {F : α → β → Prop} {ys ys' : List β} (p : ys'.Perm ys) : ∀ {xs : List α}, Paired F xs ys → ∃ xs', xs'.Perm xs ∧ Paired F xs' ys' := by
  induction p with
  | nil =>
    intro xs h
    cases h
    exact ⟨[], .refl _, .nil⟩
  | cons y _ ih =>
    intro xs h
    cases h with
    | cons r t =>
      obtain ⟨xs', q1, q2⟩ := ih t
      exact ⟨_ :: xs', q1.cons _, .cons r q2⟩
  | swap y z l =>
    intro xs h
    cases h with
    | cons r t =>
      cases t with
      | cons r2 t2 => exact ⟨_, .swap _ _ _, .cons r2 (.cons r t2)⟩
  | trans _ _ ih1 ih2 =>
    intro xs h
    obtain ⟨x1, q1, q2⟩ := ih2 h
    obtain ⟨x2, q3, q4⟩ := ih1 q2
    exact ⟨x2, q3.trans q1, q4⟩
theorem paired_at {α β : Type} {F : α → β → Prop} : ∀ {xs : List α} {ys : List β} {i : Nat} {x : α} {y : β}, Paired F xs ys → xs[i]? = some x → ys[i]? = some y → F x y
  | _, _, _, _, _, .nil, h, _ => by cases h
  | _, _, 0, _, _, .cons r _, h, h' => by
    cases h
    cases h'
    exact r
  | _, _, i + 1, _, _, .cons _ t, h, h' => paired_at (i := i) t (by simpa using h) (by simpa using h')
theorem keys_prs {H : Hp} : ∀ {prs : List (Int × Int)} {bs : List Addr}, IsKeys H (prT prs) bs → Paired (fun (q : Int × Int) b => H b = some (.tup [.int q.1, .int q.2])) prs bs
  | [], _, .nil => .nil
  | _ :: _, _, .cons r t => .cons r (keys_prs t)
def sp_pairs (K : PySem.W.Frag) (CR : Addr) : Sp := fun vs H Q _ => ∃ (a : Addr) (ks : List Int) (R : QD.Rd), vs = [.ref a] ∧ ReAt H CR a ks R ∧ ∀ H' p prs, Same H H' → H p = none → PLs K H' p prs → Prs ks R prs → Q (.ref p) H'
abbrev N_Reading_pairs : List Str := ["self"]
abbrev P_Reading_pairs : List Str := ["self"]
theorem sc_Reading_pairs : FnScope N_Reading_pairs P_Reading_pairs (defScope s_Reading_pairs) := ⟨rfl, rfl, rfl, by decide +kernel, rfl, by decide +kernel, by decide +kernel⟩
theorem ok_Reading_pairs (F : F_Reading_pairs K f fd) (T : Txt K mg CS CR CU) : FnOk P w K mg base CX0 1 f fd P_Reading_pairs (sp_pairs K CR) := by
  refine FunD.ok F sc_Reading_pairs (fun vs H Q E h => ?_) (fun cdv A outer s H vs Q E hr h => ?_)
  · obtain ⟨a, ks, R, rfl, _⟩ := h
    rfl
  · obtain ⟨a, ks, R, rfl, h1, k⟩ := h
    have nd := sc_Reading_pairs.nd
    refine ⟨_, PSs.nox ((pss_one (ps_ret (pe_callB (cr_sortedDT rfl) (by rfl) T.sorted bt_sorted (pa_cons (k_fld (K := K) (pv 0)) pa_nil))))), ?_⟩
    obtain ⟨dx, l, d, prs, ha, hd, hP⟩ := h1.ex
    have key : ∀ p ∈ prT prs, ∃ ns : List Int, p.1 = ns.map Sum.inl ∧ ns.length = 2 ∧ TS.Bd 10000 ns := fun p hp => by
      obtain ⟨q, hq, rfl⟩ := List.mem_map.mp hp
      obtain ⟨h1', h2', _⟩ := (hP.iff q.1 q.2).mp hq
      refine ⟨[q.1, q.2], rfl, rfl, fun m hm => ?_⟩
      have a1 := h1.kok.lo _ h1'
      have a2 := h1.kok.hi _ h1'
      have b1 := h1.kok.lo _ h2'
      have b2 := h1.kok.hi _ h2'
      rcases List.mem_cons.mp hm with e | hm
      · rw [e]
        omega
      · rw [List.mem_singleton.mp hm]
        omega
    have len : (prT prs).length < 64 := by
      unfold prT
      rw [List.length_map]
      exact hP.len
    refine ⟨_, rfl, a, CR, dx, _, _, rfl, ha, T.cReading, T.nBefore, rf_b, d, prT prs, 2, 10000, rfl, hd, len, by decide, key, fun bs ys p hk hy hp => ?_⟩
    obtain ⟨prs', q1, q2⟩ := paired_perm hy (keys_prs hk)
    refine k _ p prs' (Same.new hp) hp ⟨ys, SqL.of upd_same, (Paired.length q2).symm, fun i t q e1 e2 => ?_⟩ (hP.perm q1)
    exact (Same.new hp) _ _ (paired_at (F := fun (q : Int × Int) b => H b = some (.tup [.int q.1, .int q.2])) q2 e2 e1)
/-! ### before_dict -/
def sp_before_dict (CR : Addr) : Sp := fun vs H Q _ => ∃ (a : Addr) (ks : List Int) (R : QD.Rd), vs = [.ref a] ∧ ReAt H CR a ks R ∧ ∀ H' p prs, Same H H' → H p = none → H' p = some (.dT (prT prs)) → Prs ks R prs → Q (.ref p) H'
abbrev N_before_dict : List Str := ["reading", "pair"]
abbrev P_before_dict : List Str := ["reading"]
theorem sc_before_dict : FnScope N_before_dict P_before_dict (defScope s_before_dict) := ⟨rfl, rfl, rfl, by decide +kernel, rfl, by decide +kernel, by decide +kernel⟩
theorem ok_before_dict (F : F_before_dict K f fd) (T : Txt K mg CS CR CU) (m_Reading_pairs : Met P w K mg base CR "pairs" 1 P_Reading_pairs (sp_pairs K CR)) : FnOk P w K mg base CX0 2 f fd P_before_dict (sp_before_dict CR) := by
  refine FunD.ok F sc_before_dict (fun vs H Q E h => ?_) (fun cdv A outer s H vs Q E hr h => ?_)
  · obtain ⟨a, ks, R, rfl, _⟩ := h
    rfl
  · obtain ⟨a, ks, R, rfl, h1, k⟩ := h
    have nd := sc_before_dict.nd
    refine ⟨_, PSs.nox ((pss_one (ps_ret (pe_dcT hr.units0 rfl nd (own := [("pair", 1)]) (g := gName 1) (ki_list (K := K) (pe_met0 m_Reading_pairs T.cReading (hr.mono (by decide)) (pv 0))) (blkOk_by (own := [("pair", 1)]) (N := N_before_dict) (sc := defScope s_before_dict) (by decide +kernel)) (fun _ _ _ _ _ => pg_name (i := 1) nd rfl (Or.inl rfl)) (fun _ _ _ _ _ => pts_nil) (fun _ _ _ _ _ => (pv 1)) (fun _ _ _ _ _ => pe_bl))))), ?_⟩
    obtain ⟨dx, l, d, _, ha, _⟩ := h1.ex
    refine ⟨_, rfl, a, dx, _, rfl, ha, rf_no (by decide +kernel) (by decide +kernel), a, ks, R, rfl, h1, fun H1 c prs s1 hc0 hc hP => ?_⟩
    obtain ⟨ts, hts, tlen, tat⟩ := hc.ex
    refine ⟨c, rfl, ⟨_, hts⟩, fun D hD => ?_⟩
    refine dcT_it (walk_list (K := K) (a := c) (xs := ts.map V.ref)) (fun i H4 => Same H1 H4 ∧ H4 D = some (.dT (prT (prs.take i)))) ⟨Same.new hD, upd_same⟩ (fun i H4 _ q => Same.seq q.1 hts) (fun i x0 H4 H5 hi ⟨s4, hD4⟩ ⟨e5, hx⟩ => ?_) fun H4 ⟨s4, hD4⟩ => ?_
    · subst e5
      rw [List.getElem?_map] at hx
      cases e : ts[i]? with
      | none => rw [e] at hx; cases hx
      | some t =>
        rw [e] at hx
        cases hx
        have hi' := (List.getElem?_eq_some_iff.mp e).1
        obtain ⟨q, hq⟩ : ∃ q, prs[i]? = some q := ⟨_, List.getElem?_eq_getElem (show i < prs.length by omega)⟩
        have ht := s4 _ _ (tat i t q e hq)
        refine ⟨rfl, _, rfl, _, DPut.t (k := [Sum.inl q.1, Sum.inl q.2]) hD4 ht (sz12' ?_), ?_, ?_⟩
        · have l64 := hP.len
          unfold prT
          rw [List.length_map, List.length_take]
          omega
        · exact Same.put s4 hD
        · have hno : valV (prT (prs.take i)) [Sum.inl q.1, Sum.inl q.2] = none := by
            rw [prT_val, if_neg]
            intro m
            obtain ⟨j, hj, e3⟩ := List.mem_take_iff_getElem.mp m
            have e4 : j = i := nd_ix hP.nd (by rw [List.getElem?_eq_getElem (by omega), e3]) hq
            omega
          rw [upd_same, putK_new _ hno, List.take_succ, hq]
          show some (HO.dT (prT (prs.take i) ++ [([Sum.inl q.1, Sum.inl q.2], V.bl true)])) = some (HO.dT (prT (prs.take i ++ [q])))
          rw [← prT_snoc]
    · have hfull : (ts.map V.ref).length = prs.length := by rw [List.length_map, tlen]
      rw [hfull, List.take_length] at hD4
      exact k _ D prs (s1.trans s4) (s1.free hD) hD4 hP
end
end Qd

set_option Elab.async false
set_option linter.all false
set_option maxRecDepth 100000
set_option maxHeartbeats 4000000
/-! readings.read; swaps.py. -/
namespace Qd
open PySem PySem.Spec PyProof.Rows L2
/-- a loop's own part: Bd the body, told where it may go on -/
theorem wlk {J : It} {n : Nat} {G : Hp → Prop} {Y : Nat → Hp → V → Hp → Prop} (w : Walk J n G Y) {H0 : Hp} {Qd : Hp → Prop} {Bd : V → Hp → (Hp → Prop) → Prop} (Pv : Nat → Hp → Prop) (h0 : Pv 0 H0) (hG : ∀ i H, i ≤ n → Pv i H → G H)
    (hs : ∀ i x H H', i < n → Pv i H → Y i H x H' → Bd x H' (Pv (i + 1))) (hd : ∀ H, Pv n H → Qd H) :
    ∃ W : Nat → Nat → Hp → Prop, (∃ m, W 0 m H0) ∧ ∀ i m H, W i m H →
      (J.stop i H ∧ Qd H) ∨ (J.go i H ∧ ∃ Nx : Hp → Prop, (∀ H', Nx H' → ∃ m', m' < m ∧ W (i + 1) m' H') ∧ ∀ x H', J.yld i H x H' → Bd x H' Nx) := by
  refine ⟨fun j m H => j ≤ n ∧ m = n - j ∧ Pv j H, ⟨n, Nat.zero_le _, rfl, h0⟩, fun j m H ⟨hj, hm, p⟩ => ?_⟩
  have hg := hG j H hj p
  rcases Nat.lt_or_ge j n with hlt | hge
  · exact .inr ⟨w.goes j H hlt hg, Pv (j + 1), fun H' p' => ⟨n - (j + 1), by omega, hlt, rfl, p'⟩, fun x H' y => hs j x H H' hlt p (w.yields j H x H' hlt hg y)⟩
  · obtain rfl : j = n := by omega
    exact .inl ⟨w.stops H hg, hd H p⟩
theorem take_succ_at {α : Type} {l : List α} {i : Nat} {x : α} (h : l[i]? = some x) : l.take (i + 1) = l.take i ++ [x] := by
  rw [List.take_succ, h]
  rfl
section
variable {P : Program} {w : World} {K : PySem.W.Frag} {mg : Str → Option Value} {base : Heap} {CS CR CU f : Addr} {fd : FuncData}
/-! ### read -/
abbrev SC_read : Scope := ⟨.function, [(".0", .local), ("x", .cell), ("y", .cell), ("len", .globalImplicit), ("keys", .cell), ("places", .cell)], false, false, []⟩
/-- new tuples of pairs in a new list -/
structure PvP (H0 : Hp) (D : Addr) (prs : List (Int × Int)) (H : Hp) : Prop where
  s : Same H0 H
  ex : ∃ ts : List Addr, H D = some (.lst (ts.map V.ref)) ∧ ts.length = prs.length ∧ ∀ (i : Nat) (t : Addr) (q : Int × Int), ts[i]? = some t → prs[i]? = some q → t ≠ D ∧ H t = some (.tup [.int q.1, .int q.2])
theorem PvP.zero {H0 : Hp} {D : Addr} (hD : H0 D = none) : PvP H0 D [] (upd H0 D (.lst [])) :=
  ⟨Same.new hD, [], upd_same, rfl, fun i t q h => by cases h⟩
theorem PvP.step {H0 H H1 : Hp} {D t : Addr} {prs : List (Int × Int)} {x y : Int} (h : PvP H0 D prs H) (hD : H0 D = none) (s : Same H H1) (ht : H1 t = none) (hl : prs.length ≤ 4096) :
    ∃ acc, upd H1 t (.tup [.int x, .int y]) D = some (.lst acc) ∧ acc.length < sizeLine ∧ PvP H0 D (prs ++ [(x, y)]) (upd (upd H1 t (.tup [.int x, .int y])) D (.lst (acc ++ [V.ref t]))) := by
  obtain ⟨ts, h1, h2, h3⟩ := h.ex
  have hDt : D ≠ t := ne_of_none (s _ _ h1) ht
  refine ⟨ts.map V.ref, ?_, sz12' (by rw [List.length_map, h2]; exact hl), Same.put (Same.put (h.s.trans s) ((h.s.trans s).free ht)) hD, ts ++ [t], ?_, ?_, fun i u q e1 e2 => ?_⟩
  · rw [upd_ne hDt]
    exact s _ _ h1
  · rw [upd_same, List.map_append]
    rfl
  · rw [List.length_append, List.length_append, h2]
    rfl
  · rcases Nat.lt_or_ge i ts.length with hi | hi
    · rw [List.getElem?_append_left hi] at e1
      rw [List.getElem?_append_left (h2 ▸ hi)] at e2
      obtain ⟨n, hu⟩ := h3 i u q e1 e2
      refine ⟨n, ?_⟩
      rw [upd_ne n, upd_ne (ne_of_none (s _ _ hu) ht)]
      exact s _ _ hu
    · have e : i = ts.length := by
        have := (List.getElem?_eq_some_iff.mp e1).1
        rw [List.length_append] at this
        simp at this
        omega
      subst e
      rw [List.getElem?_append_right (Nat.le_refl _), Nat.sub_self] at e1
      rw [h2, List.getElem?_append_right (Nat.le_refl _), Nat.sub_self] at e2
      have e1' := Option.some.inj e1
      have e2' := Option.some.inj e2
      subst e1'
      subst e2'
      refine ⟨Ne.symm hDt, ?_⟩
      rw [upd_ne (Ne.symm hDt), upd_same]
theorem PvP.pls {H0 H : Hp} {D : Addr} {prs : List (Int × Int)} (h : PvP H0 D prs H) : PLs K H D prs := by
  obtain ⟨ts, h1, h2, h3⟩ := h.ex
  exact ⟨ts, SqL.of h1, h2, fun i t q e1 e2 => (h3 i t q e1 e2).2⟩
def sp_read (K : PySem.W.Frag) (CS CR : Addr) : Sp := fun vs H Q _ => ∃ (a : Addr) (L : QD.LS), vs = [.ref a] ∧ StAt K H CS a L ∧ ∀ H' r, Same H H' → ReAt H' CR r (L 0) (QD.rd L) → Q (.ref r) H'
abbrev N_read : List Str := ["state", "places", "keys", "pairs", "order", "x", "y", "place"]
abbrev P_read : List Str := ["state"]
theorem sc_read : FnScope N_read P_read (defScope s_read) := ⟨rfl, rfl, rfl, by decide +kernel, rfl, by decide +kernel, by decide +kernel⟩
theorem ok_read (F : F_read K f fd) (T : Txt K mg CS CR CU) (m_State_lists : Met P w K mg base CS "lists" 1 P_State_lists (sp_lists K CS)) (c_index_of : Cal P w K mg base "index_of" 1 P_index_of (sp_index_of K))
    (m_State_all_keys : Met P w K mg base CS "all_keys" 1 P_State_all_keys (sp_all_keys K CS)) (c_Reading : Mak P w K mg base "Reading" CR 3 P_Reading_init (sp_Reading_init K CR)) : FnOk P w K mg base CX0 5 f fd P_read (sp_read K CS CR) := by
  refine FunD.ok F sc_read (fun vs H Q E h => ?_) (fun cdv A outer s H vs Q E hr h => ?_)
  · obtain ⟨a, L, rfl, _⟩ := h
    rfl
  · obtain ⟨a, L, rfl, h1, k⟩ := h
    have nd := sc_read.nd
    have hu := hu_of hr
    refine ⟨_, PSs.nox ((pss_cons (ps_set (i := 1) nd rfl (Or.inr rfl) (pe_lc (own := [("order", 4)]) (g := gName 4) rfl nd (ki_list (K := K) (pe_met0 m_State_lists T.cState (hr.mono (by decide)) (pv 0))) (blkOk_by (own := [("order", 4)]) (N := N_read) (sc := defScope s_read) (by decide +kernel)) (fun _ _ _ _ _ => pg_name (i := 4) nd rfl (Or.inl rfl)) (fun _ _ _ _ _ => pts_nil) (fun _ _ _ _ _ => (pe_cal c_index_of (hr.mono (by decide)) (pa_cons (pv 4) pa_nil)))))
  (pss_cons (ps_set (i := 2) nd rfl (Or.inr rfl) (pe_met0 m_State_all_keys T.cState (hr.mono (by decide)) (pv 0)))
  (pss_cons (ps_setLc2 (i := 3) (own := [("x", 5), ("y", 6)]) (vs1 := [6]) (g := gName 5) rfl nd rfl rfl (sw_true rfl rfl rfl (by decide +kernel)) (ki_list (K := K) (pv 2)) (blkOk_by (own := [("x", 5), ("y", 6)]) (N := N_read) (sc := defScope s_read) (by decide +kernel)) (by decide) (fun _ _ _ _ _ => pg_name (i := 5) nd rfl (Or.inr rfl)) (fun _ _ _ _ _ => pts_nil) (fun _ _ _ _ _ => (ki_list (K := K) (pv 2))) (fun _ _ _ _ _ => pg_name (i := 6) nd rfl (Or.inr rfl)) (fun _ _ _ _ _ => (pts_one (pt_cmpR op_ge (pe_callB (k_len (K := K)) (by rfl) T.len bt_len (pa_cons (pe_lc (own := [("place", 7)]) (g := gName 7) rfl nd (ki_list (K := K) (pv 1)) (blkOk_by (own := [("place", 7)]) (N := N_read) (sc := SC_read) (by decide +kernel)) (fun _ _ _ _ _ => pg_name (i := 7) nd rfl (Or.inl rfl)) (fun _ _ _ _ _ => (pts_one (pt_cmpR op_lt (pe_dget hu (pv 7) (pv 5) (fun _ _ => rfl)) (pe_dget hu (pv 7) (pv 6) (fun _ _ => rfl)) (nomark _)))) (fun _ _ _ _ _ => (pv 7))) pa_nil)) pe_int (nomark _)))) (fun _ _ _ _ _ => (pe_tup (pa_cons (pv 5) (pa_cons (pv 6) pa_nil)))))
  (pss_one (ps_ret (pe_mak c_Reading (hr.mono (by decide)) (pa_cons (pv 2) (pa_cons (pv 3) pa_nil))))))))), ?_⟩
    obtain ⟨dx, l0, p0, ha, _⟩ := h1.ex
    refine ⟨_, rfl, a, dx, _, rfl, ha, sf_no (by decide +kernel) (by decide +kernel), a, L, rfl, h1, fun H1 D0 B0 s1 fl => ?_⟩
    refine ⟨D0, rfl, ⟨_, SqL.of fl.d⟩, fun D hD => ?_⟩
    refine lc_list (K := K) (a := D0) (fun i H4 => PvC H1 D (dO L) i H4) (PvC.zero hD) (fun i H4 _ q => Same.seq q.s (SqL.of fl.d)) (fun i x H4 hx q => ?_) fun H2 q => ?_
    · obtain ⟨hi, rfl⟩ := three_of hx
      exact ⟨rfl, _, rfl, B0 i, L i, rfl, SqL.of (q.s _ _ (fl.at_ i hi)), h1.ok.kok hi, fun H5 p s5 hp hp' => q.step' hD hp s5 hp' hi⟩
    · obtain ⟨B, h⟩ := q.done hD
      have s2 := s1.trans q.s
      refine ⟨_, rfl, a, dx, _, rfl, s2 _ _ ha, sf_no (by decide +kernel) (by decide +kernel), a, L, rfl, h1.mono s2, fun H3 kp s3 hkp hkp' => ?_⟩
      have sA := s2.trans s3
      have hB : ∀ w, w < 3 → H3 (B w) = some (.dK (ixT (L w))) := fun w hw => s3 _ _ (h.at_ w hw)
      have hBd := s3 _ _ h.d
      refine ⟨_, rfl, kp, rfl, ⟨_, SqL.of hkp'⟩, fun E hE => ?_⟩
      obtain ⟨ks, hks⟩ : ∃ ks, ks = QD.srt (L 0) := ⟨_, rfl⟩
      rw [← hks] at hkp'
      have pk : ks.Perm (L 0) := by rw [hks]; exact QD.srt_perm _
      have kok : QD.KOk ks := h1.ok.ok.perm pk
      have T1 : QD.Tour (QD.rd L) ks := (QD.rd_tour h1.ok).keys pk
      have few : ∀ {l : List (Int × Int)}, l.Sublist (QD.prsL ks (QD.rd L)) → l.length ≤ 50 := fun q => by
        have := q.length_le
        rw [QD.prsL_len] at this
        exact Nat.le_trans this (QD.rd_half T1 kok.len)
      refine wlk (walk_list (K := K) (a := kp) (xs := iV ks)) (fun i H4 => PvP H3 E (QD.prsT ks (QD.rd L) i) H4) (PvP.zero hE) (fun i H4 _ q => Same.seq q.s (SqL.of hkp')) ?_ ?_
      · rintro i x0 H4 H5 hi q ⟨rfl, e2⟩
        obtain ⟨x, hx, rfl⟩ := iV_of e2
        have hxk : x ∈ ks := List.mem_of_getElem? hx
        refine ⟨rfl, _, rfl, kp, rfl, ⟨_, Same.seq q.s (SqL.of hkp')⟩, ?_⟩
        refine wlk (walk_list (K := K) (a := kp) (xs := iV ks)) (fun j H6 => PvP H3 E (QD.prsT ks (QD.rd L) i ++ QD.rowT ks (QD.rd L) x j) H6) ?_ (fun j H6 _ q6 => Same.seq q6.s (SqL.of hkp')) ?_ ?_
        · rw [show QD.prsT ks (QD.rd L) i ++ QD.rowT ks (QD.rd L) x 0 = QD.prsT ks (QD.rd L) i from List.append_nil _]
          exact q
        · rintro j y0 H6 H7 hj q6 ⟨rfl, e4⟩
          obtain ⟨y, hy, rfl⟩ := iV_of e4
          have hyk : y ∈ ks := List.mem_of_getElem? hy
          refine ⟨rfl, _, rfl, D, rfl, ⟨_, SqL.of (q6.s _ _ hBd)⟩, fun Z hZ => ?_⟩
          have sD := sA.trans q6.s
          have bd : ∀ {H8 : Hp}, Same H7 H8 → ∀ w, w < 3 → H8 (B w) = some (.dK (ixT (L w))) := fun s8 w hw => s8 _ _ (q6.s _ _ (hB w hw))
          refine lc_list (K := K) (a := D) (fun i H4 => Same H7 H4 ∧ H4 Z = some (.lst (((List.range i).filter fun j => QD.bef (L j) x y).map fun j => V.ref (B j)))) ⟨Same.new hZ, upd_same⟩ (fun i H4 _ q => Same.seq (q6.s.trans q.1) (SqL.of hBd)) (fun i x0 H8 hx0 ⟨s8, hZ8⟩ => ?_) fun H8 ⟨s8, hZ8⟩ => ?_
          · obtain ⟨hi, rfl⟩ := three_of hx0
            have hB8 := bd s8 i hi
            have gx := DGet.k (k := Sum.inl x) hB8
            have gy := DGet.k (k := Sum.inl y) hB8
            rw [ixT_val ((h1.ok.mem hi).mpr (pk.mem_iff.mp hxk))] at gx
            rw [ixT_val ((h1.ok.mem hi).mpr (pk.mem_iff.mp hyk))] at gy
            refine ⟨rfl, _, rfl, _, rfl, B i, _, rfl, gx, _, rfl, _, rfl, B i, _, rfl, gy, _, _, rfl, rfl, _, rfl, ?_⟩
            have e : decide ((((L i).idxOf x : Nat) : Int) < ((L i).idxOf y : Nat)) = QD.bef (L i) x y := by
              unfold QD.bef
              exact decide_eq_decide.mpr (by omega)
            show if decide ((((L i).idxOf x : Nat) : Int) < ((L i).idxOf y : Nat)) = true then _ else _
            rw [e, List.range_succ, List.filter_append, List.map_append]
            cases eb : QD.bef (L i) x y with
            | true =>
              refine ⟨_, rfl, _, hZ8, sz12' ?_, Same.put s8 hZ, ?_⟩
              · rw [List.length_map]
                have := List.length_filter_le (fun j => QD.bef (L j) x y) (List.range i)
                rw [List.length_range] at this
                omega
              · rw [List.filter_cons_of_pos (by exact eb), upd_same]
                rfl
            | false =>
              refine ⟨s8, ?_⟩
              rw [List.filter_cons_of_neg (by rw [eb]; exact Bool.false_ne_true)]
              show _ = some (HO.lst (_ ++ []))
              rw [List.append_nil]
              exact hZ8
          · refine ⟨Z, _, rfl, .inl (SqL.of hZ8), _, _, rfl, rfl, _, rfl, ?_⟩
            have e : decide ((2 : Int) ≤ ((((List.range 3).filter fun j => QD.bef (L j) x y).map fun j => V.ref (B j)).length : Nat)) = QD.rd L x y := by
              rw [List.length_map, ← QD.rd_count]
              exact decide_eq_decide.mpr (by omega)
            show if decide ((2 : Int) ≤ ((((List.range 3).filter fun j => QD.bef (L j) x y).map fun j => V.ref (B j)).length : Nat)) = true then _ else _
            rw [e, QD.rowT_snoc hy]
            have few6 := few (QD.prsT_sub (R := QD.rd L) (j := j) hx)
            cases eb : QD.rd L x y with
            | true =>
              rw [if_pos rfl]
              refine ⟨_, rfl, _, rfl, le2, fun t ht => ?_⟩
              obtain ⟨acc, g1, g2, g3⟩ := q6.step hE s8 ht (by omega)
              rw [List.append_assoc] at g3
              exact ⟨acc, g1, g2, g3⟩
            | false =>
              rw [if_neg Bool.false_ne_true]
              refine ⟨q6.s.trans s8, ?_⟩
              obtain ⟨ts, g1, g2, g3⟩ := q6.ex
              exact ⟨ts, s8 _ _ g1, g2, fun i t q e1 e2 => ⟨(g3 i t q e1 e2).1, s8 _ _ (g3 i t q e1 e2).2⟩⟩
        · intro H6 q6
          rw [iV_len, ← QD.prsT_snoc hx] at q6
          exact q6
      · intro H4 q4
        rw [iV_len, QD.prsT_full] at q4
        have s5 := sA.trans q4.s
        refine ⟨_, rfl, _, rfl, fun x dy nx ny nxy => ?_⟩
        have s6 : Same H4 (upd (upd H4 dy (.own x)) x (.ins CR dy [])) := fun c u q => by
          rw [upd_ne (ne_of_none q nx), upd_ne (ne_of_none q ny)]
          exact q
        have prs : Prs ks (QD.rd L) (QD.prsL ks (QD.rd L)) := ⟨QD.prsL_nd kok.nd, fun x y => QD.mem_prsL, by have := few (List.Sublist.refl _); omega⟩
        refine ⟨x, dy, kp, E, ks, QD.rd L, _, rfl, upd_same, Same.seq s6 (Same.seq q4.s (SqL.of hkp')), kok, q4.pls.mono s6, prs, T1, fun H6 st kpp => ⟨rfl, k _ x (fun c u q => kpp c u (s6 _ _ (s5 _ _ q)) (ne_of_none (s5 _ _ q) nx)) (st.keys pk.symm)⟩⟩
end
end Qd

set_option Elab.async false
set_option linter.all false
set_option maxRecDepth 100000
set_option maxHeartbeats 4000000
/-! swaps.py, runs.py. -/
namespace Qd
open PySem PySem.Spec PyProof.Rows L2
section
variable {P : Program} {w : World} {K : PySem.W.Frag} {mg : Str → Option Value} {base : Heap} {CS CR CU f : Addr} {fd : FuncData}
/-! ### is_swap -/
/-- a tuple (w, i) that is a swap of the state -/
structure SwAt (H : Hp) (t : Addr) (L : QD.LS) (w i : Nat) : Prop where
  at_ : H t = some (.tup [.int (w : Nat), .int (i : Nat)])
  hw : w < 3
  hi : i + 1 < (L w).length
theorem SwAt.mono {H H' : Hp} {t : Addr} {L : QD.LS} {w i : Nat} (h : SwAt H t L w i) (s : Same H H') : SwAt H' t L w i := ⟨s _ _ h.at_, h.hw, h.hi⟩
def sp_is_swap (K : PySem.W.Frag) (CS : Addr) : Sp := fun vs H Q _ => ∃ (a t : Addr) (L : QD.LS) (w i : Nat), vs = [.ref a, .ref t] ∧ StAt K H CS a L ∧ SwAt H t L w i ∧ Q (.bl true) H
abbrev N_is_swap : List Str := ["state", "swap", "replica", "index", "last"]
abbrev P_is_swap : List Str := ["state", "swap"]
theorem sc_is_swap : FnScope N_is_swap P_is_swap (defScope s_is_swap) := ⟨rfl, rfl, rfl, by decide +kernel, rfl, by decide +kernel, by decide +kernel⟩
theorem ok_is_swap (F : F_is_swap K f fd) (T : Txt K mg CS CR CU) (m_State_len : Met P w K mg base CS "__len__" 1 P_State_len (sp_len K CS)) : FnOk P w K mg base CX0 3 f fd P_is_swap (sp_is_swap K CS) := by
  refine FunD.ok F sc_is_swap (fun vs H Q E h => ?_) (fun cdv A outer s H vs Q E hr h => ?_)
  · obtain ⟨a, t, L, w, i, rfl, _⟩ := h
    rfl
  · obtain ⟨a, t, L, w, i, rfl, h1, sw, k⟩ := h
    have nd := sc_is_swap.nd
    refine ⟨_, PSs.nox ((pss_cons (ps_asg (pv 1) (kg_tup (K := K) (n := 2) rfl (pgs_cons (pg_name (i := 2) nd rfl (Or.inl rfl)) (pgs_cons (pg_name (i := 3) nd rfl (Or.inl rfl)) pgs_nil))))
  (pss_cons (ps_set (i := 4) nd rfl (Or.inl rfl) (pe_op op_sub (pe_callB (call_lenO m_State_len (hr.mono (by decide))) (by rfl) T.len bt_len (pa_cons (pv 0) pa_nil)) pe_int))
  (pss_one (ps_ret (pe_and (pe_chain op_le op_lt pe_int (pv 2) (k_cval (K := K) (pe_glob (v := .ref CS) rfl T.gState rfl))) (pe_one (pe_chain op_le op_le pe_int (pv 3) (pv 4))))))))), ?_⟩
    obtain ⟨u, hu3⟩ := T.reps
    obtain ⟨dx, l0, p0, ha, _⟩ := h1.ex
    have hw := sw.hw
    have hi := sw.hi
    rw [(h1.ok.perm hw).length_eq] at hi
    have l10 := h1.ok.ok.len
    refine ⟨_, rfl, t, _, rfl, SqT.of sw.at_, rfl, _, _, rfl, _, _, rfl, rfl, ?_⟩
    refine ⟨_, rfl, a, dx, _, rfl, ha, a, L, rfl, h1, _, rfl, sz12 (by omega), _, _, rfl, rfl, ?_⟩
    refine ⟨_, rfl, _, _, rfl, rfl, _, rfl, iteDT (by omega) ⟨CS, _, _, u, rfl, T.rdS, hu3, _, _, rfl, rfl, _, rfl, iteDT (by omega) ?_⟩⟩
    refine ⟨_, rfl, _, _, rfl, rfl, _, rfl, iteDT (by omega) ⟨_, rfl, _, _, rfl, rfl, ?_⟩⟩
    show Q (.bl (decide ((i : Int) ≤ ((L 0).length : Int) - 2))) H
    rw [decide_eq_true (show (i : Int) ≤ ((L 0).length : Int) - 2 by omega)]
    exact k
/-! ### swap_pair -/
def sp_swap_pair (K : PySem.W.Frag) (CS : Addr) : Sp := fun vs H Q _ => ∃ (a t : Addr) (L : QD.LS) (w i : Nat), vs = [.ref a, .ref t] ∧ StAt K H CS a L ∧ SwAt H t L w i ∧
  ∀ H' p, Same H H' → H p = none → H' p = some (.tup [.int ((L w).getD i 0), .int ((L w).getD (i + 1) 0)]) → Q (.ref p) H'
abbrev N_swap_pair : List Str := ["state", "swap", "replica", "index", "order"]
abbrev P_swap_pair : List Str := ["state", "swap"]
theorem sc_swap_pair : FnScope N_swap_pair P_swap_pair (defScope s_swap_pair) := ⟨rfl, rfl, rfl, by decide +kernel, rfl, by decide +kernel, by decide +kernel⟩
theorem ok_swap_pair (F : F_swap_pair K f fd) (T : Txt K mg CS CR CU) (c_is_swap : Cal P w K mg base "is_swap" 3 P_is_swap (sp_is_swap K CS)) (m_State_list_of : Met P w K mg base CS "list_of" 2 P_State_list_of (sp_list_of K CS)) :
    FnOk P w K mg base CX0 4 f fd P_swap_pair (sp_swap_pair K CS) := by
  refine FunD.ok F sc_swap_pair (fun vs H Q E h => ?_) (fun cdv A outer s H vs Q E hr h => ?_)
  · obtain ⟨a, t, L, w, i, rfl, _⟩ := h
    rfl
  · obtain ⟨a, t, L, w, i, rfl, h1, sw, k⟩ := h
    have nd := sc_swap_pair.nd
    refine ⟨_, PSs.nox ((pss_cons (ps_if (pt_not (pt_val (pe_cal c_is_swap (hr.mono (by decide)) (pa_cons (pv 0) (pa_cons (pv 1) pa_nil)))))
    (pss_one ps_never)
    pss_nil)
  (pss_cons (ps_asg (pv 1) (kg_tup (K := K) (n := 2) rfl (pgs_cons (pg_name (i := 2) nd rfl (Or.inl rfl)) (pgs_cons (pg_name (i := 3) nd rfl (Or.inl rfl)) pgs_nil))))
  (pss_cons (ps_set (i := 4) nd rfl (Or.inl rfl) (pe_met m_State_list_of T.cState (hr.mono (by decide)) (pv 0) (pa_cons (pv 2) pa_nil)))
  (pss_one (ps_ret (pe_tup (pa_cons (pe_ix (k_ixL (K := K)) (pv 4) (pv 3) (fun _ _ => rfl)) (pa_cons (pe_ix (k_ixL (K := K)) (pv 4) (pe_op op_add (pv 3) pe_int) (fun _ _ => rfl)) pa_nil))))))))), ?_⟩
    have hw := sw.hw
    have hi := sw.hi
    obtain ⟨dx, l0, p0, ha, _⟩ := h1.ex
    refine ⟨_, rfl, _, rfl, a, t, L, w, i, rfl, h1, sw, _, rfl, iteF ?_⟩
    refine ⟨_, rfl, t, _, rfl, SqT.of sw.at_, rfl, _, _, rfl, _, _, rfl, rfl, ?_⟩
    refine ⟨_, rfl, a, dx, _, rfl, ha, sf_no (by decide +kernel) (by decide +kernel), _, rfl, a, L, w, rfl, h1, hw, fun H1 p s1 hp hp' => ?_⟩
    refine ⟨_, rfl, _, rfl, p, _, _, _, rfl, rfl, SqL.of hp', at_of (j := i) rfl (iV_at (QD.getD_at (by omega))), ?_⟩
    refine ⟨_, rfl, _, rfl, _, _, rfl, rfl, p, _, _, _, rfl, rfl, SqL.of hp', at_of (j := i + 1) rfl (iV_at (QD.getD_at hi)), le2, fun q hq => ?_⟩
    exact k _ q (Same.put s1 (s1.free hq)) (s1.free hq) upd_same
/-! ### _other_replicas -/
def others (w : Nat) : List Int := if w = 0 then [1, 2] else if w = 1 then [0, 2] else [0, 1]
def sp_others : Sp := fun vs H Q _ => ∃ w : Nat, vs = [.int w] ∧ w < 3 ∧ ∀ H' p, Same H H' → H p = none → H' p = some (.lst (iV (others w))) → Q (.ref p) H'
abbrev N_other_replicas : List Str := ["replica", "other"]
abbrev P_other_replicas : List Str := ["replica"]
theorem sc_other_replicas : FnScope N_other_replicas P_other_replicas (defScope s_other_replicas) := ⟨rfl, rfl, rfl, by decide +kernel, rfl, by decide +kernel, by decide +kernel⟩
theorem ok_other_replicas (F : F_other_replicas K f fd) (T : Txt K mg CS CR CU) : FnOk P w K mg base CX0 1 f fd P_other_replicas sp_others := by
  refine FunD.ok F sc_other_replicas (fun vs H Q E h => ?_) (fun cdv A outer s H vs Q E hr h => ?_)
  · obtain ⟨w, rfl, _⟩ := h
    rfl
  · obtain ⟨w, rfl, hw, k⟩ := h
    have nd := sc_other_replicas.nd
    refine ⟨_, PSs.nox ((pss_one (ps_ret (pe_lc (own := [("other", 1)]) (g := gName 1) rfl nd (pi_range1 (by rfl) T.range (pa_cons (k_cval (K := K) (pe_glob (v := .ref CS) rfl T.gState rfl)) pa_nil)) (blkOk_by (own := [("other", 1)]) (N := N_other_replicas) (sc := defScope s_other_replicas) (by decide +kernel)) (fun _ _ _ _ _ => pg_name (i := 1) nd rfl (Or.inl rfl)) (fun _ _ _ _ _ => (pts_one (pt_cmpR op_ne (pv 1) (pv 0) (nomark _)))) (fun _ _ _ _ _ => (pv 1)))))), ?_⟩
    obtain ⟨u, hu3⟩ := T.reps
    refine ⟨CS, _, _, u, rfl, T.rdS, hu3, 3, rfl, by decide, by decide, fun D hD => ?_⟩
    refine lc_range (lo := 0) (n := 3) (fun i H1 => Same H H1 ∧ H1 D = some (.lst (iV (((List.range i).filter fun j => decide (j ≠ w)).map Int.ofNat)))) ⟨Same.new hD, upd_same⟩ (fun i H1 hi ⟨s1, h1⟩ => ?_) fun H1 ⟨s1, h1⟩ => ?_
    · refine ⟨rfl, _, rfl, _, rfl, rfl, _, rfl, ?_⟩
      have e : (!decide (V.int (0 + (i : Int)) = V.int (w : Nat))) = decide (i ≠ w) := by
        rw [Bool.eq_iff_iff]
        simp
        omega
      show if (!decide (V.int (0 + (i : Int)) = V.int (w : Nat))) = true then _ else _
      rw [e, List.range_succ, List.filter_append, List.map_append]
      by_cases n : i = w
      · rw [decide_eq_false (fun m => m n), List.filter_cons_of_neg (by simp [n])]
        refine ⟨s1, ?_⟩
        show _ = some (HO.lst (iV (_ ++ [])))
        rw [List.append_nil]
        exact h1
      · rw [decide_eq_true n, List.filter_cons_of_pos (by simp [n])]
        refine ⟨_, rfl, _, h1, sz12' ?_, Same.put s1 hD, ?_⟩
        · rw [iV_len, List.length_map]
          have := List.length_filter_le (fun j => decide (j ≠ w)) (List.range i)
          rw [List.length_range] at this
          omega
        · rw [upd_same, Int.zero_add]
          show some (HO.lst (_ ++ [_])) = some (HO.lst (List.map V.int (_ ++ [_])))
          rw [List.map_append]
          rfl
    · refine k _ D s1 hD ?_
      rw [h1]
      match w, hw with
      | 0, _ => rfl
      | 1, _ => rfl
      | 2, _ => rfl
/-! ### is_silent -/
def sp_is_silent (K : PySem.W.Frag) (CS : Addr) : Sp := fun vs H Q _ => ∃ (a t : Addr) (L : QD.LS) (w i : Nat), vs = [.ref a, .ref t] ∧ StAt K H CS a L ∧ SwAt H t L w i ∧ ∀ H', Same H H' → Q (.bl (QD.quiet L w i)) H'
abbrev N_is_silent : List Str := ["state", "swap", "x", "y", "first", "second"]
abbrev P_is_silent : List Str := ["state", "swap"]
theorem sc_is_silent : FnScope N_is_silent P_is_silent (defScope s_is_silent) := ⟨rfl, rfl, rfl, by decide +kernel, rfl, by decide +kernel, by decide +kernel⟩
theorem ok_is_silent (F : F_is_silent K f fd) (T : Txt K mg CS CR CU) (c_swap_pair : Cal P w K mg base "swap_pair" 4 P_swap_pair (sp_swap_pair K CS)) (c_other_replicas : Cal P w K mg base "_other_replicas" 1 P_other_replicas sp_others)
    (m_State_says : Met P w K mg base CS "says" 2 P_State_says (sp_says K CS)) : FnOk P w K mg base CX0 5 f fd P_is_silent (sp_is_silent K CS) := by
  refine FunD.ok F sc_is_silent (fun vs H Q E h => ?_) (fun cdv A outer s H vs Q E hr h => ?_)
  · obtain ⟨a, t, L, w, i, rfl, _⟩ := h
    rfl
  · obtain ⟨a, t, L, w, i, rfl, h1, sw, k⟩ := h
    have nd := sc_is_silent.nd
    refine ⟨_, PSs.nox ((pss_cons (ps_asg (pe_cal c_swap_pair (hr.mono (by decide)) (pa_cons (pv 0) (pa_cons (pv 1) pa_nil))) (kg_tup (K := K) (n := 2) rfl (pgs_cons (pg_name (i := 2) nd rfl (Or.inl rfl)) (pgs_cons (pg_name (i := 3) nd rfl (Or.inl rfl)) pgs_nil))))
  (pss_cons (ps_asg (pe_cal c_other_replicas (hr.mono (by decide)) (pa_cons (pe_ix (k_ixT (K := K)) (pv 1) pe_int (fun _ _ => rfl)) pa_nil)) (kg_unl (K := K) (n := 2) rfl (pgs_cons (pg_name (i := 4) nd rfl (Or.inl rfl)) (pgs_cons (pg_name (i := 5) nd rfl (Or.inl rfl)) pgs_nil))))
  (pss_one (ps_ret (pe_cmpR op_eq (pe_met m_State_says T.cState (hr.mono (by decide)) (pv 0) (pa_cons (pv 4) (pa_cons (pv 2) (pa_cons (pv 3) pa_nil)))) (pe_met m_State_says T.cState (hr.mono (by decide)) (pv 0) (pa_cons (pv 5) (pa_cons (pv 2) (pa_cons (pv 3) pa_nil)))) (nomark _))))))), ?_⟩
    have hw := sw.hw
    have hi := sw.hi
    obtain ⟨dx, l0, p0, ha, _⟩ := h1.ex
    refine ⟨_, rfl, _, rfl, a, t, L, w, i, rfl, h1, sw, fun H1 p s1 hp hp' => ?_⟩
    refine ⟨p, _, rfl, SqT.of hp', rfl, _, _, rfl, _, _, rfl, rfl, ?_⟩
    refine ⟨_, rfl, t, _, _, _, rfl, rfl, SqT.of (s1 _ _ sw.at_), atI_nat (j := 0) rfl, w, rfl, hw, fun H2 q s2 hq hq' => ?_⟩
    have n := QD.nb_at h1.ok hw hi
    obtain ⟨x, hx⟩ : ∃ x, x = (L w).getD i 0 := ⟨_, rfl⟩
    obtain ⟨y, hy⟩ : ∃ y, y = (L w).getD (i + 1) 0 := ⟨_, rfl⟩
    rw [← hx, ← hy] at n hp'
    have mx : ∀ j, j < 3 → x ∈ L j := fun j hj => (h1.ok.mem hj).mpr ((h1.ok.mem hw).mp n.ma)
    have my : ∀ j, j < 3 → y ∈ L j := fun j hj => (h1.ok.mem hj).mpr ((h1.ok.mem hw).mp n.mb)
    obtain ⟨u, v, hu, hv, e, eq⟩ : ∃ u v : Nat, u < 3 ∧ v < 3 ∧ others w = [(u : Int), (v : Int)] ∧ (decide (V.bl (QD.bef (L u) x y) = V.bl (QD.bef (L v) x y))) = QD.quiet L w i := by
      have dq : ∀ b c : Bool, decide (V.bl b = V.bl c) = (b == c) := fun b c => by cases b <;> cases c <;> rfl
      have dr : ∀ b c : Bool, (b == c) = (c == b) := fun b c => by cases b <;> cases c <;> rfl
      unfold QD.quiet
      rw [← hx, ← hy]
      match w, hw with
      | 0, _ => exact ⟨1, 2, by decide, by decide, rfl, dq _ _⟩
      | 1, _ => exact ⟨0, 2, by decide, by decide, rfl, (dq _ _).trans (dr _ _)⟩
      | 2, _ => exact ⟨0, 1, by decide, by decide, rfl, dq _ _⟩
    rw [e] at hq'
    have sA := s1.trans s2
    refine ⟨q, _, rfl, SqL.of hq', rfl, _, _, rfl, _, _, rfl, rfl, ?_⟩
    rw [← hx, ← hy]
    refine ⟨_, rfl, a, dx, _, rfl, sA _ _ ha, sf_no (by decide +kernel) (by decide +kernel), _, rfl, _, rfl, _, rfl, a, L, u, x, y, rfl, h1.mono sA, hu, mx u hu, my u hu, fun H3 s3 => ?_⟩
    have sB := sA.trans s3
    refine ⟨_, rfl, a, dx, _, rfl, sB _ _ ha, sf_no (by decide +kernel) (by decide +kernel), _, rfl, _, rfl, _, rfl, a, L, v, x, y, rfl, h1.mono sB, hv, mx v hv, my v hv, fun H4 s4 => ⟨rfl, ?_⟩⟩
    show Q (.bl (decide (V.bl (QD.bef (L u) x y) = V.bl (QD.bef (L v) x y)))) H4
    rw [eq]
    exact k _ (sB.trans s4)
/-! ### swapped_state -/
def sp_swapped_state (K : PySem.W.Frag) (CS : Addr) : Sp := fun vs H Q _ => ∃ (a t : Addr) (L : QD.LS) (w i : Nat), vs = [.ref a, .ref t] ∧ StAt K H CS a L ∧ SwAt H t L w i ∧ ∀ H' p, Same H H' → StAt K H' CS p (QD.swS L (w, i)) → Q (.ref p) H'
abbrev N_swapped_state : List Str := ["state", "swap", "replica", "index"]
abbrev P_swapped_state : List Str := ["state", "swap"]
theorem sc_swapped_state : FnScope N_swapped_state P_swapped_state (defScope s_swapped_state) := ⟨rfl, rfl, rfl, by decide +kernel, rfl, by decide +kernel, by decide +kernel⟩
theorem ok_swapped_state (F : F_swapped_state K f fd) (T : Txt K mg CS CR CU) (m_State_list_of : Met P w K mg base CS "list_of" 2 P_State_list_of (sp_list_of K CS)) (c_swap_at : Cal P w K mg base "swap_at" 3 P_swap_at (sp_swap_at K))
    (m_State_with_list : Met P w K mg base CS "with_list" 5 P_State_with_list (sp_with_list K CS)) : FnOk P w K mg base CX0 6 f fd P_swapped_state (sp_swapped_state K CS) := by
  refine FunD.ok F sc_swapped_state (fun vs H Q E h => ?_) (fun cdv A outer s H vs Q E hr h => ?_)
  · obtain ⟨a, t, L, w, i, rfl, _⟩ := h
    rfl
  · obtain ⟨a, t, L, w, i, rfl, h1, sw, k⟩ := h
    have nd := sc_swapped_state.nd
    refine ⟨_, PSs.nox ((pss_cons (ps_asg (pv 1) (kg_tup (K := K) (n := 2) rfl (pgs_cons (pg_name (i := 2) nd rfl (Or.inl rfl)) (pgs_cons (pg_name (i := 3) nd rfl (Or.inl rfl)) pgs_nil))))
  (pss_one (ps_ret (pe_met m_State_with_list T.cState (hr.mono (by decide)) (pv 0) (pa_cons (pv 2) (pa_cons (pe_cal c_swap_at (hr.mono (by decide)) (pa_cons (pe_met m_State_list_of T.cState (hr.mono (by decide)) (pv 0) (pa_cons (pv 2) pa_nil)) (pa_cons (pv 3) pa_nil))) pa_nil))))))), ?_⟩
    have hw := sw.hw
    have hi := sw.hi
    obtain ⟨dx, l0, p0, ha, _⟩ := h1.ex
    refine ⟨_, rfl, t, _, rfl, SqT.of sw.at_, rfl, _, _, rfl, _, _, rfl, rfl, ?_⟩
    refine ⟨_, rfl, a, dx, _, rfl, ha, sf_no (by decide +kernel) (by decide +kernel), _, rfl, ?_⟩
    refine ⟨_, rfl, a, dx, _, rfl, ha, sf_no (by decide +kernel) (by decide +kernel), _, rfl, a, L, w, rfl, h1, hw, fun H1 p s1 hp hp' => ?_⟩
    refine ⟨_, rfl, p, L w, i, rfl, SqL.of hp', h1.ok.kok hw, hi, fun H2 q s2 hq hq' => ?_⟩
    exact ⟨a, q, L, w, QD.swp (L w) i, rfl, h1.mono (s1.trans s2), hw, SqL.of hq', (QD.swp_perm _ _).trans (h1.ok.perm hw), fun H3 r s3 st => k _ r ((s1.trans s2).trans s3) st⟩
/-! ### Run -/
theorem uf_s {l : Addr} : ([("_swaps", .ref l)] : List (Str × V)).lookup ("_swaps" : Str) = some (.ref l) := by
  rw [List.lookup_cons]
  rfl
theorem uf_no {l : Addr} {m : Str} (h1 : (m == "_swaps") = false) : ([("_swaps", .ref l)] : List (Str × V)).lookup m = none := by
  rw [List.lookup_cons, h1]
  rfl
def sp_Run_init (K : PySem.W.Frag) (CU : Addr) : Sp := fun vs H Q _ => ∃ (a dx b : Addr) (ss : List (Nat × Nat)), vs = [.ref a, .ref b] ∧ H a = some (.ins CU dx []) ∧ TLs K H b ss ∧
  ∀ H', RuAt K H' CU a ss → (∀ b o, H b = some o → b ≠ a → H' b = some o) → Q .non H'
abbrev N_Run_init : List Str := ["self", "swaps"]
abbrev P_Run_init : List Str := ["self", "swaps"]
theorem sc_Run_init : FnScope N_Run_init P_Run_init (defScope s_Run_init) := ⟨rfl, rfl, rfl, by decide +kernel, rfl, by decide +kernel, by decide +kernel⟩
theorem ok_Run_init (F : F_Run_init K f fd) (T : Txt K mg CS CR CU) : FnOk P w K mg base CX0 1 f fd P_Run_init (sp_Run_init K CU) := by
  refine FunD.ok F sc_Run_init (fun vs H Q E h => ?_) (fun cdv A outer s H vs Q E hr h => ?_)
  · obtain ⟨a, dx, b, ss, rfl, _⟩ := h
    rfl
  · obtain ⟨a, dx, b, ss, rfl, ha, hb, k⟩ := h
    have nd := sc_Run_init.nd
    refine ⟨_, PSs.nox ((pss_one (ps_fld (pv 0) (pe_callTy (k_list (K := K)) (by rfl) T.list bt_list (pa_cons (pv 1) pa_nil)) rfl))), ?_⟩
    obtain ⟨ts, hts, tlen, tat⟩ := hb.ex
    refine ⟨_, rfl, b, _, rfl, .inl hts, fun l hl => ?_⟩
    have hla : a ≠ l := ne_of_none ha hl
    refine ⟨_, rfl, a, CU, dx, [], rfl, (by rw [upd_ne hla]; exact ha), T.cRun, T.nSwaps, (by show 0 < 1000; decide), ?_⟩
    have keep : ∀ b o, H b = some o → b ≠ a → upd (upd H l (.lst (ts.map V.ref))) a (.ins CU dx (putF "_swaps" (.ref l) [])) b = some o := fun b o q n => by
      rw [upd_ne n, upd_ne (ne_of_none q hl)]
      exact q
    refine k _ ⟨dx, l, upd_same, ts, SqL.of (by rw [upd_ne (Ne.symm hla), upd_same]), tlen, fun i t q e1 e2 => ?_⟩ keep
    have ht := tat i t q e1 e2
    exact keep _ _ ht (fun e => by
      rw [e, ha] at ht
      cases ht)
def sp_Run_steps (K : PySem.W.Frag) (CU : Addr) : Sp := fun vs H Q _ => ∃ (a : Addr) (ss : List (Nat × Nat)), vs = [.ref a] ∧ RuAt K H CU a ss ∧ ∀ H' p, Same H H' → TLs K H' p ss → Q (.ref p) H'
abbrev N_Run_steps : List Str := ["self"]
abbrev P_Run_steps : List Str := ["self"]
theorem sc_Run_steps : FnScope N_Run_steps P_Run_steps (defScope s_Run_steps) := ⟨rfl, rfl, rfl, by decide +kernel, rfl, by decide +kernel, by decide +kernel⟩
theorem ok_Run_steps (F : F_Run_steps K f fd) (T : Txt K mg CS CR CU) : FnOk P w K mg base CX0 1 f fd P_Run_steps (sp_Run_steps K CU) := by
  refine FunD.ok F sc_Run_steps (fun vs H Q E h => ?_) (fun cdv A outer s H vs Q E hr h => ?_)
  · obtain ⟨a, ss, rfl, _⟩ := h
    rfl
  · obtain ⟨a, ss, rfl, h1, k⟩ := h
    have nd := sc_Run_steps.nd
    refine ⟨_, PSs.nox ((pss_one (ps_ret (pe_callTy (k_list (K := K)) (by rfl) T.list bt_list (pa_cons (k_fld (K := K) (pv 0)) pa_nil))))), ?_⟩
    obtain ⟨dx, l, ha, ts, hts, tlen, tat⟩ := h1.ex
    exact ⟨_, rfl, a, CU, dx, _, _, rfl, ha, T.cRun, T.nSwaps, uf_s, l, _, rfl, .inl hts, fun p hp => k _ p (Same.new hp) ⟨ts, SqL.of upd_same, tlen, fun i t q e1 e2 => (Same.new hp) _ _ (tat i t q e1 e2)⟩⟩
def sp_Run_len (K : PySem.W.Frag) (CU : Addr) : Sp := fun vs H Q _ => ∃ (a : Addr) (ss : List (Nat × Nat)), vs = [.ref a] ∧ RuAt K H CU a ss ∧ Q (.int (ss.length : Nat)) H
abbrev N_Run_len : List Str := ["self"]
abbrev P_Run_len : List Str := ["self"]
theorem sc_Run_len : FnScope N_Run_len P_Run_len (defScope s_Run_len) := ⟨rfl, rfl, rfl, by decide +kernel, rfl, by decide +kernel, by decide +kernel⟩
theorem ok_Run_len (F : F_Run_len K f fd) (T : Txt K mg CS CR CU) : FnOk P w K mg base CX0 1 f fd P_Run_len (sp_Run_len K CU) := by
  refine FunD.ok F sc_Run_len (fun vs H Q E h => ?_) (fun cdv A outer s H vs Q E hr h => ?_)
  · obtain ⟨a, ss, rfl, _⟩ := h
    rfl
  · obtain ⟨a, ss, rfl, h1, k⟩ := h
    have nd := sc_Run_len.nd
    refine ⟨_, PSs.nox ((pss_one (ps_ret (pe_callB (k_len (K := K)) (by rfl) T.len bt_len (pa_cons (k_fld (K := K) (pv 0)) pa_nil))))), ?_⟩
    obtain ⟨dx, l, ha, ts, hts, tlen, tat⟩ := h1.ex
    refine ⟨_, rfl, a, CU, dx, _, _, rfl, ha, T.cRun, T.nSwaps, uf_s, l, _, rfl, .inl hts, ?_⟩
    rw [List.length_map, tlen]
    exact k
/-! ### _state_after, play -/
def sp_state_after (K : PySem.W.Frag) (CS : Addr) : Sp := fun vs H Q _ => ∃ (a t : Addr) (n : Int) (L : QD.LS) (s : Nat × Nat), vs = [.ref a, .ref t, .int n] ∧ StAt K H CS a L ∧ H t = some (.tup [.int (s.1 : Nat), .int (s.2 : Nat)]) ∧ QD.Val L s ∧ ∀ H' p, Same H H' → StAt K H' CS p (QD.swS L s) → Q (.ref p) H'
abbrev N_state_after : List Str := ["state", "swap", "step"]
abbrev P_state_after : List Str := ["state", "swap", "step"]
theorem sc_state_after : FnScope N_state_after P_state_after (defScope s_state_after) := ⟨rfl, rfl, rfl, by decide +kernel, rfl, by decide +kernel, by decide +kernel⟩
theorem ok_state_after (F : F_state_after K f fd) (T : Txt K mg CS CR CU) (c_is_swap : Cal P w K mg base "is_swap" 3 P_is_swap (sp_is_swap K CS)) (c_is_silent : Cal P w K mg base "is_silent" 5 P_is_silent (sp_is_silent K CS))
    (c_swapped_state : Cal P w K mg base "swapped_state" 6 P_swapped_state (sp_swapped_state K CS)) : FnOk P w K mg base CX0 7 f fd P_state_after (sp_state_after K CS) := by
  refine FunD.ok F sc_state_after (fun vs H Q E h => ?_) (fun cdv A outer s H vs Q E hr h => ?_)
  · obtain ⟨a, t, n, L, s, rfl, _⟩ := h
    rfl
  · obtain ⟨a, t, n, L, st, rfl, h1, ht, v, k⟩ := h
    have nd := sc_state_after.nd
    refine ⟨_, PSs.nox ((pss_cons (ps_if (pt_not (pt_val (pe_cal c_is_swap (hr.mono (by decide)) (pa_cons (pv 0) (pa_cons (pv 1) pa_nil)))))
    (pss_one ps_never)
    pss_nil)
  (pss_cons (ps_if (pt_not (pt_val (pe_cal c_is_silent (hr.mono (by decide)) (pa_cons (pv 0) (pa_cons (pv 1) pa_nil)))))
    (pss_one ps_never)
    pss_nil)
  (pss_one (ps_ret (pe_cal c_swapped_state (hr.mono (by decide)) (pa_cons (pv 0) (pa_cons (pv 1) pa_nil)))))))), ?_⟩
    have sw : SwAt H t L st.1 st.2 := ⟨ht, v.w, v.i⟩
    refine ⟨_, rfl, _, rfl, a, t, L, st.1, st.2, rfl, h1, sw, _, rfl, iteF ?_⟩
    refine ⟨_, rfl, _, rfl, a, t, L, st.1, st.2, rfl, h1, sw, fun H1 s1 => ⟨_, rfl, ?_⟩⟩
    rw [v.q]
    refine iteF ?_
    exact ⟨_, rfl, _, rfl, a, t, L, st.1, st.2, rfl, h1.mono s1, sw.mono s1, fun H2 p s2 st2 => k _ p (s1.trans s2) st2⟩
def sp_play (K : PySem.W.Frag) (CS CU : Addr) : Sp := fun vs H Q _ => ∃ (a b : Addr) (L : QD.LS) (ss : List (Nat × Nat)), vs = [.ref a, .ref b] ∧ StAt K H CS a L ∧ RuAt K H CU b ss ∧ QD.Path L ss ∧ ∀ H' p, Same H H' → StAt K H' CS p (QD.runS L ss) → Q (.ref p) H'
abbrev N_play : List Str := ["state", "run", "here", "step", "swap"]
abbrev P_play : List Str := ["state", "run"]
theorem sc_play : FnScope N_play P_play (defScope s_play) := ⟨rfl, rfl, rfl, by decide +kernel, rfl, by decide +kernel, by decide +kernel⟩
theorem ok_play (F : F_play K f fd) (T : Txt K mg CS CR CU) (m_Run_steps : Met P w K mg base CU "steps" 1 P_Run_steps (sp_Run_steps K CU)) (c_state_after : Cal P w K mg base "_state_after" 7 P_state_after (sp_state_after K CS)) :
    FnOk P w K mg base CX0 8 f fd P_play (sp_play K CS CU) := by
  refine FunD.ok F sc_play (fun vs H Q E h => ?_) (fun cdv A outer s H vs Q E hr h => ?_)
  · obtain ⟨a, b, L, ss, rfl, _⟩ := h
    rfl
  · obtain ⟨a, b, L, ss, rfl, h1, h2, pt, k⟩ := h
    have nd := sc_play.nd
    refine ⟨_, PSs.nox ((pss_cons (ps_set (i := 2) nd rfl (Or.inl rfl) (pv 0))
  (pss_cons (ps_for PassesOwn.never rfl (ki_enum (K := K) (by rfl) T.enumerate (pa_cons (pe_met0 m_Run_steps T.cRun (hr.mono (by decide)) (pv 1)) pa_nil)) (kg_tup (K := K) (n := 2) rfl (pgs_cons (pg_name (i := 3) nd rfl (Or.inl rfl)) (pgs_cons (pg_name (i := 4) nd rfl (Or.inl rfl)) pgs_nil)))
    (pss_one (ps_set (i := 2) nd rfl (Or.inl rfl) (pe_cal c_state_after (hr.mono (by decide)) (pa_cons (pv 2) (pa_cons (pv 4) (pa_cons (pv 3) pa_nil)))))))
  (pss_one (ps_ret (pv 2)))))), ?_⟩
    obtain ⟨dx, l, hb, _⟩ := h2.ex
    refine ⟨_, rfl, _, rfl, b, dx, _, rfl, hb, uf_no (by decide +kernel), b, ss, rfl, h2, fun H1 p s1 tl => ?_⟩
    obtain ⟨ts, hts, tlen, tat⟩ := tl.ex
    refine ⟨p, _, rfl, hts, for_it (walk_enum (K := K) (a := p) (xs := ts.map V.ref)) (fun i σ H2 => ∃ c v v', σ = [some (.ref a), some (.ref b), some (.ref c), v, v'] ∧ Same H1 H2 ∧ StAt K H2 CS c (QD.runS L (ss.take i))) ⟨a, none, none, rfl, Same.refl _, h1.mono s1⟩ (fun i σ H2 _ ⟨_, _, _, _, s2, _⟩ => Same.seq s2 hts) ?_ ?_⟩
    · rintro i x0 σ H2 H3 hi ⟨c, v, v', rfl, s2, st⟩ ⟨t, x1, x2, rfl, ht, rfl, e1, e2⟩
      cases e1
      have e2 : (ts.map V.ref)[i]? = some x2 := e2
      rw [List.getElem?_map] at e2
      have hit : i < ts.length := by rw [List.length_map] at hi; exact hi
      rw [List.getElem?_eq_getElem hit] at e2
      cases e2
      have hq : ss[i]? = some (ss[i]'(by omega)) := List.getElem?_eq_getElem (by omega)
      have hts2 := tat i _ _ (List.getElem?_eq_getElem hit) hq
      have v := QD.Path.at_ pt hq
      have sN := Same.new (o := .tup [.int (i : Nat), .ref ts[i]]) ht
      refine ⟨t, _, rfl, SqT.of upd_same, rfl, _, _, rfl, _, _, rfl, rfl, ?_⟩
      refine ⟨_, rfl, _, rfl, _, rfl, c, _, i, _, _, rfl, st.mono sN, (s2.trans sN) _ _ hts2, v, fun H4 p2 s4 st4 => ?_⟩
      refine ⟨p2, _, _, rfl, (s2.trans sN).trans s4, ?_⟩
      rw [take_succ_at hq, QD.runS_snoc]
      exact st4
    · rintro σ H2 ⟨c, v, v', rfl, s2, st⟩
      rw [List.length_map, tlen, List.take_length] at st
      exact ⟨_, rfl, k _ c (s1.trans s2) st⟩
end
end Qd

set_option Elab.async false
set_option linter.all false
set_option maxRecDepth 100000
set_option maxHeartbeats 4000000
/-! settling.py. -/
namespace QD
/-- the pairs among the first j places -/
def rowN (R : Rd) (l : List Int) (w j : Nat) : List (Nat × Nat) := ((List.range j).filter fun i => R (l.getD (i + 1) 0) (l.getD i 0)).map fun i => (w, i)
theorem rowN_snoc (R : Rd) (l : List Int) (w j : Nat) : rowN R l w (j + 1) = if R (l.getD (j + 1) 0) (l.getD j 0) = true then rowN R l w j ++ [(w, j)] else rowN R l w j := by
  unfold rowN
  rw [List.range_succ, List.filter_append, List.map_append]
  by_cases e : R (l.getD (j + 1) 0) (l.getD j 0) = true
  · rw [if_pos e, List.filter_cons_of_pos (by exact e)]
    rfl
  · rw [if_neg e, List.filter_cons_of_neg (by exact e)]
    exact List.append_nil _
theorem near_snoc {R : Rd} {L : LS} {nn : List Nat} {i n : Nat} (h : nn[i]? = some n) : nearL R L (nn.take (i + 1)) = nearL R L (nn.take i) ++ rowN R (L n) n ((L n).length - 1) := by
  unfold nearL rowN nearI
  rw [List.take_succ, h]
  show List.flatMap _ (_ ++ [n]) = _
  rw [List.flatMap_append, List.flatMap_cons, List.flatMap_nil, List.append_nil]
theorem rowN_len (R : Rd) (l : List Int) (w j : Nat) : (rowN R l w j).length ≤ j := by
  unfold rowN
  rw [List.length_map]
  have := List.length_filter_le (fun i => R (l.getD (i + 1) 0) (l.getD i 0)) (List.range j)
  rw [List.length_range] at this
  exact this
theorem near_len {R : Rd} {L : LS} (h : ∀ w, w < 3 → (L w).length ≤ 10) : ∀ {nn : List Nat}, (∀ n ∈ nn, n < 3) → (nearL R L nn).length ≤ nn.length * 10
  | [], _ => by unfold nearL; simp
  | n :: t, q => by
    have ih := near_len (R := R) h (nn := t) fun m hm => q m (List.mem_cons_of_mem _ hm)
    have e : nearL R L (n :: t) = rowN R (L n) n ((L n).length - 1) ++ nearL R L t := by
      unfold nearL rowN nearI
      rw [List.flatMap_cons]
    rw [e, List.length_append, List.length_cons]
    have := rowN_len R (L n) n ((L n).length - 1)
    have := h n (q n List.mem_cons_self)
    omega
end QD
namespace Qd
open PySem PySem.Spec PyProof.Rows L2
section
variable {P : Program} {w : World} {K : PySem.W.Frag} {mg : Str → Option Value} {base : Heap} {CS CR CU f : Addr} {fd : FuncData}
def nP (q : Nat × Nat) : Int × Int := ((q.1 : Int), (q.2 : Int))
theorem TLs.of {H : Hp} {a : Addr} {ss : List (Nat × Nat)} (h : PLs K H a (ss.map nP)) : TLs K H a ss := by
  obtain ⟨ts, h1, h2, h3⟩ := h.ex
  refine ⟨ts, h1, by rw [h2, List.length_map], fun i t q e1 e2 => ?_⟩
  exact h3 i t (nP q) e1 (by rw [List.getElem?_map, e2]; rfl)
theorem PvP.same {H0 H H1 : Hp} {D : Addr} {prs : List (Int × Int)} (h : PvP H0 D prs H) (s : Same H H1) : PvP H0 D prs H1 := by
  obtain ⟨ts, h1, h2, h3⟩ := h.ex
  exact ⟨h.s.trans s, ts, s _ _ h1, h2, fun i t q e1 e2 => ⟨(h3 i t q e1 e2).1, s _ _ (h3 i t q e1 e2).2⟩⟩
/-! ### _homeward_swaps -/
theorem natOf {nn : List Nat} {i : Nat} {x : V} (h : (iV (nn.map Int.ofNat))[i]? = some x) : ∃ n : Nat, nn[i]? = some n ∧ x = .int (n : Int) := by
  obtain ⟨z, hz, rfl⟩ := iV_of h
  rw [List.getElem?_map] at hz
  cases e : nn[i]? with
  | none => rw [e] at hz; cases hz
  | some n => rw [e] at hz; exact ⟨n, rfl, by rw [← Option.some.inj hz]; rfl⟩
structure HwsIn (K : PySem.W.Frag) (H : Hp) (d o r : Addr) (R : QD.Rd) (M : QD.LS) (nn : List Nat) : Prop where
  d : ∃ ks prs, H d = some (.dT (prT prs)) ∧ Prs ks R prs ∧ ∀ w, w < 3 → ∀ x ∈ M w, x ∈ ks
  o : LLs K H o M
  r : SqI K H r (nn.map Int.ofNat) ∨ SqT K H r (iV (nn.map Int.ofNat))
  lt : ∀ n ∈ nn, n < 3
  few : nn.length ≤ 3
  len : ∀ w, w < 3 → (M w).length ≤ 10
theorem isS {R : QD.Rd} {ks : List Int} {prs : List (Int × Int)} (h : Prs ks R prs) {x y : Int} (hx : x ∈ ks) (hy : y ∈ ks) : (if (x, y) ∈ prs then some (V.bl true) else none).isSome = R x y := by
  by_cases m : (x, y) ∈ prs
  · rw [if_pos m, ((h.iff x y).mp m).2.2]
    rfl
  · rw [if_neg m]
    cases e : R x y with
    | false => rfl
    | true => exact absurd ((h.iff x y).mpr ⟨hx, hy, e⟩) m
def sp_hws (K : PySem.W.Frag) : Sp := fun vs H Q _ => ∃ (d o r : Addr) (R : QD.Rd) (M : QD.LS) (nn : List Nat), vs = [.ref d, .ref o, .ref r] ∧ HwsIn K H d o r R M nn ∧ ∀ H' p, Same H H' → TLs K H' p (QD.nearL R M nn) → Q (.ref p) H'
abbrev N_homeward_swaps : List Str := ["before", "orders", "replicas", "swaps", "replica", "order", "index"]
abbrev P_homeward_swaps : List Str := ["before", "orders", "replicas"]
theorem sc_homeward_swaps : FnScope N_homeward_swaps P_homeward_swaps (defScope s_homeward_swaps) := ⟨rfl, rfl, rfl, by decide +kernel, rfl, by decide +kernel, by decide +kernel⟩
theorem ok_homeward_swaps (F : F_homeward_swaps K f fd) (T : Txt K mg CS CR CU) : FnOk P w K mg base CX0 1 f fd P_homeward_swaps (sp_hws K) := by
  refine FunD.ok F sc_homeward_swaps (fun vs H Q E h => ?_) (fun cdv A outer s H vs Q E hr h => ?_)
  · obtain ⟨d, o, r, R, M, nn, rfl, _⟩ := h
    rfl
  · obtain ⟨d, o, r, R, M, nn, rfl, hin, k⟩ := h
    have nd := sc_homeward_swaps.nd
    have hu := hu_of hr
    obtain ⟨ks, prs, hd, hP, hK⟩ := hin.d
    obtain ⟨B, hB, hBw, hBi⟩ := hin.o.at_
    rcases id hin.r with h1 | h1
    · refine ⟨_, PSs.nox ((pss_cons (ps_set (i := 3) nd rfl (Or.inl rfl) (pe_lst pa_nil))
  (pss_cons (ps_for PassesOwn.never rfl (ki_list (K := K) (pv 2)) (pg_name (i := 4) nd rfl (Or.inl rfl))
    (pss_cons (ps_set (i := 5) nd rfl (Or.inl rfl) (pe_ix (k_ixL (K := K)) (pv 1) (pv 4) (fun _ _ => rfl)))
  (pss_one (ps_for PassesOwn.never rfl (pi_range1 (by rfl) T.range (pa_cons (pe_op op_sub (pe_callB (k_len (K := K)) (by rfl) T.len bt_len (pa_cons (pv 5) pa_nil)) pe_int) pa_nil)) (pg_name (i := 6) nd rfl (Or.inl rfl))
    (pss_one (ps_if (pt_cmp (pc_din hu (pe_tup (pa_cons (pe_ix (k_ixL (K := K)) (pv 5) (pe_op op_add (pv 6) pe_int) (fun _ _ => rfl)) (pa_cons (pe_ix (k_ixL (K := K)) (pv 5) (pv 6) (fun _ _ => rfl)) pa_nil))) (pv 0)))
    (pss_one (ps_expr (k_bm (K := K) PySem.F.plainAttrs_list PySem.F.slot_list_append PySem.F.type_list_append mt_append (pv 3) (pa_cons (pe_tup (pa_cons (pv 4) (pa_cons (pv 6) pa_nil))) pa_nil))))
    pss_nil))))))
  (pss_one (ps_ret (pv 3)))))), ?_⟩
      refine ⟨by show 0 ≤ sizeLine; decide, fun S hS => ?_⟩
      refine ⟨_, rfl, r, rfl, ⟨_, Same.seq (Same.new hS) h1⟩, for_it (walk_list (K := K) (a := r) (xs := iV (nn.map Int.ofNat))) (fun i σ H1 => ∃ v4 v5 v6, σ = [some (.ref d), some (.ref o), some (.ref r), some (.ref S), v4, v5, v6] ∧ PvP H S ((QD.nearL R M (nn.take i)).map nP) H1) ⟨none, none, none, rfl, PvP.zero hS⟩ (fun i σ H1 _ ⟨_, _, _, _, q⟩ => Same.seq q.s h1) ?_ ?_⟩
      · rintro i x0 σ H1 H2 hi ⟨v4, v5, v6, rfl, q⟩ ⟨rfl, e2⟩
        obtain ⟨n, hn, rfl⟩ := natOf e2
        have hn3 := hin.lt n (List.mem_of_getElem? hn)
        have ln := hin.len n hn3
        refine ⟨_, rfl, _, rfl, o, _, _, _, rfl, rfl, Same.seq q.s hB, three_at hn3, ?_⟩
        refine ⟨_, rfl, B n, _, rfl, .inl (Same.seq q.s (hBw n hn3)), _, _, rfl, rfl, _, rfl, by rw [iV_len]; omega, by rw [iV_len]; omega, ?_⟩
        refine for_range (lo := 0) (n := (((iV (M n)).length : Int) - 1).toNat) (fun j σ H3 => ∃ v, σ = [some (.ref d), some (.ref o), some (.ref r), some (.ref S), some (.int n), some (.ref (B n)), v] ∧ PvP H S ((QD.nearL R M (nn.take i) ++ QD.rowN R (M n) n j).map nP) H3) ⟨v6, rfl, ?_⟩ ?_ ?_
        · rw [show QD.nearL R M (nn.take i) ++ QD.rowN R (M n) n 0 = QD.nearL R M (nn.take i) from List.append_nil _]
          exact q
        · rintro j σ H3 hj ⟨v, rfl, q3⟩
          have e0 : (0 + (j : Int)) = j := Int.zero_add _
          rw [e0]
          rw [iV_len] at hj
          have hj1 : j + 1 < (M n).length := by omega
          obtain ⟨y, hy, hy'⟩ : ∃ y, (M n)[j]? = some y ∧ (M n).getD j 0 = y := ⟨_, QD.getD_at (by omega), rfl⟩
          obtain ⟨x, hx, hx'⟩ : ∃ x, (M n)[j + 1]? = some x ∧ (M n).getD (j + 1) 0 = x := ⟨_, QD.getD_at hj1, rfl⟩
          have sM := Same.seq q3.s (hBw n hn3)
          refine ⟨_, rfl, _, rfl, _, _, rfl, rfl, B n, _, _, _, rfl, rfl, sM, at_of (j := j + 1) rfl (iV_at hx), _, rfl, _, rfl, B n, _, _, _, rfl, rfl, sM, at_of (j := j) rfl (iV_at hy), le2, fun t ht => ?_⟩
          refine ⟨_, rfl, d, _, rfl, dgetT (q3.s _ _ hd) ht, ?_⟩
          rw [isS hP (hK n hn3 x (List.mem_of_getElem? hx)) (hK n hn3 y (List.mem_of_getElem? hy))]
          have q4 := q3.same (Same.new (o := .tup [.int x, .int y]) ht)
          refine ⟨_, rfl, ?_⟩
          cases eb : R x y with
          | true =>
            refine iteT ?_
            obtain ⟨ts, hts, _, _⟩ := q4.ex
            refine ⟨_, rfl, .inl ⟨rfl, _, SqL.of hts⟩, _, rfl, _, rfl, le2, fun t2 ht2 => ?_⟩
            obtain ⟨acc, g1, g2, g3⟩ := q4.step hS (.refl _) ht2 (by
              rw [List.length_map, List.length_append]
              have := QD.rowN_len R (M n) n j
              have h1 : (QD.nearL R M (nn.take i)).length ≤ (nn.take i).length * 10 := QD.near_len hin.len fun m hm => hin.lt m (List.mem_of_mem_take hm)
              rw [List.length_take] at h1
              have := hin.few
              omega)
            refine ⟨S, acc, _, rfl, rfl, g1, g2, _, rfl, ?_⟩
            rw [QD.rowN_snoc, hx', hy', eb, if_pos rfl, ← List.append_assoc, List.map_append]
            exact g3
          | false =>
            refine iteF ⟨_, rfl, ?_⟩
            rw [QD.rowN_snoc, hx', hy', eb, if_neg Bool.false_ne_true]
            exact q4
        · rintro σ H3 ⟨v, rfl, q3⟩
          have e1 : (((iV (M n)).length : Int) - 1).toNat = (M n).length - 1 := by rw [iV_len]; omega
          rw [e1, ← QD.near_snoc hn] at q3
          exact ⟨_, _, _, rfl, q3⟩
      · rintro σ H1 ⟨v4, v5, v6, rfl, q⟩
        have e1 : (iV (nn.map Int.ofNat)).length = nn.length := by rw [iV_len, List.length_map]
        rw [e1, List.take_length] at q
        exact ⟨_, rfl, k _ S q.s (TLs.of q.pls)⟩
    · refine ⟨_, PSs.nox ((pss_cons (ps_set (i := 3) nd rfl (Or.inl rfl) (pe_lst pa_nil))
  (pss_cons (ps_for PassesOwn.never rfl (ki_tup (K := K) (pv 2)) (pg_name (i := 4) nd rfl (Or.inl rfl))
    (pss_cons (ps_set (i := 5) nd rfl (Or.inl rfl) (pe_ix (k_ixL (K := K)) (pv 1) (pv 4) (fun _ _ => rfl)))
  (pss_one (ps_for PassesOwn.never rfl (pi_range1 (by rfl) T.range (pa_cons (pe_op op_sub (pe_callB (k_len (K := K)) (by rfl) T.len bt_len (pa_cons (pv 5) pa_nil)) pe_int) pa_nil)) (pg_name (i := 6) nd rfl (Or.inl rfl))
    (pss_one (ps_if (pt_cmp (pc_din hu (pe_tup (pa_cons (pe_ix (k_ixL (K := K)) (pv 5) (pe_op op_add (pv 6) pe_int) (fun _ _ => rfl)) (pa_cons (pe_ix (k_ixL (K := K)) (pv 5) (pv 6) (fun _ _ => rfl)) pa_nil))) (pv 0)))
    (pss_one (ps_expr (k_bm (K := K) PySem.F.plainAttrs_list PySem.F.slot_list_append PySem.F.type_list_append mt_append (pv 3) (pa_cons (pe_tup (pa_cons (pv 4) (pa_cons (pv 6) pa_nil))) pa_nil))))
    pss_nil))))))
  (pss_one (ps_ret (pv 3)))))), ?_⟩
      refine ⟨by show 0 ≤ sizeLine; decide, fun S hS => ?_⟩
      refine ⟨_, rfl, r, rfl, ⟨_, Same.tup (Same.new hS) h1⟩, for_it (walk_tup (K := K) (a := r) (xs := iV (nn.map Int.ofNat))) (fun i σ H1 => ∃ v4 v5 v6, σ = [some (.ref d), some (.ref o), some (.ref r), some (.ref S), v4, v5, v6] ∧ PvP H S ((QD.nearL R M (nn.take i)).map nP) H1) ⟨none, none, none, rfl, PvP.zero hS⟩ (fun i σ H1 _ ⟨_, _, _, _, q⟩ => Same.tup q.s h1) ?_ ?_⟩
      · rintro i x0 σ H1 H2 hi ⟨v4, v5, v6, rfl, q⟩ ⟨rfl, e2⟩
        obtain ⟨n, hn, rfl⟩ := natOf e2
        have hn3 := hin.lt n (List.mem_of_getElem? hn)
        have ln := hin.len n hn3
        refine ⟨_, rfl, _, rfl, o, _, _, _, rfl, rfl, Same.seq q.s hB, three_at hn3, ?_⟩
        refine ⟨_, rfl, B n, _, rfl, .inl (Same.seq q.s (hBw n hn3)), _, _, rfl, rfl, _, rfl, by rw [iV_len]; omega, by rw [iV_len]; omega, ?_⟩
        refine for_range (lo := 0) (n := (((iV (M n)).length : Int) - 1).toNat) (fun j σ H3 => ∃ v, σ = [some (.ref d), some (.ref o), some (.ref r), some (.ref S), some (.int n), some (.ref (B n)), v] ∧ PvP H S ((QD.nearL R M (nn.take i) ++ QD.rowN R (M n) n j).map nP) H3) ⟨v6, rfl, ?_⟩ ?_ ?_
        · rw [show QD.nearL R M (nn.take i) ++ QD.rowN R (M n) n 0 = QD.nearL R M (nn.take i) from List.append_nil _]
          exact q
        · rintro j σ H3 hj ⟨v, rfl, q3⟩
          have e0 : (0 + (j : Int)) = j := Int.zero_add _
          rw [e0]
          rw [iV_len] at hj
          have hj1 : j + 1 < (M n).length := by omega
          obtain ⟨y, hy, hy'⟩ : ∃ y, (M n)[j]? = some y ∧ (M n).getD j 0 = y := ⟨_, QD.getD_at (by omega), rfl⟩
          obtain ⟨x, hx, hx'⟩ : ∃ x, (M n)[j + 1]? = some x ∧ (M n).getD (j + 1) 0 = x := ⟨_, QD.getD_at hj1, rfl⟩
          have sM := Same.seq q3.s (hBw n hn3)
          refine ⟨_, rfl, _, rfl, _, _, rfl, rfl, B n, _, _, _, rfl, rfl, sM, at_of (j := j + 1) rfl (iV_at hx), _, rfl, _, rfl, B n, _, _, _, rfl, rfl, sM, at_of (j := j) rfl (iV_at hy), le2, fun t ht => ?_⟩
          refine ⟨_, rfl, d, _, rfl, dgetT (q3.s _ _ hd) ht, ?_⟩
          rw [isS hP (hK n hn3 x (List.mem_of_getElem? hx)) (hK n hn3 y (List.mem_of_getElem? hy))]
          have q4 := q3.same (Same.new (o := .tup [.int x, .int y]) ht)
          refine ⟨_, rfl, ?_⟩
          cases eb : R x y with
          | true =>
            refine iteT ?_
            obtain ⟨ts, hts, _, _⟩ := q4.ex
            refine ⟨_, rfl, .inl ⟨rfl, _, SqL.of hts⟩, _, rfl, _, rfl, le2, fun t2 ht2 => ?_⟩
            obtain ⟨acc, g1, g2, g3⟩ := q4.step hS (.refl _) ht2 (by
              rw [List.length_map, List.length_append]
              have := QD.rowN_len R (M n) n j
              have h1 : (QD.nearL R M (nn.take i)).length ≤ (nn.take i).length * 10 := QD.near_len hin.len fun m hm => hin.lt m (List.mem_of_mem_take hm)
              rw [List.length_take] at h1
              have := hin.few
              omega)
            refine ⟨S, acc, _, rfl, rfl, g1, g2, _, rfl, ?_⟩
            rw [QD.rowN_snoc, hx', hy', eb, if_pos rfl, ← List.append_assoc, List.map_append]
            exact g3
          | false =>
            refine iteF ⟨_, rfl, ?_⟩
            rw [QD.rowN_snoc, hx', hy', eb, if_neg Bool.false_ne_true]
            exact q4
        · rintro σ H3 ⟨v, rfl, q3⟩
          have e1 : (((iV (M n)).length : Int) - 1).toNat = (M n).length - 1 := by rw [iV_len]; omega
          rw [e1, ← QD.near_snoc hn] at q3
          exact ⟨_, _, _, rfl, q3⟩
      · rintro σ H1 ⟨v4, v5, v6, rfl, q⟩
        have e1 : (iV (nn.map Int.ofNat)).length = nn.length := by rw [iV_len, List.length_map]
        rw [e1, List.take_length] at q
        exact ⟨_, rfl, k _ S q.s (TLs.of q.pls)⟩
end
end Qd

set_option Elab.async false
set_option linter.all false
set_option maxRecDepth 100000
set_option maxHeartbeats 4000000
/-! settling.py, second part. -/
namespace Qd
open PySem PySem.Spec PyProof.Rows L2
def selN (nn : List Nat) : List Nat := ([0, 1, 2] : List Nat).filter fun r => nn.contains r
theorem sel_nat (nn : List Nat) : sel (nn.map Int.ofNat) = (selN nn).map Int.ofNat := by
  have e : ∀ r : Nat, (nn.map Int.ofNat).contains (r : Int) = nn.contains r := fun r => by
    rw [Bool.eq_iff_iff, List.contains_iff_mem, List.contains_iff_mem, List.mem_map]
    exact ⟨fun ⟨z, hz, e⟩ => by rw [← Int.ofNat.inj e]; exact hz, fun h => ⟨r, h, rfl⟩⟩
  have e0 := e 0
  have e1 := e 1
  have e2 := e 2
  unfold sel selN
  have h : (fun r : Int => (nn.map Int.ofNat).contains r) = fun r => (nn.map Int.ofNat).contains r := rfl
  rw [List.filter_cons, List.filter_cons, List.filter_cons, List.filter_cons, List.filter_cons, List.filter_cons]
  have e0' : (nn.map Int.ofNat).contains (0 : Int) = nn.contains 0 := e0
  have e1' : (nn.map Int.ofNat).contains (1 : Int) = nn.contains 1 := e1
  have e2' : (nn.map Int.ofNat).contains (2 : Int) = nn.contains 2 := e2
  rw [e0', e1', e2']
  cases nn.contains 0 <;> cases nn.contains 1 <;> cases nn.contains 2 <;> rfl
theorem mem_selN {nn : List Nat} {w : Nat} (hw : w < 3) : w ∈ selN nn ↔ w ∈ nn := by
  unfold selN
  rw [List.mem_filter, List.contains_iff_mem]
  refine ⟨fun h => h.2, fun h => ⟨?_, h⟩⟩
  match w, hw with
  | 0, _ => simp
  | 1, _ => simp
  | 2, _ => simp
theorem selN_lt {nn : List Nat} : ∀ n ∈ selN nn, n < 3 := fun n h => by
  have := (List.mem_filter.mp h).1
  simp at this
  omega
theorem selN_few (nn : List Nat) : (selN nn).length ≤ 3 := List.length_filter_le _ _
theorem selN_nd (nn : List Nat) : (selN nn).Nodup := (show ([0, 1, 2] : List Nat).Nodup by decide).filter _
section
variable {P : Program} {w : World} {K : PySem.W.Frag} {mg : Str → Option Value} {base : Heap} {CS CR CU f : Addr} {fd : FuncData}
theorem hws_in {H : Hp} {d o r : Addr} {L M : QD.LS} {nn : List Nat} {prs : List (Int × Int)} (h : QD.StOk L) (st : QD.Stay L M) (hd : H d = some (.dT (prT prs))) (hP : Prs (L 0) (QD.rd L) prs) (ho : LLs K H o M)
    (hr : SqI K H r (nn.map Int.ofNat) ∨ SqT K H r (iV (nn.map Int.ofNat))) (lt : ∀ n ∈ nn, n < 3) (few : nn.length ≤ 3) : HwsIn K H d o r (QD.rd L) M nn :=
  ⟨⟨L 0, prs, hd, hP, fun w hw x hx => st.k0.mem_iff.mp ((st.ok.mem hw).mp hx)⟩, ho, hr, lt, few, fun w hw => (st.ok.kok hw).len⟩
/-! ### homeward -/
def sp_homeward (K : PySem.W.Frag) (CS : Addr) : Sp := fun vs H Q _ => ∃ (a : Addr) (L : QD.LS), vs = [.ref a] ∧ StAt K H CS a L ∧ ∀ H' p, Same H H' → TLs K H' p (QD.nearL (QD.rd L) L [0, 1, 2]) → Q (.ref p) H'
abbrev N_homeward : List Str := ["state", "before"]
abbrev P_homeward : List Str := ["state"]
theorem sc_homeward : FnScope N_homeward P_homeward (defScope s_homeward) := ⟨rfl, rfl, rfl, by decide +kernel, rfl, by decide +kernel, by decide +kernel⟩
theorem ok_homeward (F : F_homeward K f fd) (T : Txt K mg CS CR CU) (c_before_dict : Cal P w K mg base "before_dict" 2 P_before_dict (sp_before_dict CR)) (c_read : Cal P w K mg base "read" 5 P_read (sp_read K CS CR))
    (c_homeward_swaps : Cal P w K mg base "_homeward_swaps" 1 P_homeward_swaps (sp_hws K)) (m_State_lists : Met P w K mg base CS "lists" 1 P_State_lists (sp_lists K CS)) : FnOk P w K mg base CX0 6 f fd P_homeward (sp_homeward K CS) := by
  refine FunD.ok F sc_homeward (fun vs H Q E h => ?_) (fun cdv A outer s H vs Q E hr h => ?_)
  · obtain ⟨a, L, rfl, _⟩ := h
    rfl
  · obtain ⟨a, L, rfl, h1, k⟩ := h
    have nd := sc_homeward.nd
    refine ⟨_, PSs.nox ((pss_cons (ps_set (i := 1) nd rfl (Or.inl rfl) (pe_cal c_before_dict (hr.mono (by decide)) (pa_cons (pe_cal c_read (hr.mono (by decide)) (pa_cons (pv 0) pa_nil)) pa_nil)))
  (pss_one (ps_ret (pe_cal c_homeward_swaps (hr.mono (by decide)) (pa_cons (pv 1) (pa_cons (pe_met0 m_State_lists T.cState (hr.mono (by decide)) (pv 0)) (pa_cons (pe_listRg rfl (by rfl) T.list (prg_1 (by rfl) T.range (k_cval (K := K) (pe_glob (v := .ref CS) rfl T.gState rfl)))) pa_nil)))))))), ?_⟩
    obtain ⟨u, hu3⟩ := T.reps
    obtain ⟨dx, l0, p0, ha, _⟩ := h1.ex
    refine ⟨_, rfl, a, L, rfl, h1, fun H1 r s1 re => ?_⟩
    refine ⟨r, L 0, QD.rd L, rfl, re, fun H2 d prs s2 hd0 hd hP => ?_⟩
    have sA := s1.trans s2
    refine ⟨_, rfl, _, rfl, a, dx, _, rfl, sA _ _ ha, sf_no (by decide +kernel) (by decide +kernel), a, L, rfl, h1.mono sA, fun H3 o B s3 fl => ?_⟩
    refine ⟨CS, _, _, u, rfl, T.rdS, hu3, 3, rfl, .of_le (by decide) (by decide) (by decide) (by decide), fun q hq => ?_⟩
    have sq := Same.new (o := .lst (rgV 0 3)) hq
    refine ⟨d, o, q, QD.rd L, L, [0, 1, 2], rfl, hws_in h1.ok (.refl h1.ok) (sq _ _ (s3 _ _ hd)) hP (fl.lls.mono sq) (.inl (SqL.of upd_same)) (by decide) (by decide), fun H4 p s4 tl => ?_⟩
    exact k _ p (((sA.trans s3).trans sq).trans s4) tl
/-! ### is_settled -/
def sp_is_settled (K : PySem.W.Frag) (CS : Addr) : Sp := fun vs H Q _ => ∃ (a : Addr) (L : QD.LS), vs = [.ref a] ∧ StAt K H CS a L ∧ ∀ H', Same H H' → Q (.bl (decide (QD.nearL (QD.rd L) L [0, 1, 2] = []))) H'
abbrev N_is_settled : List Str := ["state"]
abbrev P_is_settled : List Str := ["state"]
theorem sc_is_settled : FnScope N_is_settled P_is_settled (defScope s_is_settled) := ⟨rfl, rfl, rfl, by decide +kernel, rfl, by decide +kernel, by decide +kernel⟩
theorem ok_is_settled (F : F_is_settled K f fd) (T : Txt K mg CS CR CU) (c_homeward : Cal P w K mg base "homeward" 6 P_homeward (sp_homeward K CS)) : FnOk P w K mg base CX0 7 f fd P_is_settled (sp_is_settled K CS) := by
  refine FunD.ok F sc_is_settled (fun vs H Q E h => ?_) (fun cdv A outer s H vs Q E hr h => ?_)
  · obtain ⟨a, L, rfl, _⟩ := h
    rfl
  · obtain ⟨a, L, rfl, h1, k⟩ := h
    have nd := sc_is_settled.nd
    refine ⟨_, PSs.nox ((pss_one (ps_ret (pe_cmpR op_eq (pe_callB (k_len (K := K)) (by rfl) T.len bt_len (pa_cons (pe_cal c_homeward (hr.mono (by decide)) (pa_cons (pv 0) pa_nil)) pa_nil)) pe_int (nomark _))))), ?_⟩
    refine ⟨_, rfl, a, L, rfl, h1, fun H1 p s1 tl => ?_⟩
    obtain ⟨ts, hts, tlen, _⟩ := tl.ex
    refine ⟨p, _, rfl, .inl hts, rfl, ?_⟩
    have e : decide (V.int ((ts.map V.ref).length : Nat) = V.int 0) = decide (QD.nearL (QD.rd L) L [0, 1, 2] = []) := by
      rw [List.length_map, tlen]
      refine decide_eq_decide.mpr ?_
      rw [← List.length_eq_zero_iff]
      exact ⟨fun h => by have := V.int.inj h; omega, fun h => by rw [h]; rfl⟩
    show Q (.bl (decide (V.int ((ts.map V.ref).length : Nat) = V.int 0))) H1
    rw [e]
    exact k _ s1
/-! ### settle_run -/
theorem PvP.lst {H0 H : Hp} {D b : Addr} {prs : List (Int × Int)} {xs ys : List V} (h : PvP H0 D prs H) (hb : H b = some (.lst xs)) (n : H0 b = none) (nD : b ≠ D) : PvP H0 D prs (upd H b (.lst ys)) := by
  obtain ⟨ts, h1, h2, h3⟩ := h.ex
  refine ⟨Same.put h.s n, ts, ?_, h2, fun i t q e1 e2 => ?_⟩
  · rw [upd_ne (Ne.symm nD)]
    exact h1
  · obtain ⟨n1, ht⟩ := h3 i t q e1 e2
    exact ⟨n1, by rw [upd_ne (ne_of ht hb (by intro z; cases z))]; exact ht⟩
theorem FOs.mono {H0 H H' : Hp} {D : Addr} {B : Nat → Addr} {ob : Nat → HO} (h : FOs H0 H D B ob) (s : Same H H') : FOs H0 H' D B ob :=
  ⟨h.nD, h.nB, s _ _ h.d, fun w hw => s _ _ (h.at_ w hw), h.dB, h.inj⟩
theorem FOs.put {H0 H : Hp} {D : Addr} {B : Nat → Addr} {M : QD.LS} (h : FLs H0 H D B M) {w : Nat} (hw : w < 3) (l : List Int) : FLs H0 (upd H (B w) (.lst (iV l))) D B (QD.setL M w l) := by
  refine ⟨h.nD, h.nB, ?_, fun j hj => ?_, h.dB, h.inj⟩
  · rw [upd_ne (Ne.symm (h.dB w hw))]
    exact h.d
  · by_cases e : j = w
    · subst e
      rw [upd_same]
      show _ = some (HO.lst (iV (QD.setL M j l j)))
      rw [QD.setL_same]
    · rw [upd_ne (fun q => e (h.inj j w hj hw q))]
      show _ = some (HO.lst (iV (QD.setL M w l j)))
      rw [QD.setL_ne _ _ e]
      exact h.at_ j hj
theorem FOs.off {H0 H : Hp} {D mk : Addr} {B : Nat → Addr} {ob : Nat → HO} {o : HO} (h : FOs H0 H D B ob) (n : mk ≠ D) (nB : ∀ w, w < 3 → mk ≠ B w) : FOs H0 (upd H mk o) D B ob :=
  ⟨h.nD, h.nB, by rw [upd_ne (Ne.symm n)]; exact h.d, fun w hw => by rw [upd_ne (Ne.symm (nB w hw))]; exact h.at_ w hw, h.dB, h.inj⟩
/-- in the loop of settle_run -/
structure SrAt (K : PySem.W.Frag) (H4 H : Hp) (O mk po : Addr) (B : Nat → Addr) (L : QD.LS) (nn : List Nat) (c : Nat) (M : QD.LS) (ss : List (Nat × Nat)) : Prop where
  p : QD.Part L nn c M
  fl : FLs H4 H O B M
  made : PvP H4 mk (ss.map nP) H
  nmk : H4 mk = none
  mO : mk ≠ O
  mB : ∀ w, w < 3 → mk ≠ B w
  len : ss.length = c
  po : TLs K H po (QD.nearL (QD.rd L) M nn)
def sp_settle_run (K : PySem.W.Frag) (CS CU : Addr) : Sp := fun vs H Q _ => ∃ (a r pk : Addr) (L : QD.LS) (nn : List Nat), vs = [.ref a, .ref r, .ref pk] ∧ StAt K H CS a L ∧ (SqI K H r (nn.map Int.ofNat) ∨ SqT K H r (iV (nn.map Int.ofNat))) ∧ (∀ n ∈ nn, n < 3) ∧
  (∀ H, SqT K H pk []) ∧ ∀ H' p ss M, Same H H' → RuAt K H' CU p ss → QD.Part L (selN nn) ss.length M → QD.SetTo L (selN nn) M → Q (.ref p) H'
abbrev N_settle_run : List Str := ["state", "replicas", "picks", "chosen", "before", "orders", "made", "possible", "step", "pick", "replica", "index", "order"]
abbrev P_settle_run : List Str := ["state", "replicas", "picks"]
theorem sc_settle_run : FnScope N_settle_run P_settle_run (defScope s_settle_run) := ⟨rfl, rfl, rfl, by decide +kernel, rfl, by decide +kernel, by decide +kernel⟩
theorem ok_settle_run (F : F_settle_run K f fd) (T : Txt K mg CS CR CU) (c_check_replicas : Cal P w K mg base "check_replicas" 2 P_check_replicas (sp_check_replicas K)) (c_before_dict : Cal P w K mg base "before_dict" 2 P_before_dict (sp_before_dict CR))
    (c_read : Cal P w K mg base "read" 5 P_read (sp_read K CS CR)) (c_homeward_swaps : Cal P w K mg base "_homeward_swaps" 1 P_homeward_swaps (sp_hws K)) (m_State_lists : Met P w K mg base CS "lists" 1 P_State_lists (sp_lists K CS))
    (c_Run : Mak P w K mg base "Run" CU 1 P_Run_init (sp_Run_init K CU)) : FnOk P w K mg base CX0 6 f fd P_settle_run (sp_settle_run K CS CU) := by
  refine FunD.ok F sc_settle_run (fun vs H Q E h => ?_) (fun cdv A outer s H vs Q E hr h => ?_)
  · obtain ⟨a, r, pk, L, nn, rfl, _⟩ := h
    rfl
  · obtain ⟨a, r, pk, L, nn, rfl, h1, hr0, lt, hpk, k⟩ := h
    have nd := sc_settle_run.nd
    refine ⟨_, PSs.nox ((pss_cons (ps_set (i := 3) nd rfl (Or.inl rfl) (pe_cal c_check_replicas (hr.mono (by decide)) (pa_cons (pv 1) pa_nil)))
  (pss_cons (ps_set (i := 4) nd rfl (Or.inl rfl) (pe_cal c_before_dict (hr.mono (by decide)) (pa_cons (pe_cal c_read (hr.mono (by decide)) (pa_cons (pv 0) pa_nil)) pa_nil)))
  (pss_cons (ps_set (i := 5) nd rfl (Or.inl rfl) (pe_met0 m_State_lists T.cState (hr.mono (by decide)) (pv 0)))
  (pss_cons (ps_set (i := 6) nd rfl (Or.inl rfl) (pe_lst pa_nil))
  (pss_cons (ps_set (i := 7) nd rfl (Or.inl rfl) (pe_cal c_homeward_swaps (hr.mono (by decide)) (pa_cons (pv 4) (pa_cons (pv 5) (pa_cons (pv 3) pa_nil)))))
  (pss_cons (ps_while PassesOwn.never (k_truth (K := K) (pv 7))
    (pss_cons (ps_set (i := 8) nd rfl (Or.inl rfl) (pe_callB (k_len (K := K)) (by rfl) T.len bt_len (pa_cons (pv 6) pa_nil)))
  (pss_cons (ps_set (i := 9) nd rfl (Or.inl rfl) pe_int)
  (pss_cons (ps_if (pt_cmpR op_lt (pv 8) (pe_callB (k_len (K := K)) (by rfl) T.len bt_len (pa_cons (pv 2) pa_nil)) (nomark _))
    pss_never
    pss_nil)
  (pss_cons (ps_asg (pe_ix (k_ixL (K := K)) (pv 7) (pv 9) (fun _ _ => rfl)) (kg_tup (K := K) (n := 2) rfl (pgs_cons (pg_name (i := 10) nd rfl (Or.inl rfl)) (pgs_cons (pg_name (i := 11) nd rfl (Or.inl rfl)) pgs_nil))))
  (pss_cons (ps_set (i := 12) nd rfl (Or.inl rfl) (pe_ix (k_ixL (K := K)) (pv 5) (pv 10) (fun _ _ => rfl)))
  (pss_cons (ps_asg (pe_tup (pa_cons (pe_ix (k_ixL (K := K)) (pv 12) (pe_op op_add (pv 11) pe_int) (fun _ _ => rfl)) (pa_cons (pe_ix (k_ixL (K := K)) (pv 12) (pv 11) (fun _ _ => rfl)) pa_nil))) (kg_tup (K := K) (n := 2) rfl (pgs_cons (pg_sub (pv 12) (pv 11) set_list) (pgs_cons (pg_sub (pv 12) (pe_op op_add (pv 11) pe_int) set_list) pgs_nil))))
  (pss_cons (ps_expr (k_bm (K := K) PySem.F.plainAttrs_list PySem.F.slot_list_append PySem.F.type_list_append mt_append (pv 6) (pa_cons (pe_tup (pa_cons (pv 10) (pa_cons (pv 11) pa_nil))) pa_nil)))
  (pss_one (ps_set (i := 7) nd rfl (Or.inl rfl) (pe_cal c_homeward_swaps (hr.mono (by decide)) (pa_cons (pv 4) (pa_cons (pv 5) (pa_cons (pv 3) pa_nil))))))))))))))
  (pss_one (ps_ret (pe_mak c_Run (hr.mono (by decide)) (pa_cons (pv 6) pa_nil))))))))))), ?_⟩
    obtain ⟨dx, l0, p0, ha, _⟩ := h1.ex
    refine ⟨_, rfl, r, nn, rfl, hr0, lt, fun H1 ch s1 hch0 hch => ?_⟩
    rw [sel_nat] at hch
    refine ⟨_, rfl, a, L, rfl, h1.mono s1, fun H2 rp s2 re => ?_⟩
    refine ⟨rp, L 0, QD.rd L, rfl, re, fun H3 d prs s3 hd0 hd hP => ?_⟩
    have sA := (s1.trans s2).trans s3
    refine ⟨_, rfl, a, dx, _, rfl, sA _ _ ha, sf_no (by decide +kernel) (by decide +kernel), a, L, rfl, h1.mono sA, fun H4 O B s4 fl => ?_⟩
    refine ⟨by show 0 ≤ sizeLine; decide, fun mk hmk => ?_⟩
    have hmk3 : H3 mk = none := s4.free hmk
    have pz : PvP H3 mk [] (upd H4 mk (.lst [])) := by
      refine ⟨Same.put s4 hmk3, [], upd_same, rfl, fun i t q h => by cases h⟩
    have mO : mk ≠ O := Ne.symm (ne_of_none fl.d hmk)
    have mB : ∀ w, w < 3 → mk ≠ B w := fun w hw => Ne.symm (ne_of_none (fl.at_ w hw) hmk)
    have sm := Same.new (o := .lst []) hmk
    have hch3 : H3 ch = some (.tup (iV ((selN nn).map Int.ofNat))) := s3 _ _ (s2 _ _ hch)
    refine ⟨_, rfl, _, rfl, _, rfl, d, O, ch, QD.rd L, L, selN nn, rfl, hws_in h1.ok (.refl h1.ok) (sm _ _ (s4 _ _ hd)) hP (fl.lls.mono sm) (.inr (SqT.of (sm _ _ (s4 _ _ hch3)))) selN_lt (selN_few _), fun H5 po s5 tl => ?_⟩
    have st0 : SrAt K H3 H5 O mk po B L (selN nn) 0 L [] := ⟨.zero _ _, (fl.mono sm).mono s5, pz.same s5, hmk3, mO, mB, rfl, tl⟩
    refine ⟨fun m σ H6 => ∃ c M ss po v8 v9 v10 v11 v12, σ = [some (.ref a), some (.ref r), some (.ref pk), some (.ref ch), some (.ref d), some (.ref O), some (.ref mk), some (.ref po), v8, v9, v10, v11, v12] ∧ m = QD.tot (QD.rd L) M ∧ SrAt K H3 H6 O mk po B L (selN nn) c M ss,
      ⟨_, 0, L, [], po, none, none, none, none, none, rfl, rfl, st0⟩, ?_⟩
    rintro m σ H6 ⟨c, M, ss, po, v8, v9, v10, v11, v12, rfl, rfl, g⟩
    obtain ⟨ts, hts, tlen, tat⟩ := g.po.ex
    refine ⟨_, rfl, _, .inl ⟨_, hts, rfl⟩, ?_⟩
    cases hn : QD.nearL (QD.rd L) M (selN nn) with
    | nil =>
      have e0 : ts = [] := by
        rw [hn] at tlen
        exact List.length_eq_zero_iff.mp tlen
      rw [e0]
      refine iteF ?_
      have s6 := sA.trans g.made.s
      refine ⟨_, rfl, fun x dy nx ny nxy => ?_⟩
      have s7 : Same H6 (upd (upd H6 dy (.own x)) x (.ins CU dy [])) := fun c u q => by
        rw [upd_ne (ne_of_none q nx), upd_ne (ne_of_none q ny)]
        exact q
      have hc := g.len
      subst hc
      exact ⟨x, dy, mk, ss, rfl, upd_same, (TLs.of g.made.pls).mono s7, fun H7 ru kp => ⟨rfl, k _ x ss M (fun c u q => kp c u (s7 _ _ (s6 _ _ q)) (ne_of_none (s6 _ _ q) nx)) ru g.p (g.p.done hn)⟩⟩
    | cons q0 tl0 =>
      obtain ⟨w, i⟩ := q0
      have hmem : (w, i) ∈ QD.nearL (QD.rd L) M (selN nn) := by rw [hn]; exact List.mem_cons_self
      obtain ⟨hwn, hi, hR⟩ := QD.mem_near.mp hmem
      have hw := selN_lt w hwn
      have st := g.p.stay h1.ok
      have okw := st.ok.kok hw
      obtain ⟨t0, ts', rfl⟩ : ∃ t0 ts', ts = t0 :: ts' := by
        cases ts with
        | nil => rw [hn] at tlen; cases tlen
        | cons t0 ts' => exact ⟨t0, ts', rfl⟩
      have ht0 := tat 0 t0 (w, i) rfl (by rw [hn]; rfl)
      refine iteT ?_
      obtain ⟨ms, hms, mlen, _⟩ := g.made.ex
      have g' := g.p.step selN_lt hmem
      have t1 := g.p.tot h1.ok
      have t2 := g'.tot h1.ok
      obtain ⟨μ, hμ⟩ : ∃ μ, μ = QD.tot (QD.rd L) (QD.swS M (w, i)) := ⟨_, rfl⟩
      have hlt : μ < QD.tot (QD.rd L) M := by rw [hμ]; omega
      refine ⟨fun σ' H' => ∃ c M ss po v8 v9 v10 v11 v12, σ' = [some (.ref a), some (.ref r), some (.ref pk), some (.ref ch), some (.ref d), some (.ref O), some (.ref mk), some (.ref po), v8, v9, v10, v11, v12] ∧ QD.tot (QD.rd L) M = μ ∧ SrAt K H3 H' O mk po B L (selN nn) c M ss, ?_, ?_⟩
      · rintro σ' H' ⟨c, M', ss, po, v8, v9, v10, v11, v12, rfl, e, g⟩
        exact ⟨_, hlt, c, M', ss, po, v8, v9, v10, v11, v12, rfl, e.symm, g⟩
      refine ⟨_, rfl, mk, _, rfl, .inl (SqL.of hms), ?_⟩
      refine ⟨_, rfl, _, rfl, pk, _, rfl, .inr (hpk _), _, _, rfl, rfl, _, rfl, iteDF (by show ¬ _ < ((0 : Nat) : Int); omega) ?_⟩
      refine ⟨_, rfl, _, rfl, po, _, _, _, rfl, rfl, hts, at_of (j := 0) rfl rfl, t0, _, rfl, SqT.of ht0, rfl, _, _, rfl, _, _, rfl, rfl, ?_⟩
      refine ⟨_, rfl, _, rfl, O, _, _, _, rfl, rfl, SqL.of g.fl.d, three_at hw, ?_⟩
      obtain ⟨y, hy, hy'⟩ : ∃ y, (M w)[i]? = some y ∧ (M w).getD i 0 = y := ⟨_, QD.getD_at (by omega), rfl⟩
      obtain ⟨x, hx, hx'⟩ : ∃ x, (M w)[i + 1]? = some x ∧ (M w).getD (i + 1) 0 = x := ⟨_, QD.getD_at hi, rfl⟩
      have sM := SqL.of (K := K) (g.fl.at_ w hw)
      refine ⟨_, rfl, _, rfl, _, _, rfl, rfl, B w, _, _, _, rfl, rfl, sM, at_of (j := i + 1) rfl (iV_at hx), _, rfl, _, rfl, B w, _, _, _, rfl, rfl, sM, at_of (j := i) rfl (iV_at hy), le2, fun t3 ht3 => ?_⟩
      have fl7 := g.fl.mono (Same.new (o := .tup [.int x, .int y]) ht3)
      have pv7 := g.made.same (Same.new (o := .tup [.int x, .int y]) ht3)
      refine ⟨t3, _, rfl, SqT.of upd_same, rfl, _, _, rfl, ?_⟩
      refine ⟨_, rfl, _, rfl, B w, _, _, i, rfl, rfl, fl7.at_ w hw, ixN_nat (by rw [iV_len]; omega), ?_⟩
      refine ⟨_, _, rfl, _, rfl, _, rfl, _, _, rfl, rfl, B w, _, _, i + 1, rfl, rfl, upd_same, ?_, rfl, ?_⟩
      · have e : ((i : Int) + 1) = ((i + 1 : Nat) : Int) := rfl
        rw [e]
        exact ixN_nat (by rw [List.length_set, iV_len]; exact hi)
      rw [upd_upd]
      have e8 : ((iV (M w)).set i (V.int x)).set (i + 1) (V.int y) = iV (QD.swp (M w) i) := by
        rw [← QD.swp_set hy hx]
        show _ = (((M w).set i x).set (i + 1) y).map V.int
        rw [List.map_set, List.map_set]
      rw [e8]
      have fl8 := fl7.put hw (QD.swp (M w) i)
      have pv8 := pv7.lst (ys := iV (QD.swp (M w) i)) (fl7.at_ w hw) (g.fl.nB w hw) (Ne.symm (g.mB w hw))
      obtain ⟨ms', hms', _, _⟩ := pv8.ex
      refine ⟨_, rfl, .inl ⟨rfl, _, SqL.of hms'⟩, _, rfl, _, rfl, le2, fun t4 ht4 => ?_⟩
      have cle := g.p.le h1.ok
      obtain ⟨acc, g1, g2, g3⟩ := pv8.step (x := (w : Int)) (y := (i : Int)) g.nmk (.refl _) ht4 (by
        rw [List.length_map, g.len]
        omega)
      refine ⟨mk, acc, _, rfl, rfl, g1, g2, ?_⟩
      have e9 : ss.map nP ++ [((w : Int), (i : Int))] = (ss ++ [(w, i)]).map nP := by
        rw [List.map_append]
        rfl
      rw [e9] at g3
      have fl9 := (fl8.mono (Same.new (o := .tup [.int (w : Nat), .int (i : Nat)]) ht4)).off (o := .lst (acc ++ [V.ref t4])) g.mO g.mB
      refine ⟨_, rfl, _, rfl, _, rfl, d, O, ch, QD.rd L, QD.swS M (w, i), selN nn, rfl, hws_in h1.ok (g'.stay h1.ok) (g3.s _ _ hd) hP fl9.lls (.inr (SqT.of (g3.s _ _ hch3))) selN_lt (selN_few _), fun H9 po' s9 tl' => ?_⟩
      exact ⟨c + 1, QD.swS M (w, i), ss ++ [(w, i)], po', _, _, _, _, _, rfl, hμ.symm, g', fl9.mono s9, g3.same s9, g.nmk, g.mO, g.mB, by rw [List.length_append, g.len]; rfl, tl'⟩
end
end Qd

set_option Elab.async false
set_option linter.all false
set_option maxRecDepth 100000
set_option maxHeartbeats 4000000
/-! settling.py, third part. -/
namespace QD
/-- nothing homeward among the first i neighbours -/
def SetBelow (R : Rd) (l : List Int) (i : Nat) : Prop := ∀ j, j < i → j + 1 < l.length → R (l.getD (j + 1) 0) (l.getD j 0) = false
theorem SetBelow.zero (R : Rd) (l : List Int) : SetBelow R l 0 := fun j h => by omega
theorem SetBelow.next {R : Rd} {l : List Int} {i : Nat} (h : SetBelow R l i) (r : R (l.getD (i + 1) 0) (l.getD i 0) = false) : SetBelow R l (i + 1) := fun j hj hl => by
  by_cases e : j = i
  · rw [e]
    exact r
  · exact h j (by omega) hl
theorem getD_swp {l : List Int} {i j : Nat} (h : j < i) : (swp l i).getD j 0 = l.getD j 0 := by
  rw [List.getD_eq_getElem?_getD, swp_get_lt h, ← List.getD_eq_getElem?_getD]
theorem SetBelow.back {R : Rd} {l : List Int} {i : Nat} (h : SetBelow R l i) : SetBelow R (swp l i) (i - 1) := fun j hj hl => by
  rw [swp_length] at hl
  rw [getD_swp (by omega), getD_swp (by omega)]
  exact h j (by omega) hl
theorem SetBelow.settled {R : Rd} {l : List Int} {i : Nat} (h : SetBelow R l i) (hi : l.length ≤ i + 1) : Settled R l := fun j a b e1 e2 => by
  have hj := (List.getElem?_eq_some_iff.mp e2).1
  have z := h j (by omega) hj
  have e1' := getD_at (l := l) (i := j) (by omega)
  have e2' := getD_at hj
  rw [e1] at e1'
  rw [e2] at e2'
  rw [Option.some.inj e1', Option.some.inj e2']
  exact z
end QD
namespace Qd
open PySem PySem.Spec PyProof.Rows L2
section
variable {P : Program} {w : World} {K : PySem.W.Frag} {mg : Str → Option Value} {base : Heap} {CS CR CU f : Addr} {fd : FuncData}
/-! ### home_list -/
def sp_home_list (K : PySem.W.Frag) (CR : Addr) : Sp := fun vs H Q _ => ∃ (a b : Addr) (ks l : List Int) (R : QD.Rd), vs = [.ref a, .ref b] ∧ ReAt H CR a ks R ∧ SqI K H b l ∧ l.Perm ks ∧ QD.Tour R ks ∧ QD.Good R ks l ∧
  ∀ H' p n m, Same H H' → H' p = some (.lst (iV m)) → QD.Hw R l n m → QD.Settled R m → Q (.ref p) H'
abbrev N_home_list : List Str := ["reading", "order", "before", "home", "index"]
abbrev P_home_list : List Str := ["reading", "order"]
theorem sc_home_list : FnScope N_home_list P_home_list (defScope s_home_list) := ⟨rfl, rfl, rfl, by decide +kernel, rfl, by decide +kernel, by decide +kernel⟩
theorem ok_home_list (F : F_home_list K f fd) (T : Txt K mg CS CR CU) (c_before_dict : Cal P w K mg base "before_dict" 2 P_before_dict (sp_before_dict CR)) : FnOk P w K mg base CX0 3 f fd P_home_list (sp_home_list K CR) := by
  refine FunD.ok F sc_home_list (fun vs H Q E h => ?_) (fun cdv A outer s H vs Q E hr h => ?_)
  · obtain ⟨a, b, ks, l, R, rfl, _⟩ := h
    rfl
  · obtain ⟨a, b, ks, l, R, rfl, h1, hb, pl, hT, hG, k⟩ := h
    have nd := sc_home_list.nd
    have hu := hu_of hr
    refine ⟨_, PSs.nox ((pss_cons (ps_set (i := 2) nd rfl (Or.inl rfl) (pe_cal c_before_dict (hr.mono (by decide)) (pa_cons (pv 0) pa_nil)))
  (pss_cons (ps_set (i := 3) nd rfl (Or.inl rfl) (pe_callTy (k_list (K := K)) (by rfl) T.list bt_list (pa_cons (pv 1) pa_nil)))
  (pss_cons (ps_set (i := 4) nd rfl (Or.inl rfl) pe_int)
  (pss_cons (ps_while PassesOwn.never (pt_cmpR op_lt (pv 4) (pe_op op_sub (pe_callB (k_len (K := K)) (by rfl) T.len bt_len (pa_cons (pv 3) pa_nil)) pe_int) (nomark _))
    (pss_one (ps_if (pt_cmp (pc_din hu (pe_tup (pa_cons (pe_ix (k_ixL (K := K)) (pv 3) (pe_op op_add (pv 4) pe_int) (fun _ _ => rfl)) (pa_cons (pe_ix (k_ixL (K := K)) (pv 3) (pv 4) (fun _ _ => rfl)) pa_nil))) (pv 2)))
    (pss_cons (ps_asg (pe_tup (pa_cons (pe_ix (k_ixL (K := K)) (pv 3) (pe_op op_add (pv 4) pe_int) (fun _ _ => rfl)) (pa_cons (pe_ix (k_ixL (K := K)) (pv 3) (pv 4) (fun _ _ => rfl)) pa_nil))) (kg_tup (K := K) (n := 2) rfl (pgs_cons (pg_sub (pv 3) (pv 4) set_list) (pgs_cons (pg_sub (pv 3) (pe_op op_add (pv 4) pe_int) set_list) pgs_nil))))
  (pss_one (ps_set (i := 4) nd rfl (Or.inl rfl) (pe_callB (call_max2 rfl) (by rfl) T.max bt_max (pa_cons (pe_op op_sub (pv 4) pe_int) (pa_cons pe_int pa_nil))))))
    (pss_one (ps_set (i := 4) nd rfl (Or.inl rfl) (pe_op op_add (pv 4) pe_int))))))
  (pss_one (ps_ret (pv 3)))))))), ?_⟩
    refine ⟨_, rfl, a, ks, R, rfl, h1, fun H1 d prs s1 hd0 hd hP => ?_⟩
    refine ⟨_, rfl, b, _, rfl, .inl (Same.seq s1 hb), fun h hh => ?_⟩
    have hh0 : H h = none := s1.free hh
    refine ⟨fun μ σ H2 => ∃ n m i, σ = [some (.ref a), some (.ref b), some (.ref d), some (.ref h), some (.int (i : Nat))] ∧ μ = 2 * QD.dis R m + (l.length - i) ∧ Same H1 H2 ∧ H2 h = some (.lst (iV m)) ∧ QD.Hw R l n m ∧ QD.SetBelow R m i ∧ i ≤ l.length,
      ⟨_, 0, l, 0, rfl, rfl, Same.new hh, upd_same, .nil, .zero _ _, Nat.zero_le _⟩, ?_⟩
    rintro μ σ H2 ⟨n, m, i, rfl, rfl, s2, hm, hw, sb, hi⟩
    have ok := QD.Hw.ok hT h1.kok.nd pl hG hw
    have lm : m.length = l.length := ok.perm.length_eq.trans pl.length_eq.symm
    refine ⟨_, rfl, _, rfl, h, _, rfl, .inl (SqL.of hm), _, _, rfl, rfl, _, _, rfl, rfl, _, rfl, ?_⟩
    rw [iV_len]
    by_cases hlt : i + 1 < m.length
    · refine iteDT (by omega) ?_
      have hx : m[i]? = some (m.getD i 0) := QD.getD_at (by omega)
      have hy : m[i + 1]? = some (m.getD (i + 1) 0) := QD.getD_at hlt
      obtain ⟨x, ex⟩ : ∃ x, m.getD i 0 = x := ⟨_, rfl⟩
      obtain ⟨y, ey⟩ : ∃ y, m.getD (i + 1) 0 = y := ⟨_, rfl⟩
      rw [ex] at hx
      rw [ey] at hy
      have mx : x ∈ ks := ok.perm.mem_iff.mp (List.mem_of_getElem? hx)
      have my : y ∈ ks := ok.perm.mem_iff.mp (List.mem_of_getElem? hy)
      obtain ⟨ν, hν⟩ : ∃ ν, ν = 2 * QD.dis R m + (l.length - i) := ⟨_, rfl⟩
      refine ⟨fun σ' H' => ∃ n m i, σ' = [some (.ref a), some (.ref b), some (.ref d), some (.ref h), some (.int (i : Nat))] ∧ 2 * QD.dis R m + (l.length - i) < ν ∧ Same H1 H' ∧ H' h = some (.lst (iV m)) ∧ QD.Hw R l n m ∧ QD.SetBelow R m i ∧ i ≤ l.length, ?_, ?_⟩
      · rintro σ' H' ⟨n', m', i', rfl, lt, r2, r3, r4, r5, r6⟩
        exact ⟨_, by rw [← hν]; exact lt, n', m', i', rfl, rfl, r2, r3, r4, r5, r6⟩
      have sM := SqL.of (K := K) hm
      refine ⟨_, rfl, _, rfl, _, _, rfl, rfl, h, _, _, _, rfl, rfl, sM, at_of (j := i + 1) rfl (iV_at hy), _, rfl, _, rfl, h, _, _, _, rfl, rfl, sM, at_of (j := i) rfl (iV_at hx), le2, fun t ht => ?_⟩
      refine ⟨_, rfl, d, _, rfl, dgetT (s2 _ _ hd) ht, ?_⟩
      rw [isS hP my mx]
      refine ⟨_, rfl, ?_⟩
      have st := Same.new (o := .tup [.int y, .int x]) ht
      cases eb : R y x with
      | false =>
        refine iteF ?_
        refine ⟨_, rfl, _, _, rfl, rfl, n, m, i + 1, rfl, by omega, s2.trans st, st _ _ hm, hw, sb.next (by rw [ex, ey]; exact eb), by omega⟩
      | true =>
        refine iteT ?_
        have hmT := st _ _ hm
        have sM' := SqL.of (K := K) hmT
        refine ⟨_, rfl, _, rfl, _, _, rfl, rfl, h, _, _, _, rfl, rfl, sM', at_of (j := i + 1) rfl (iV_at hy), _, rfl, _, rfl, h, _, _, _, rfl, rfl, sM', at_of (j := i) rfl (iV_at hx), le2, fun t2 ht2 => ?_⟩
        have st2 := Same.new (o := .tup [.int y, .int x]) ht2
        refine ⟨t2, _, rfl, SqT.of upd_same, rfl, _, _, rfl, ?_⟩
        refine ⟨_, rfl, _, rfl, h, _, _, i, rfl, rfl, st2 _ _ hmT, ixN_nat (by rw [iV_len]; omega), ?_⟩
        refine ⟨_, _, rfl, _, rfl, _, rfl, _, _, rfl, rfl, h, _, _, i + 1, rfl, rfl, upd_same, ?_, rfl, ?_⟩
        · have e : ((i : Int) + 1) = ((i + 1 : Nat) : Int) := rfl
          rw [e]
          exact ixN_nat (by rw [List.length_set, iV_len]; exact hlt)
        rw [upd_upd]
        have e8 : ((iV m).set i (V.int y)).set (i + 1) (V.int x) = iV (QD.swp m i) := by
          rw [← QD.swp_set hx hy]
          show _ = ((m.set i y).set (i + 1) x).map V.int
          rw [List.map_set, List.map_set]
        rw [e8]
        refine ⟨_, rfl, _, _, rfl, rfl, _, _, rfl, ?_⟩
        have e9 : (if (0 : Int) > (i : Int) - 1 then (0 : Int) else (i : Int) - 1) = ((i - 1 : Nat) : Int) := by
          by_cases z : i = 0
          · subst z
            rfl
          · rw [if_neg (by omega)]
            omega
        rw [e9]
        have N : QD.Nb m i x y := ⟨(ok.perm.nodup_iff).mpr h1.kok.nd, hx, hy⟩
        have ds := QD.dis_swap hT ok.perm N eb
        have sH : Same H1 (upd (upd (upd H2 t (.tup [.int y, .int x])) t2 (.tup [.int y, .int x])) h (.lst (iV (QD.swp m i)))) := Same.put ((s2.trans st).trans st2) hh
        exact ⟨n + 1, QD.swp m i, i - 1, rfl, by omega, sH, upd_same, .snoc hw hx hy eb, sb.back, by omega⟩
    · refine iteDF (by omega) ?_
      exact ⟨_, rfl, k _ h n m (fun c o q => s2 _ _ (s1 _ _ q)) hm hw (sb.settled (by omega))⟩
/-! ### settle -/
def sp_settle (K : PySem.W.Frag) (CS : Addr) : Sp := fun vs H Q _ => ∃ (a r : Addr) (L : QD.LS) (nn : List Nat), vs = [.ref a, .ref r] ∧ StAt K H CS a L ∧ (SqI K H r (nn.map Int.ofNat) ∨ SqT K H r (iV (nn.map Int.ofNat))) ∧ (∀ n ∈ nn, n < 3) ∧
  ∀ H' p M, Same H H' → StAt K H' CS p M → QD.SetTo L (selN nn) M → Q (.ref p) H'
def sp_settle2 (K : PySem.W.Frag) (CS : Addr) : Sp := fun vs H Q _ => ∃ (a r : Addr) (L : QD.LS) (nn : List Nat), vs = [.ref a, .ref r] ∧ StAt K H CS a L ∧ (SqI K H r (nn.map Int.ofNat) ∨ SqT K H r (iV (nn.map Int.ofNat))) ∧ (∀ n ∈ nn, n < 3) ∧
  ∀ H' p M, Same H H' → StAt K H' CS p M → QD.SetTo L (selN nn) M → (p = a ∨ NewSt H H' CS p) → Q (.ref p) H'
abbrev N_settle : List Str := ["state", "replicas", "chosen", "reading", "settled", "replica", "home"]
abbrev P_settle : List Str := ["state", "replicas"]
theorem sc_settle : FnScope N_settle P_settle (defScope s_settle) := ⟨rfl, rfl, rfl, by decide +kernel, rfl, by decide +kernel, by decide +kernel⟩
theorem ok_settle2 (F : F_settle K f fd) (T : Txt K mg CS CR CU) (c_check_replicas : Cal P w K mg base "check_replicas" 2 P_check_replicas (sp_check_replicas K)) (c_read : Cal P w K mg base "read" 5 P_read (sp_read K CS CR))
    (c_home_list : Cal P w K mg base "home_list" 3 P_home_list (sp_home_list K CR)) (m_State_list_of : Met P w K mg base CS "list_of" 2 P_State_list_of (sp_list_of K CS)) (m_State_with_list : Met P w K mg base CS "with_list" 5 P_State_with_list (sp_with_list2 K CS)) :
    FnOk P w K mg base CX0 6 f fd P_settle (sp_settle2 K CS) := by
  refine FunD.ok F sc_settle (fun vs H Q E h => ?_) (fun cdv A outer s H vs Q E hr h => ?_)
  · obtain ⟨a, r, L, nn, rfl, _⟩ := h
    rfl
  · obtain ⟨a, r, L, nn, rfl, h1, hr0, lt, k⟩ := h
    have nd := sc_settle.nd
    refine ⟨_, PSs.nox ((pss_cons (ps_set (i := 2) nd rfl (Or.inl rfl) (pe_cal c_check_replicas (hr.mono (by decide)) (pa_cons (pv 1) pa_nil)))
  (pss_cons (ps_set (i := 3) nd rfl (Or.inl rfl) (pe_cal c_read (hr.mono (by decide)) (pa_cons (pv 0) pa_nil)))
  (pss_cons (ps_set (i := 4) nd rfl (Or.inl rfl) (pv 0))
  (pss_cons (ps_for PassesOwn.never rfl (ki_tup (K := K) (pv 2)) (pg_name (i := 5) nd rfl (Or.inl rfl))
    (pss_cons (ps_set (i := 6) nd rfl (Or.inl rfl) (pe_cal c_home_list (hr.mono (by decide)) (pa_cons (pv 3) (pa_cons (pe_met m_State_list_of T.cState (hr.mono (by decide)) (pv 0) (pa_cons (pv 5) pa_nil)) pa_nil))))
  (pss_one (ps_set (i := 4) nd rfl (Or.inl rfl) (pe_met m_State_with_list T.cState (hr.mono (by decide)) (pv 4) (pa_cons (pv 5) (pa_cons (pv 6) pa_nil)))))))
  (pss_one (ps_ret (pv 4)))))))), ?_⟩
    obtain ⟨dx, l0, p0, ha, _⟩ := h1.ex
    refine ⟨_, rfl, r, nn, rfl, hr0, lt, fun H1 ch s1 hch0 hch => ?_⟩
    rw [sel_nat] at hch
    refine ⟨_, rfl, a, L, rfl, h1.mono s1, fun H2 rp s2 re => ?_⟩
    have sA := s1.trans s2
    have hch2 := s2 _ _ hch
    obtain ⟨kk, hkk⟩ : ∃ kk, kk = selN nn := ⟨_, rfl⟩
    have klt : ∀ n ∈ kk, n < 3 := by rw [hkk]; exact selN_lt
    have knd : kk.Nodup := by rw [hkk]; exact selN_nd nn
    rw [← hkk] at hch2 k
    refine ⟨_, rfl, _, rfl, ch, rfl, ⟨_, SqT.of hch2⟩, for_it (walk_tup (K := K) (a := ch) (xs := iV (kk.map Int.ofNat))) (fun i σ H3 => ∃ c M v5 v6, σ = [some (.ref a), some (.ref r), some (.ref ch), some (.ref rp), some (.ref c), v5, v6] ∧ Same H2 H3 ∧ StAt K H3 CS c M ∧ QD.SetTo L (kk.take i) M ∧ (c = a ∨ NewSt H H3 CS c))
      ⟨a, L, none, none, rfl, .refl _, h1.mono sA, ⟨fun w _ m => (by cases m), fun _ _ _ => rfl⟩, .inl rfl⟩ (fun i σ H3 _ ⟨_, _, _, _, _, s3, _⟩ => Same.tup s3 (SqT.of hch2)) ?_ ?_⟩
    · rintro i x0 σ H3 H4 hi ⟨c, M, v5, v6, rfl, s3, sc, st, hc0⟩ ⟨rfl, e2⟩
      obtain ⟨w, hw0, rfl⟩ := natOf e2
      have hw := klt w (List.mem_of_getElem? hw0)
      have sB := sA.trans s3
      refine ⟨_, rfl, _, rfl, a, dx, _, rfl, sB _ _ ha, sf_no (by decide +kernel) (by decide +kernel), _, rfl, a, L, w, rfl, h1.mono sB, hw, fun H5 p s5 hp hp' => ?_⟩
      refine ⟨rp, p, L 0, L w, QD.rd L, rfl, re.mono (s3.trans s5), SqL.of hp', h1.ok.perm hw, QD.rd_tour h1.ok, QD.rd_good h1.ok hw, fun H6 q n m s6 hq hm hs => ?_⟩
      have okm := QD.hw_ok h1.ok hw hm
      have stM := st.stay h1.ok
      have sc6 := sc.mono (s5.trans s6)
      obtain ⟨dxc, lc, pc, hc, _⟩ := sc6.ex
      refine ⟨_, rfl, c, dxc, _, rfl, hc, sf_no (by decide +kernel) (by decide +kernel), _, rfl, _, rfl, c, q, M, w, m, rfl, sc6, hw, SqL.of hq, okm.perm.trans stM.k0.symm, fun H7 c' s7 sc7 nw7 => ?_⟩
      refine ⟨c', QD.setL M w m, _, _, rfl, s3.trans ((s5.trans s6).trans s7), sc7, ⟨fun j hj mj => ?_, fun j hj mj => ?_⟩, .inr (nw7.since ((sB.trans s5).trans s6))⟩
      · rw [take_succ_at hw0] at mj
        by_cases e : j = w
        · subst e
          rw [QD.setL_same]
          exact ⟨n, hm, hs⟩
        · rw [QD.setL_ne _ _ e]
          refine st.yes j hj ?_
          rcases List.mem_append.mp mj with z | z
          · exact z
          · exact absurd (List.mem_singleton.mp z) e
      · rw [take_succ_at hw0] at mj
        have e : j ≠ w := fun e => mj (List.mem_append.mpr (.inr (List.mem_singleton.mpr e)))
        rw [QD.setL_ne _ _ e]
        exact st.no j hj fun z => mj (List.mem_append.mpr (.inl z))
    · rintro σ H3 ⟨c, M, v5, v6, rfl, s3, sc, st, hc0⟩
      rw [iV_len, List.length_map, List.take_length] at st
      exact ⟨_, rfl, k _ c M (sA.trans s3) sc st hc0⟩
theorem settle_weak {fd : FuncData} (F : FnOk P w K mg base CX0 6 f fd P_settle (sp_settle2 K CS)) : FnOk P w K mg base CX0 6 f fd P_settle (sp_settle K CS) := F.imp fun vs H Q E h => by
  obtain ⟨a, r, L, nn, h1, h2, h3, h4, k⟩ := h
  exact ⟨a, r, L, nn, h1, h2, h3, h4, fun H' p M s st sm _ => k H' p M s st sm⟩
/-! ### settle_length -/
def sp_settle_length (K : PySem.W.Frag) (CS : Addr) : Sp := fun vs H Q _ => ∃ (a r : Addr) (L : QD.LS) (nn : List Nat), vs = [.ref a, .ref r] ∧ StAt K H CS a L ∧ (SqI K H r (nn.map Int.ofNat) ∨ SqT K H r (iV (nn.map Int.ofNat))) ∧ (∀ n ∈ nn, n < 3) ∧
  ∀ H' M, Same H H' → QD.SetTo L (selN nn) M → Q (.int ((QD.apart (L 0) (M 0) + QD.apart (L 1) (M 1) + QD.apart (L 2) (M 2) : Nat) : Int)) H'
abbrev N_settle_length : List Str := ["state", "replicas"]
abbrev P_settle_length : List Str := ["state", "replicas"]
theorem sc_settle_length : FnScope N_settle_length P_settle_length (defScope s_settle_length) := ⟨rfl, rfl, rfl, by decide +kernel, rfl, by decide +kernel, by decide +kernel⟩
theorem ok_settle_length {pk : Addr} (hpk : ∀ H, SqT K H pk []) (F : F_settle_length K f fd) (T : Txt K mg CS CR CU) (c_settle_run_k : CalK P w K mg base "settle_run" 6 1 ["replicas"] P_settle_run (fun vs zs => vs ++ zs ++ [.ref pk]) (sp_settle_run K CS CU))
    (m_Run_len : Met P w K mg base CU "__len__" 1 P_Run_len (sp_Run_len K CU)) : FnOk P w K mg base CX0 7 f fd P_settle_length (sp_settle_length K CS) := by
  refine FunD.ok F sc_settle_length (fun vs H Q E h => ?_) (fun cdv A outer s H vs Q E hr h => ?_)
  · obtain ⟨a, r, L, nn, rfl, _⟩ := h
    rfl
  · obtain ⟨a, r, L, nn, rfl, h1, hr0, lt, k⟩ := h
    have nd := sc_settle_length.nd
    refine ⟨_, PSs.nox ((pss_one (ps_ret (pe_callB (call_lenO m_Run_len (hr.mono (by decide))) (by rfl) T.len bt_len (pa_cons (pe_calK c_settle_run_k (hr.mono (by decide)) (pa_cons (pv 0) pa_nil) (pk_cons (pv 1) pk_nil)) pa_nil))))), ?_⟩
    refine ⟨_, rfl, _, rfl, rfl, rfl, a, r, pk, L, nn, rfl, h1, hr0, lt, hpk, fun H1 p ss M s1 ru pa st => ?_⟩
    obtain ⟨dx, l, hp, _⟩ := ru.ex
    have le := pa.le h1.ok
    refine ⟨p, dx, _, rfl, hp, p, ss, rfl, ru, _, rfl, sz12 (by omega), ?_⟩
    rw [← pa.count h1.ok]
    exact k _ M s1 st
end
end Qd

set_option Elab.async false
set_option linter.all false
set_option maxRecDepth 100000
set_option maxHeartbeats 4000000
/-! The law's helpers, first part. -/
namespace Qd
open PySem PySem.Spec PyProof.Rows L2
/-! ### the box of draws -/
def IsBx (o : HO) : Prop := ∃ (c : Addr) (r : Int) (t : Nat), o = .lst [.ref c, .int r, .int t]
/-- all but boxes stays -/
structure Ob (H H' : Hp) : Prop where
  keep : ∀ p o, H p = some o → ¬ IsBx o → H' p = some o
  has : ∀ p, H' p = none → H p = none
theorem Ob.refl (H : Hp) : Ob H H := ⟨fun _ _ h _ => h, fun _ h => h⟩
theorem Ob.trans {H1 H2 H3 : Hp} (a : Ob H1 H2) (b : Ob H2 H3) : Ob H1 H3 := ⟨fun p o h n => b.keep p o (a.keep p o h n) n, fun p h => a.has p (b.has p h)⟩
theorem _root_.L2.Same.ob {H H' : Hp} (s : Same H H') : Ob H H' := ⟨fun p o h _ => s p o h, fun _ h => s.free h⟩
theorem Ob.put {H H' : Hp} {p : Addr} {o : HO} (s : Ob H H') (h : H p = none) : Ob H (upd H' p o) := by
  refine ⟨fun q u e n => ?_, fun q e => ?_⟩
  · rw [upd_ne (ne_of_none e h)]
    exact s.keep q u e n
  · by_cases eq : q = p
    · rw [eq]
      exact h
    · rw [upd_ne eq] at e
      exact s.has q e
theorem Ob.box {H H' : Hp} {b : Addr} {o o' : HO} (s : Ob H H') (hb : H' b = some o) (hx : IsBx o) : Ob H (upd H' b o') := by
  refine ⟨fun q u e n => ?_, fun q e => ?_⟩
  · have z := s.keep q u e n
    rw [upd_ne (fun eq => by rw [eq, hb] at z; exact n (Option.some.inj z ▸ hx))]
    exact z
  · by_cases eq : q = b
    · rw [eq, upd_same] at e
      cases e
    · rw [upd_ne eq] at e
      exact s.has q e
theorem nb_ints (ns : List Int) : ¬ IsBx (.lst (iV ns)) := by
  rintro ⟨c, r, t, e⟩
  have e := HO.lst.inj e
  cases ns with
  | nil => cases e
  | cons a l =>
    have := (List.cons.inj e).1
    cases this
theorem nb_refs (ts : List Addr) : ¬ IsBx (.lst (ts.map V.ref)) := by
  rintro ⟨c, r, t, e⟩
  have e := HO.lst.inj e
  match ts, e with
  | [], e => cases e
  | [_], e => cases e
  | a :: b :: l, e =>
    have := (List.cons.inj (List.cons.inj e).2).1
    cases this
theorem Ob.sq {K : PySem.W.Frag} {H H' : Hp} {a : Addr} {xs : List V} (s : Ob H H') (h : SqL K H a xs) (n : ¬ IsBx (.lst xs)) : SqL K H' a xs := by
  rcases h with (h | ⟨o, h⟩) | h
  · exact .inl (.inl (s.keep _ _ h n))
  · exact .inl (.inr ⟨o, s.keep _ _ h (by rintro ⟨c, r, t, e⟩; cases e)⟩)
  · exact .inr h
theorem Ob.tup {K : PySem.W.Frag} {H H' : Hp} {a : Addr} {xs : List V} (s : Ob H H') (h : SqT K H a xs) : SqT K H' a xs := by
  rcases h with (h | ⟨o, h⟩) | h
  · exact .inl (.inl (s.keep _ _ h (by rintro ⟨c, r, t, e⟩; cases e)))
  · exact .inl (.inr ⟨o, s.keep _ _ h (by rintro ⟨c, r, t, e⟩; cases e)⟩)
  · exact .inr h
structure Box (K : PySem.W.Frag) (H : Hp) (b c : Addr) : Prop where
  ex : ∃ (cs : List Int) (r : Int) (t : Nat), H b = some (.lst [.ref c, .int r, .int t]) ∧ SqI K H c cs
section
variable {K : PySem.W.Frag} {H H' : Hp} {a C : Addr} {L : QD.LS} {ks : List Int} {R : QD.Rd} {ss : List (Nat × Nat)}
theorem Box.mono (h : Box K H a C) (s : Same H H') : Box K H' a C := by
  obtain ⟨cs, r, t, h1, h2⟩ := h.ex
  exact ⟨cs, r, t, s _ _ h1, s.seq h2⟩
/-- what is new may be changed -/
theorem Box.keep {H0 : Hp} {l : Addr} {o : HO} (h0 : Box K H0 a C) (h : Box K H a C) (n : H0 l = none) : Box K (upd H l o) a C := by
  obtain ⟨cs0, r0, t0, g1, g2⟩ := h0.ex
  obtain ⟨cs, r, t, h1, h2⟩ := h.ex
  have na : a ≠ l := ne_of_none g1 n
  rcases g2 with g2 | g2
  · have nc : C ≠ l := by
      rcases g2 with g2 | ⟨o, g2⟩
      · exact ne_of_none g2 n
      · exact ne_of_none g2 n
    refine ⟨cs, r, t, by rw [upd_ne na]; exact h1, ?_⟩
    rcases h2 with (h2 | ⟨o, h2⟩) | h2
    · exact .inl (.inl (by rw [upd_ne nc]; exact h2))
    · exact .inl (.inr ⟨o, by rw [upd_ne nc]; exact h2⟩)
    · exact .inr h2
  · exact ⟨cs0, r, t, by rw [upd_ne na]; exact h1, .inr g2⟩
/-- the law's helpers move on: all but the box stays -/
structure Mv (K : PySem.W.Frag) (b c : Addr) (H H' : Hp) : Prop where
  ob : Ob H H'
  bx : Box K H' b c
theorem Mv.trans {b c : Addr} {H1 H2 H3 : Hp} (a : Mv K b c H1 H2) (d : Mv K b c H2 H3) : Mv K b c H1 H3 := ⟨a.ob.trans d.ob, d.bx⟩
theorem Mv.same {b c : Addr} {H1 H2 H3 : Hp} (a : Mv K b c H1 H2) (s : Same H2 H3) : Mv K b c H1 H3 := ⟨a.ob.trans s.ob, a.bx.mono s⟩
theorem Mv.put {b c : Addr} {H1 H2 : Hp} {l : Addr} {o : HO} (b1 : Box K H1 b c) (a : Mv K b c H1 H2) (n : H1 l = none) : Mv K b c H1 (upd H2 l o) := ⟨a.ob.put n, b1.keep a.bx n⟩
theorem Mv.refl {b c : Addr} (b1 : Box K H b c) : Mv K b c H H := ⟨.refl _, b1⟩
theorem Ob.lls (s : Ob H H') (h : LLs K H a L) : LLs K H' a L := by
  obtain ⟨A, h1, h2⟩ := h.ex
  exact ⟨A, s.sq h1 (nb_refs [A 0, A 1, A 2]), fun w hw => s.sq (h2 w hw) (nb_ints _)⟩
theorem Ob.st (s : Ob H H') (h : StAt K H C a L) : StAt K H' C a L := by
  obtain ⟨dx, l, p, h1, h2, h3⟩ := h.ex
  obtain ⟨A, g1, g2⟩ := h3.ex
  exact ⟨h.ok, dx, l, p, s.keep _ _ h1 (by rintro ⟨c, r, t, e⟩; cases e), s.lls h2, A, s.sq g1 (nb_refs [A 0, A 1, A 2]), fun w hw => s.keep _ _ (g2 w hw) (by rintro ⟨c, r, t, e⟩; cases e)⟩
theorem Ob.tls (s : Ob H H') (h : TLs K H a ss) : TLs K H' a ss := by
  obtain ⟨ts, h1, h2, h3⟩ := h.ex
  exact ⟨ts, s.sq h1 (nb_refs ts), h2, fun i t q e1 e2 => s.keep _ _ (h3 i t q e1 e2) (by rintro ⟨c, r, t, e⟩; cases e)⟩
end
section
variable {P : Program} {w : World} {K : PySem.W.Frag} {mg : Str → Option Value} {base : Heap} {CS CR CU f : Addr} {fd : FuncData}
/-! ### box -/
def sp_boxL (K : PySem.W.Frag) : Sp := fun vs H Q _ => ∃ (a : Addr) (ns : List Int), vs = [.ref a] ∧ SqI K H a ns ∧ ∀ H' b c, Same H H' → Box K H' b c → Q (.ref b) H'
abbrev N_boxL : List Str := ["_law_script"]
abbrev P_boxL : List Str := ["_law_script"]
theorem sc_boxL : FnScope N_boxL P_boxL (defScope s_boxL) := ⟨rfl, rfl, rfl, by decide +kernel, rfl, by decide +kernel, by decide +kernel⟩
theorem ok_boxL (F : F_boxL K f fd) (T : Txt K mg CS CR CU) : FnOk P w K mg base CX0 1 f fd P_boxL (sp_boxL K) := by
  refine FunD.ok F sc_boxL (fun vs H Q E h => ?_) (fun cdv A outer s H vs Q E hr h => ?_)
  · obtain ⟨a, ns, rfl, _⟩ := h
    rfl
  · obtain ⟨a, ns, rfl, h1, k⟩ := h
    have nd := sc_boxL.nd
    refine ⟨_, PSs.nox ((pss_one (ps_ret (pe_lst (pa_cons (pe_callTy (k_list (K := K)) (by rfl) T.list bt_list (pa_cons (pe_slice (k_slL (K := K)) (pv 0) po_none (po_some pe_int)) pa_nil)) (pa_cons pe_int (pa_cons pe_int pa_nil))))))), ?_⟩
    refine ⟨_, rfl, _, rfl, a, _, rfl, h1, fun p hp => ?_⟩
    refine ⟨p, _, rfl, .inl (SqL.of upd_same), fun q hq => ⟨by show 3 ≤ sizeLine; decide, fun b hb => ?_⟩⟩
    obtain ⟨m, hm⟩ : ∃ m : List Int, cutV (iV ns) none (some 63) = iV m := by
      refine ⟨ns.take 63, ?_⟩
      unfold cutV
      rw [iV_len]
      show (List.drop _ (iV ns)).take _ = iV (ns.take 63)
      have e : HT.sIx ns.length 0 none = 0 := rfl
      have e2 : HT.sIx ns.length ns.length (some 63) = min 63 ns.length := HT.sIx_nat _ _ 63
      rw [e, e2, List.drop_zero, Nat.sub_zero, iV_take]
      congr 1
      rw [List.take_eq_take_iff]
      omega
    rw [hm] at hq hb ⊢
    have s1 := Same.new (o := .lst (iV m)) hp
    have s2 := Same.put (o := .lst (iV m)) s1 (s1.free hq)
    have s3 := Same.put (o := .lst [.ref q, .int 0, .int 0]) s2 (s2.free hb)
    exact k _ b q s3 ⟨m, 0, 0, upd_same, SqL.of (by rw [upd_ne (ne_of_none upd_same hb), upd_same])⟩
/-! ### take -/
theorem fmod_nat (i : Int) {n : Nat} (h : 1 ≤ n) : ∃ v : Nat, v < n ∧ i.fmod (n : Int) = (v : Int) := by
  have e := Int.fmod_eq_emod_of_nonneg i (b := (n : Int)) (by omega)
  have h1 := Int.emod_nonneg i (b := (n : Int)) (by omega)
  have h2 := Int.emod_lt_of_pos i (b := (n : Int)) (by omega)
  exact ⟨(i % (n : Int)).toNat, by omega, by rw [e]; omega⟩
theorem fm_small (i : Int) : -(2 ^ 64) < i.fmod 2147483647 ∧ i.fmod 2147483647 < 2 ^ 64 := by
  obtain ⟨v, hv, e⟩ := fmod_nat i (n := 2147483647) (by decide)
  have e : i.fmod 2147483647 = (v : Int) := e
  rw [e]
  constructor <;> omega
def sp_takeL (K : PySem.W.Frag) : Sp := fun vs H Q _ => ∃ (b c : Addr) (n : Nat), vs = [.ref b, .int n] ∧ Box K H b c ∧ 1 ≤ n ∧ n ≤ 1000 ∧ ∀ H' (v : Nat), Mv K b c H H' → v < n → Q (.int v) H'
abbrev N_takeL : List Str := ["_law_box_here", "_law_size", "_law_rest", "_law_turn", "_law_cells", "_law_cell", "_law_mixed"]
abbrev P_takeL : List Str := ["_law_box_here", "_law_size"]
theorem sc_takeL : FnScope N_takeL P_takeL (defScope s_takeL) := ⟨rfl, rfl, rfl, by decide +kernel, rfl, by decide +kernel, by decide +kernel⟩
theorem ok_takeL (F : F_takeL K f fd) (T : Txt K mg CS CR CU) : FnOk P w K mg base CX0 1 f fd P_takeL (sp_takeL K) := by
  refine FunD.ok F sc_takeL (fun vs H Q E h => ?_) (fun cdv A outer s H vs Q E hr h => ?_)
  · obtain ⟨b, c, n, rfl, _⟩ := h
    rfl
  · obtain ⟨b, c, n, rfl, h1, n1, n2, k⟩ := h
    have nd := sc_takeL.nd
    refine ⟨_, PSs.nox ((pss_cons (ps_set (i := 2) nd rfl (Or.inl rfl) (pe_ix (k_ixL (K := K)) (pv 0) pe_int (fun _ _ => rfl)))
  (pss_cons (ps_if (pt_cmpR op_gt (pv 2) pe_int (nomark _))
    (pss_cons (ps_asg (pe_op op_fdivN (pv 2) (pv 1)) (pg_sub (pv 0) pe_int set_list))
  (pss_one (ps_ret (pe_op op_modN (pe_callTy call_int1 (by rfl) T.int bt_int (pa_cons (pv 2) pa_nil)) (pv 1)))))
    pss_nil)
  (pss_cons (ps_asg (pe_op op_add (pe_ix (k_ixL (K := K)) (pv 0) pe_int (fun _ _ => rfl)) pe_int) (pg_sub (pv 0) pe_int set_list))
  (pss_cons (ps_set (i := 3) nd rfl (Or.inl rfl) (pe_ix (k_ixL (K := K)) (pv 0) pe_int (fun _ _ => rfl)))
  (pss_cons (ps_set (i := 4) nd rfl (Or.inl rfl) (pe_ix (k_ixL (K := K)) (pv 0) pe_int (fun _ _ => rfl)))
  (pss_cons (ps_set (i := 5) nd rfl (Or.inl rfl) pe_int)
  (pss_cons (ps_if (pt_cmpR op_le (pv 3) (pe_callB (k_len (K := K)) (by rfl) T.len bt_len (pa_cons (pv 4) pa_nil)) (nomark _))
    (pss_cons (ps_set (i := 5) nd rfl (Or.inl rfl) (pe_callB call_abs (by rfl) T.abs bt_abs (pa_cons (pe_ix (k_ixL (K := K)) (pv 4) (pe_op op_sub (pv 3) pe_int) (fun _ _ => rfl)) pa_nil)))
  (pss_one (ps_if (pt_cmpR op_ge (pv 5) (pe_op op_pow pe_int pe_int) (nomark _))
    (pss_cons (ps_asg (pe_op op_fdivN (pv 5) (pv 1)) (pg_sub (pv 0) pe_int set_list))
  (pss_one (ps_ret (pe_op op_modN (pe_callTy call_int1 (by rfl) T.int bt_int (pa_cons (pv 5) pa_nil)) (pv 1)))))
    pss_nil)))
    (pss_one (ps_if (k_truth (K := K) (pv 4))
    (pss_one (ps_set (i := 5) nd rfl (Or.inl rfl) (pe_callB call_abs (by rfl) T.abs bt_abs (pa_cons (pe_ix (k_ixL (K := K)) (pv 4) (pe_op op_modN (pv 3) (pe_callB (k_len (K := K)) (by rfl) T.len bt_len (pa_cons (pv 4) pa_nil))) (fun _ _ => rfl)) pa_nil))))
    pss_nil)))
  (pss_cons (ps_set (i := 6) nd rfl (Or.inl rfl) (pe_op op_modN (pe_callTy call_int1 (by rfl) T.int bt_int (pa_cons (pe_op op_add (pe_op op_mul (pe_op op_add (pv 5) (pe_op op_mul (pv 3) pe_int)) pe_int) pe_int) pa_nil)) pe_int))
  (pss_cons (ps_set (i := 6) nd rfl (Or.inl rfl) (pe_op op_modN (pe_callTy call_int1 (by rfl) T.int bt_int (pa_cons (pe_op op_add (pe_op op_mul (pv 6) (pe_op op_add (pe_op op_fdivN (pv 6) pe_int) pe_int)) (pv 3)) pa_nil)) pe_int))
  (pss_one (ps_ret (pe_op op_modN (pe_callTy call_int1 (by rfl) T.int bt_int (pa_cons (pe_op op_fdivN (pv 6) pe_int) pa_nil)) (pv 1)))))))))))))), ?_⟩
    obtain ⟨cs, r, t, hb, hc⟩ := h1.ex
    have isb : ∀ {r : Int} {t : Nat}, IsBx (.lst [.ref c, .int r, .int t]) := ⟨_, _, _, rfl⟩
    have fin : ∀ (i : Int) H', Ob H H' → Box K H' b c → Q (.int (i.fmod (n : Int))) H' := fun i H' o bx => by
      obtain ⟨v, hv, e⟩ := fmod_nat i n1
      rw [e]
      exact k H' v ⟨o, bx⟩ hv
    have cdiv : CDivN 0 (n : Int) → True := fun _ => trivial
    refine ⟨_, rfl, b, _, _, _, rfl, rfl, SqL.of hb, atI_nat (j := 1) rfl, ?_⟩
    refine ⟨_, rfl, _, _, rfl, rfl, _, rfl, ?_⟩
    by_cases hr0 : (r : Int) > 0
    · refine iteDT hr0 ?_
      have ob1 : ∀ {o : HO}, Ob H (upd H b o) := (Ob.refl H).box hb isb
      refine ⟨_, rfl, _, rfl, _, _, rfl, rfl, ⟨by omega, by omega⟩, _, rfl, b, _, _, 1, rfl, rfl, hb, ixN_nat (n := 3) (j := 1) (by decide), ?_⟩
      refine ⟨_, rfl, .inl ⟨_, rfl, _, rfl, _, _, rfl, rfl, by omega, ?_⟩⟩
      exact fin _ _ ob1 ⟨cs, _, t, upd_same, ob1.sq hc (nb_ints _)⟩
    · refine iteDF hr0 ?_
      refine ⟨_, rfl, b, _, _, _, rfl, rfl, SqL.of hb, atI_nat (j := 2) rfl, _, _, rfl, rfl, _, rfl, b, _, _, 2, rfl, rfl, hb, ixN_nat (n := 3) (j := 2) (by decide), ?_⟩
      obtain ⟨H1, hH1⟩ : ∃ H1, H1 = upd H b (.lst [.ref c, .int r, .int ((t + 1 : Nat) : Int)]) := ⟨_, rfl⟩
      have hb1 : H1 b = some (.lst [.ref c, .int r, .int ((t + 1 : Nat) : Int)]) := by rw [hH1, upd_same]
      have ob1 : Ob H H1 := by rw [hH1]; exact (Ob.refl H).box hb isb
      have hc1 := ob1.sq hc (nb_ints _)
      have bx1 : Box K H1 b c := ⟨cs, r, t + 1, hb1, hc1⟩
      have eH : upd H b (.lst (([.ref c, .int r, .int (t : Int)] : List V).set 2 (.int ((t : Int) + 1)))) = H1 := by rw [hH1]; rfl
      rw [eH]
      refine ⟨_, rfl, b, _, _, _, rfl, rfl, SqL.of hb1, atI_nat (j := 2) rfl, ?_⟩
      refine ⟨_, rfl, b, _, _, _, rfl, rfl, SqL.of hb1, atI_nat (j := 0) rfl, ?_⟩
      refine ⟨_, rfl, _, rfl, c, _, rfl, .inl hc1, _, _, rfl, rfl, _, rfl, ?_⟩
      rw [iV_len]
      by_cases ht : ((t + 1 : Nat) : Int) ≤ (cs.length : Nat)
      · refine iteDT ht ?_
        obtain ⟨x, hx⟩ : ∃ x, cs[t]? = some x := ⟨_, List.getElem?_eq_getElem (show t < cs.length by omega)⟩
        refine ⟨_, rfl, _, rfl, _, _, rfl, rfl, c, _, _, _, rfl, rfl, hc1, at_of (j := t) (by omega) (iV_at hx), _, rfl, ?_⟩
        generalize (if x < 0 then -x else x) = cell
        refine ⟨_, rfl, _, _, rfl, rfl, ⟨by decide, by decide, by decide⟩, _, _, rfl, rfl, _, rfl, ?_⟩
        have ob2 := ob1
        have bx2 := bx1
        by_cases hce : (10 : Int) ^ (18 : Int).toNat ≤ cell
        · refine iteDT hce ?_
          have ob3 : ∀ {o : HO}, Ob H (upd H1 b o) := ob1.box hb1 isb
          refine ⟨_, rfl, _, rfl, _, _, rfl, rfl, ⟨by omega, by omega⟩, _, rfl, b, _, _, 1, rfl, rfl, hb1, ixN_nat (n := 3) (j := 1) (by decide), ?_⟩
          refine ⟨_, rfl, .inl ⟨_, rfl, _, rfl, _, _, rfl, rfl, by omega, ?_⟩⟩
          exact fin _ _ ob3 ⟨cs, _, t + 1, upd_same, ob3.sq hc (nb_ints _)⟩
        · refine iteDF hce ?_
          refine ⟨_, rfl, _, rfl, _, _, rfl, rfl, .inr ⟨by decide, by decide⟩, _, _, rfl, rfl, _, _, rfl, rfl, .inr ⟨by decide, by decide⟩, _, _, rfl, rfl, .inl ⟨_, rfl, _, _, rfl, rfl, by omega, ?_⟩⟩
          refine ⟨_, rfl, _, rfl, _, _, rfl, rfl, ⟨by decide, by decide⟩, _, _, rfl, rfl, _, _, rfl, rfl, .inl (fm_small _), _, rfl, _, _, rfl, rfl, .inl ⟨_, rfl, _, _, rfl, rfl, by omega, ?_⟩⟩
          refine ⟨_, rfl, _, _, rfl, rfl, ⟨by decide, by decide⟩, .inl ⟨_, rfl, _, rfl, _, _, rfl, rfl, by omega, ?_⟩⟩
          exact fin _ _ ob2 bx2
      · refine iteDF ht ?_
        have ob2 := ob1
        have bx2 := bx1
        refine ⟨_, rfl, _, .inl ⟨_, hc1, rfl⟩, ?_⟩
        cases hcs : cs with
        | nil =>
          refine iteF ?_
          refine ⟨_, rfl, _, rfl, _, _, rfl, rfl, .inr ⟨by decide, by decide⟩, _, _, rfl, rfl, _, _, rfl, rfl, .inr ⟨by decide, by decide⟩, _, _, rfl, rfl, .inl ⟨_, rfl, _, _, rfl, rfl, by omega, ?_⟩⟩
          refine ⟨_, rfl, _, rfl, _, _, rfl, rfl, ⟨by decide, by decide⟩, _, _, rfl, rfl, _, _, rfl, rfl, .inl (fm_small _), _, rfl, _, _, rfl, rfl, .inl ⟨_, rfl, _, _, rfl, rfl, by omega, ?_⟩⟩
          refine ⟨_, rfl, _, _, rfl, rfl, ⟨by decide, by decide⟩, .inl ⟨_, rfl, _, rfl, _, _, rfl, rfl, by omega, ?_⟩⟩
          exact fin _ _ ob2 bx2
        | cons y ys =>
          refine iteT ?_
          have l0 : 1 ≤ cs.length := by rw [hcs]; exact Nat.succ_le_succ (Nat.zero_le _)
          obtain ⟨v, hv, ev⟩ := fmod_nat ((t + 1 : Nat) : Int) l0
          obtain ⟨x, hx⟩ : ∃ x, cs[v]? = some x := ⟨_, List.getElem?_eq_getElem hv⟩
          refine ⟨_, rfl, _, rfl, _, rfl, c, _, rfl, .inl hc1, _, _, rfl, rfl, by rw [iV_len]; omega, c, _, _, _, rfl, rfl, hc1, at_of (j := v) (by rw [iV_len]; exact ev) (iV_at hx), _, rfl, ?_⟩
          refine ⟨_, rfl, _, rfl, _, _, rfl, rfl, .inr ⟨by decide, by decide⟩, _, _, rfl, rfl, _, _, rfl, rfl, .inr ⟨by decide, by decide⟩, _, _, rfl, rfl, .inl ⟨_, rfl, _, _, rfl, rfl, by omega, ?_⟩⟩
          refine ⟨_, rfl, _, rfl, _, _, rfl, rfl, ⟨by decide, by decide⟩, _, _, rfl, rfl, _, _, rfl, rfl, .inl (fm_small _), _, rfl, _, _, rfl, rfl, .inl ⟨_, rfl, _, _, rfl, rfl, by omega, ?_⟩⟩
          refine ⟨_, rfl, _, _, rfl, rfl, ⟨by decide, by decide⟩, .inl ⟨_, rfl, _, rfl, _, _, rfl, rfl, by omega, ?_⟩⟩
          exact fin _ _ ob2 bx2
end
end Qd

set_option Elab.async false
set_option linter.all false
set_option maxRecDepth 100000
set_option maxHeartbeats 4000000
/-! The law's helpers, second part: keys, order, like, quiet, swapped. -/
namespace Qd
open PySem PySem.Spec PyProof.Rows L2
theorem seqIx {v n : Nat} (h : v < n) : seqIndex? (v : Int) n = some v := by
  unfold seqIndex?
  have e : (if (v : Int) < 0 then (v : Int) + n else (v : Int)) = v := if_neg (by omega)
  rw [e]
  have : (decide ((0 : Int) ≤ (v : Int)) && decide ((v : Int) < (n : Int))) = true := by
    rw [Bool.and_eq_true]
    exact ⟨decide_eq_true (by omega), decide_eq_true (by omega)⟩
  show (if (decide ((0 : Int) ≤ (v : Int)) && decide ((v : Int) < (n : Int))) = true then some (v : Int).toNat else none) = some v
  rw [if_pos this, Int.toNat_natCast]
theorem pop_perm {α : Type} : ∀ {l : List α} {k : Nat} {y : α}, l[k]? = some y → (y :: l.eraseIdx k).Perm l
  | a :: l, 0, y, h => by
    obtain rfl := Option.some.inj h
    exact .refl _
  | a :: l, k + 1, y, h => by
    have ih := pop_perm (l := l) (k := k) (y := y) h
    rw [List.eraseIdx_cons_succ]
    exact (List.Perm.swap _ _ _).trans (ih.cons a)
theorem iV_erase (ns : List Int) (k : Nat) : (iV ns).eraseIdx k = iV (ns.eraseIdx k) := by
  induction ns generalizing k with
  | nil => rfl
  | cons a l ih =>
    cases k with
    | zero => rfl
    | succ k =>
      show (V.int a :: iV l).eraseIdx (k + 1) = V.int a :: iV (l.eraseIdx k)
      rw [List.eraseIdx_cons_succ, ih]
theorem iV_snoc (ns : List Int) (n : Int) : iV ns ++ [V.int n] = iV (ns ++ [n]) := by
  show _ = (ns ++ [n]).map V.int
  rw [List.map_append]
  rfl
section
variable {P : Program} {w : World} {K : PySem.W.Frag} {mg : Str → Option Value} {base : Heap} {CS CR CU f : Addr} {fd : FuncData}
/-! ### order -/
def sp_orderL (K : PySem.W.Frag) : Sp := fun vs H Q _ => ∃ (b c a : Addr) (ns : List Int), vs = [.ref b, .ref a] ∧ Box K H b c ∧ SqI K H a ns ∧ ns.length ≤ 100 ∧ ∀ H' p ms, Mv K b c H H' → H p = none → H' p = some (.lst (iV ms)) → ms.Perm ns → Q (.ref p) H'
abbrev N_orderL : List Str := ["_law_box_here", "_law_keys_here", "_law_left", "_law_order_here", "_law_k"]
abbrev P_orderL : List Str := ["_law_box_here", "_law_keys_here"]
theorem sc_orderL : FnScope N_orderL P_orderL (defScope s_orderL) := ⟨rfl, rfl, rfl, by decide +kernel, rfl, by decide +kernel, by decide +kernel⟩
theorem ok_orderL (F : F_orderL K f fd) (T : Txt K mg CS CR CU) (c_takeL : Cal P w K mg base "_law_take" 1 P_takeL (sp_takeL K)) : FnOk P w K mg base CX0 2 f fd P_orderL (sp_orderL K) := by
  refine FunD.ok F sc_orderL (fun vs H Q E h => ?_) (fun cdv A outer s H vs Q E hr h => ?_)
  · obtain ⟨b, c, a, ns, rfl, _⟩ := h
    rfl
  · obtain ⟨b, c, a, ns, rfl, h1, ha, hl, k⟩ := h
    have nd := sc_orderL.nd
    refine ⟨_, PSs.nox ((pss_cons (ps_set (i := 2) nd rfl (Or.inl rfl) (pe_callTy (k_list (K := K)) (by rfl) T.list bt_list (pa_cons (pv 1) pa_nil)))
  (pss_cons (ps_set (i := 3) nd rfl (Or.inl rfl) (pe_lst pa_nil))
  (pss_cons (ps_for PassesOwn.never rfl (pi_range1 (by rfl) T.range (pa_cons (pe_callB (k_len (K := K)) (by rfl) T.len bt_len (pa_cons (pv 1) pa_nil)) pa_nil)) (pg_name (i := 4) nd rfl (Or.inl rfl))
    (pss_one (ps_expr (k_bm (K := K) PySem.F.plainAttrs_list PySem.F.slot_list_append PySem.F.type_list_append mt_append (pv 3) (pa_cons (k_bm (K := K) PySem.F.plainAttrs_list PySem.F.slot_list_pop PySem.F.type_list_pop mt_popAt (pv 2) (pa_cons (pe_cal c_takeL (hr.mono (by decide)) (pa_cons (pv 0) (pa_cons (pe_callB (k_len (K := K)) (by rfl) T.len bt_len (pa_cons (pv 2) pa_nil)) pa_nil))) pa_nil)) pa_nil)))))
  (pss_one (ps_ret (pv 3))))))), ?_⟩
    refine ⟨_, rfl, a, _, rfl, .inl ha, fun l nl => ⟨by show 0 ≤ sizeLine; decide, fun o no => ?_⟩⟩
    have s1 := Same.new (o := .lst (iV ns)) nl
    have nlo : l ≠ o := ne_of_none upd_same no
    have no0 : H o = none := s1.free no
    have s2 := Same.put (o := .lst []) s1 no0
    refine ⟨_, rfl, a, _, rfl, .inl (Same.seq s2 ha), _, rfl, (by rw [iV_len ns]; omega), (by rw [iV_len ns]; omega), ?_⟩
    refine for_range (lo := 0) (n := ((iV ns).length : Int).toNat) (fun i σ H1 => ∃ v lf od, σ = [some (.ref b), some (.ref a), some (.ref l), some (.ref o), v] ∧ Mv K b c H H1 ∧ H1 l = some (.lst (iV lf)) ∧ H1 o = some (.lst (iV od)) ∧ lf.length + i = ns.length ∧ (od ++ lf).Perm ns)
      ⟨none, ns, [], rfl, (Mv.refl h1).same s2, by rw [upd_ne nlo, upd_same], upd_same, rfl, .refl _⟩ ?_ ?_
    · rintro i σ H1 hi ⟨v, lf, od, rfl, mv, hl1, ho1, hn, hp⟩
      rw [iV_len, Int.toNat_natCast] at hi
      refine ⟨_, rfl, .inl ⟨rfl, _, SqL.of ho1⟩, _, rfl, .inl ⟨rfl, _, SqL.of hl1⟩, _, rfl, _, rfl, l, _, rfl, .inl (SqL.of hl1), ?_⟩
      rw [iV_len]
      refine ⟨b, c, lf.length, rfl, mv.bx, by omega, by omega, fun H2 v2 mv2 hv => ?_⟩
      obtain ⟨y, hy⟩ : ∃ y, lf[v2]? = some y := ⟨_, List.getElem?_eq_getElem hv⟩
      have hl2 := mv2.ob.keep _ _ hl1 (nb_ints _)
      have ho2 := mv2.ob.keep _ _ ho1 (nb_ints _)
      refine ⟨l, _, _, v2, _, rfl, rfl, hl2, by omega, by omega, seqIx (by rw [iV_len]; exact hv), iV_at hy, ?_⟩
      rw [iV_erase]
      refine ⟨o, _, _, rfl, rfl, by rw [upd_ne (Ne.symm nlo)]; exact ho2, sz12' ?_, ?_⟩
      · have := hp.length_eq
        rw [List.length_append] at this
        rw [iV_len]
        omega
      refine ⟨_, lf.eraseIdx v2, od ++ [y], rfl, Mv.put h1 (Mv.put h1 (mv.trans mv2) nl) no0, ?_, ?_, ?_, ?_⟩
      · rw [upd_ne nlo, upd_same]
      · rw [upd_same, iV_snoc]
      · have := (pop_perm hy).length_eq
        rw [List.length_cons] at this
        omega
      · refine List.Perm.trans ?_ hp
        rw [List.append_assoc]
        exact (pop_perm hy).append_left od
    · rintro σ H1 ⟨v, lf, od, rfl, mv, hl1, ho1, hn, hp⟩
      have e : (iV ns).length = ns.length := iV_len ns
      rw [e, Int.toNat_natCast] at hn
      have e0 : lf = [] := List.length_eq_zero_iff.mp (by omega)
      rw [e0, List.append_nil] at hp
      exact ⟨_, rfl, k _ o od mv no0 ho1 hp⟩
/-! ### keys -/
def sp_keysL (K : PySem.W.Frag) : Sp := fun vs H Q _ => ∃ (b c : Addr) (n : Nat), vs = [.ref b, .int n] ∧ Box K H b c ∧ n ≤ 10 ∧ ∀ H' p ms, Mv K b c H H' → H p = none → H' p = some (.lst (iV ms)) → QD.KOk ms → ms.length = n → Q (.ref p) H'
abbrev N_keysL : List Str := ["_law_box_here", "_law_count_here", "_law_keys_here", "_law_last", "_law_k"]
abbrev P_keysL : List Str := ["_law_box_here", "_law_count_here"]
theorem sc_keysL : FnScope N_keysL P_keysL (defScope s_keysL) := ⟨rfl, rfl, rfl, by decide +kernel, rfl, by decide +kernel, by decide +kernel⟩
theorem ok_keysL (F : F_keysL K f fd) (T : Txt K mg CS CR CU) (c_takeL : Cal P w K mg base "_law_take" 1 P_takeL (sp_takeL K)) (c_orderL : Cal P w K mg base "_law_order" 2 P_orderL (sp_orderL K)) : FnOk P w K mg base CX0 3 f fd P_keysL (sp_keysL K) := by
  refine FunD.ok F sc_keysL (fun vs H Q E h => ?_) (fun cdv A outer s H vs Q E hr h => ?_)
  · obtain ⟨b, c, n, rfl, _⟩ := h
    rfl
  · obtain ⟨b, c, n, rfl, h1, hn, k⟩ := h
    have nd := sc_keysL.nd
    refine ⟨_, PSs.nox ((pss_cons (ps_set (i := 2) nd rfl (Or.inl rfl) (pe_lst pa_nil))
  (pss_cons (ps_set (i := 3) nd rfl (Or.inl rfl) (pe_cal c_takeL (hr.mono (by decide)) (pa_cons (pv 0) (pa_cons pe_int pa_nil))))
  (pss_cons (ps_for PassesOwn.never rfl (pi_range1 (by rfl) T.range (pa_cons (pv 1) pa_nil)) (pg_name (i := 4) nd rfl (Or.inl rfl))
    (pss_cons (ps_expr (k_bm (K := K) PySem.F.plainAttrs_list PySem.F.slot_list_append PySem.F.type_list_append mt_append (pv 2) (pa_cons (pv 3) pa_nil)))
  (pss_one (ps_set (i := 3) nd rfl (Or.inl rfl) (pe_op op_add (pe_op op_add (pv 3) pe_int) (pe_op op_mul (pe_cal c_takeL (hr.mono (by decide)) (pa_cons (pv 0) (pa_cons pe_int pa_nil))) (pe_cal c_takeL (hr.mono (by decide)) (pa_cons (pv 0) (pa_cons pe_int pa_nil)))))))))
  (pss_one (ps_ret (pe_cal c_orderL (hr.mono (by decide)) (pa_cons (pv 0) (pa_cons (pv 2) pa_nil))))))))), ?_⟩
    refine ⟨by show 0 ≤ sizeLine; decide, fun l nl => ?_⟩
    have s1 := Same.new (o := .lst []) nl
    refine ⟨_, rfl, b, c, 600, rfl, h1.mono s1, by decide, by decide, fun H2 x mv2 hx => ?_⟩
    have hl2 := mv2.ob.keep _ _ upd_same (nb_ints [])
    refine ⟨_, rfl, _, rfl, by omega, by omega, ?_⟩
    refine for_range (lo := 0) (n := (n : Int).toNat) (fun i σ H1 => ∃ (v : Option V) (ls : Nat) (ms : List Int), σ = [some (.ref b), some (.int (n : Nat)), some (.ref l), some (.int (ls : Nat)), v] ∧ Mv K b c H H1 ∧ H1 l = some (.lst (iV ms)) ∧ ms.length = i ∧ ls ≤ 599 + 480 * i ∧ ms.Nodup ∧ ∀ m ∈ ms, 0 ≤ m ∧ m < (ls : Int))
      ⟨none, x, [], rfl, ((Mv.refl h1).same s1).trans mv2, hl2, rfl, by omega, List.nodup_nil, fun m hm => by cases hm⟩ ?_ ?_
    · rintro i σ H1 hi ⟨v, ls, ms, rfl, mv, hl1, e1, e2, e3, e4⟩
      rw [Int.toNat_natCast] at hi
      refine ⟨_, rfl, .inl ⟨rfl, _, SqL.of hl1⟩, _, rfl, l, _, _, rfl, rfl, hl1, sz12' (by rw [iV_len]; omega), ?_⟩
      rw [iV_snoc]
      have mvA := Mv.put (o := .lst (iV (ms ++ [(ls : Int)]))) h1 mv nl
      refine ⟨_, rfl, _, _, rfl, rfl, _, rfl, b, c, 3, rfl, mvA.bx, by decide, by decide, fun H2 x mv2 hx => ?_⟩
      refine ⟨_, rfl, b, c, 240, rfl, mv2.bx, by decide, by decide, fun H3 y mv3 hy => ?_⟩
      refine ⟨_, _, rfl, rfl, .inl ⟨by omega, by omega⟩, _, _, rfl, rfl, ?_⟩
      have hl3 := mv3.ob.keep _ _ (mv2.ob.keep _ _ upd_same (nb_ints _)) (nb_ints _)
      have xy : x * y ≤ 2 * 239 := Nat.mul_le_mul (by omega) (by omega)
      have ev : ((ls : Int) + 1 + (x : Int) * (y : Int)) = ((ls + 1 + x * y : Nat) : Int) := by
        rw [Int.natCast_add, Int.natCast_add, Int.natCast_mul]
        rfl
      refine ⟨some (.int (0 + (i : Int))), ls + 1 + x * y, ms ++ [(ls : Int)], ?_, (mvA.trans mv2).trans mv3, hl3, by rw [List.length_append, e1]; rfl, by omega, ?_, fun m hm => ?_⟩
      · rw [← ev]
        rfl
      · refine List.nodup_append.mpr ⟨e3, List.nodup_cons.mpr ⟨(fun h => by cases h), List.nodup_nil⟩, fun a ha d hd e => ?_⟩
        rw [List.mem_singleton.mp hd] at e
        have := (e4 a ha).2
        omega
      · rcases List.mem_append.mp hm with q | q
        · have := e4 m q
          exact ⟨this.1, by omega⟩
        · rw [List.mem_singleton.mp q]
          exact ⟨by omega, by omega⟩
    · rintro σ H1 ⟨v, ls, ms, rfl, mv, hl1, e1, e2, e3, e4⟩
      rw [Int.toNat_natCast] at e1 e2
      have ok : QD.KOk ms := ⟨e3, by omega, fun m hm => (e4 m hm).1, fun m hm => by have := (e4 m hm).2; omega⟩
      refine ⟨_, rfl, _, rfl, b, c, l, ms, rfl, mv.bx, SqL.of hl1, by omega, fun H2 p ms2 mv2 np hp pm => ?_⟩
      exact k _ p ms2 (mv.trans mv2) (mv.ob.has _ np) hp (ok.perm pm) (pm.length_eq.trans e1)
/-! ### like -/
def LikeV (K : PySem.W.Frag) (H : Hp) : Nat → V → V → Prop
  | 0, _, _ => False
  | n + 1, x, y => (∃ i, x = .int i ∧ y = .int i) ∨ (∃ b, x = .bl b ∧ y = .bl b) ∨
    (∃ (p q : Addr) (xs ys : List V), x = .ref p ∧ y = .ref q ∧ SqL K H p xs ∧ SqL K H q ys ∧ xs.length = ys.length ∧ ys.length ≤ 4096 ∧ ∀ (i : Nat) (u v : V), xs[i]? = some u → ys[i]? = some v → LikeV K H n u v) ∨
    ∃ (p q : Addr) (xs ys : List V), x = .ref p ∧ y = .ref q ∧ SqT K H p xs ∧ SqT K H q ys ∧ xs.length = ys.length ∧ ys.length ≤ 4096 ∧ ∀ (i : Nat) (u v : V), xs[i]? = some u → ys[i]? = some v → LikeV K H n u v
theorem tyL {H : Hp} {a : Addr} {xs : List V} (h : SqL K H a xs) : TyX K H (.ref a) (.type "list") := by
  rcases h with (h | ⟨o, h⟩) | ⟨o, its, n, h1, h2, _⟩
  · exact .base (.lst h)
  · exact .base (.frz h)
  · exact .kList h1 h2
theorem tyT {H : Hp} {a : Addr} {xs : List V} (h : SqT K H a xs) : TyX K H (.ref a) (.type "tuple") := by
  rcases h with (h | ⟨o, h⟩) | ⟨o, its, n, h1, h2, _⟩
  · exact .base (.tup h)
  · exact .fTuple h
  · exact .kTuple h1 h2
def sp_likeL (K : PySem.W.Frag) (n : Nat) : Sp := fun vs H Q _ => ∃ x y, vs = [x, y] ∧ LikeV K H n x y ∧ Q (.bl true) H
abbrev N_likeL : List Str := ["_law_told", "_law_due", "_law_k"]
abbrev P_likeL : List Str := ["_law_told", "_law_due"]
theorem sc_likeL : FnScope N_likeL P_likeL (defScope s_likeL) := ⟨rfl, rfl, rfl, by decide +kernel, rfl, by decide +kernel, by decide +kernel⟩
theorem ok_likeL (F : F_likeL K f fd) (T : Txt K mg CS CR CU) (g : mg "_law_like" = some (.ref f)) (kp : PySem.W.keepIn K (.ref f) = true) (bn : Binds K fd P_likeL []) : ∀ n, FnOk P w K mg base CX0 n f fd P_likeL (sp_likeL K n)
  | 0 => ⟨fun vs H Q E ⟨x, y, _, h, _⟩ => h.elim, fun A outer s H args us vs Q E _ _ _ _ ⟨x, y, _, h, _⟩ => h.elim⟩
  | n + 1 => by
    have c_likeL : Cal P w K mg base "_law_like" n P_likeL (sp_likeL K n) := ⟨f, fd, ok_likeL F T g kp bn n, g, kp, bn⟩
    refine FunD.ok F sc_likeL (fun vs H Q E h => ?_) (fun cdv A outer s H vs Q E hr h => ?_)
    · obtain ⟨x, y, rfl, _⟩ := h
      rfl
    · obtain ⟨x, y, rfl, h1, k⟩ := h
      have nd := sc_likeL.nd
      rcases h1 with ⟨i, rfl, rfl⟩ | ⟨b, rfl, rfl⟩ | ⟨p, q, xs, ys, rfl, rfl, hx, hy, hl, hs, he⟩ | ⟨p, q, xs, ys, rfl, rfl, hx, hy, hl, hs, he⟩
      · refine ⟨_, PSs.nox ((pss_cons (ps_if (pt_cmp (pc_isN (pv 1)))
    (pss_one (ps_ret (pe_cmp (pc_isN (pv 0)) rfl)))
    pss_nil)
  (pss_cons (ps_if (pt_val (pe_callB (k_isi (K := K)) (by rfl) T.isinstance bt_isinstance (pa_cons (pv 1) (pa_cons (pe_bltn (v := .ty "bool") (by rfl) T.bool bt_bool rfl) pa_nil))))
    (pss_one (ps_ret (pe_and (pe_callB (k_isi (K := K)) (by rfl) T.isinstance bt_isinstance (pa_cons (pv 0) (pa_cons (pe_bltn (v := .ty "bool") (by rfl) T.bool bt_bool rfl) pa_nil))) (pe_one (pe_cmpR op_eq (pv 0) (pv 1) (nomark _))))))
    pss_nil)
  (pss_cons (ps_if (pt_val (pe_callB (k_isi (K := K)) (by rfl) T.isinstance bt_isinstance (pa_cons (pv 1) (pa_cons (pe_bltn (v := .ty "int") (by rfl) T.int bt_int rfl) pa_nil))))
    (pss_one (ps_ret (pe_and (pe_callB (k_isi (K := K)) (by rfl) T.isinstance bt_isinstance (pa_cons (pv 0) (pa_cons (pe_bltn (v := .ty "int") (by rfl) T.int bt_int rfl) pa_nil))) (pe_and (pe_not (pe_callB (k_isi (K := K)) (by rfl) T.isinstance bt_isinstance (pa_cons (pv 0) (pa_cons (pe_bltn (v := .ty "bool") (by rfl) T.bool bt_bool rfl) pa_nil)))) (pe_one (pe_cmpR op_eq (pv 0) (pv 1) (nomark _)))))))
    pss_nil)
  (pss_cons (ps_if (pt_val (pe_callB (k_isi (K := K)) (by rfl) T.isinstance bt_isinstance (pa_cons (pv 1) (pa_cons (pe_bltn (v := .ty "str") (by rfl) T.str bt_str rfl) pa_nil))))
    (pss_one (ps_ret (pe_and (pe_callB (k_isi (K := K)) (by rfl) T.isinstance bt_isinstance (pa_cons (pv 0) (pa_cons (pe_bltn (v := .ty "str") (by rfl) T.str bt_str rfl) pa_nil))) (pe_one (pe_cmpR op_eq (pv 0) (pv 1) (nomark _))))))
    pss_nil)
  (pss_cons (ps_if (PW.pt (pw_and (pt_val (pe_callB (k_isi (K := K)) (by rfl) T.isinstance bt_isinstance (pa_cons (pv 1) (pa_cons (pe_bltn (v := .ty "tuple") (by rfl) T.tuple bt_tuple rfl) pa_nil)))) (pw_and1 (pt_not (pt_val (pe_callB (k_isi (K := K)) (by rfl) T.isinstance bt_isinstance (pa_cons (pv 0) (pa_cons (pe_bltn (v := .ty "tuple") (by rfl) T.tuple bt_tuple rfl) pa_nil))))))))
    (pss_one (ps_ret pe_bl))
    pss_nil)
  (pss_cons (ps_if (PW.pt (pw_and (pt_val (pe_callB (k_isi (K := K)) (by rfl) T.isinstance bt_isinstance (pa_cons (pv 1) (pa_cons (pe_bltn (v := .ty "list") (by rfl) T.list bt_list rfl) pa_nil)))) (pw_and1 (pt_not (pt_val (pe_callB (k_isi (K := K)) (by rfl) T.isinstance bt_isinstance (pa_cons (pv 0) (pa_cons (pe_bltn (v := .ty "list") (by rfl) T.list bt_list rfl) pa_nil))))))))
    (pss_one (ps_ret pe_bl))
    pss_nil)
  (pss_cons (ps_if (pt_cmpR op_ne (pe_callB (k_len (K := K)) (by rfl) T.len bt_len (pa_cons (pv 0) pa_nil)) (pe_callB (k_len (K := K)) (by rfl) T.len bt_len (pa_cons (pv 1) pa_nil)) (nomark _))
    (pss_one (ps_ret pe_bl))
    pss_nil)
  (pss_cons (ps_for PassesOwn.never rfl (pi_range1 (by rfl) T.range (pa_cons (pe_callB (k_len (K := K)) (by rfl) T.len bt_len (pa_cons (pv 1) pa_nil)) pa_nil)) (pg_name (i := 2) nd rfl (Or.inl rfl))
    (pss_one (ps_if (pt_not (pt_val (pe_cal c_likeL hr (pa_cons (pe_ix (k_ixL (K := K)) (pv 0) (pv 2) (fun _ _ => rfl)) (pa_cons (pe_ix (k_ixL (K := K)) (pv 1) (pv 2) (fun _ _ => rfl)) pa_nil)))))
    (pss_one (ps_ret pe_bl))
    pss_nil)))
  (pss_one (ps_ret pe_bl))))))))))), ?_⟩
        refine ⟨_, rfl, _, rfl, iteF ?_⟩
        refine ⟨_, rfl, _, _, _, _, _, rfl, .ty _, .base (.int _), rfl, _, rfl, iteF ?_⟩
        refine ⟨_, rfl, _, _, _, _, _, rfl, .ty _, .base (.int _), rfl, _, rfl, iteT ?_⟩
        refine ⟨_, rfl, _, _, _, _, _, rfl, .ty _, .base (.int _), rfl, _, rfl, iteT ?_⟩
        refine ⟨_, rfl, _, _, _, _, _, rfl, .ty _, .base (.int _), rfl, _, rfl, _, rfl, iteT ?_⟩
        refine ⟨_, rfl, _, rfl, rfl, ?_⟩
        show Q (.bl (decide (V.int i = V.int i))) H
        rw [decide_eq_true rfl]
        exact k
      · refine ⟨_, PSs.nox ((pss_cons (ps_if (pt_cmp (pc_isN (pv 1)))
    (pss_one (ps_ret (pe_cmp (pc_isN (pv 0)) rfl)))
    pss_nil)
  (pss_cons (ps_if (pt_val (pe_callB (k_isi (K := K)) (by rfl) T.isinstance bt_isinstance (pa_cons (pv 1) (pa_cons (pe_bltn (v := .ty "bool") (by rfl) T.bool bt_bool rfl) pa_nil))))
    (pss_one (ps_ret (pe_and (pe_callB (k_isi (K := K)) (by rfl) T.isinstance bt_isinstance (pa_cons (pv 0) (pa_cons (pe_bltn (v := .ty "bool") (by rfl) T.bool bt_bool rfl) pa_nil))) (pe_one (pe_cmpR op_eq (pv 0) (pv 1) (nomark _))))))
    pss_nil)
  (pss_cons (ps_if (pt_val (pe_callB (k_isi (K := K)) (by rfl) T.isinstance bt_isinstance (pa_cons (pv 1) (pa_cons (pe_bltn (v := .ty "int") (by rfl) T.int bt_int rfl) pa_nil))))
    (pss_one (ps_ret (pe_and (pe_callB (k_isi (K := K)) (by rfl) T.isinstance bt_isinstance (pa_cons (pv 0) (pa_cons (pe_bltn (v := .ty "int") (by rfl) T.int bt_int rfl) pa_nil))) (pe_and (pe_not (pe_callB (k_isi (K := K)) (by rfl) T.isinstance bt_isinstance (pa_cons (pv 0) (pa_cons (pe_bltn (v := .ty "bool") (by rfl) T.bool bt_bool rfl) pa_nil)))) (pe_one (pe_cmpR op_eq (pv 0) (pv 1) (nomark _)))))))
    pss_nil)
  (pss_cons (ps_if (pt_val (pe_callB (k_isi (K := K)) (by rfl) T.isinstance bt_isinstance (pa_cons (pv 1) (pa_cons (pe_bltn (v := .ty "str") (by rfl) T.str bt_str rfl) pa_nil))))
    (pss_one (ps_ret (pe_and (pe_callB (k_isi (K := K)) (by rfl) T.isinstance bt_isinstance (pa_cons (pv 0) (pa_cons (pe_bltn (v := .ty "str") (by rfl) T.str bt_str rfl) pa_nil))) (pe_one (pe_cmpR op_eq (pv 0) (pv 1) (nomark _))))))
    pss_nil)
  (pss_cons (ps_if (PW.pt (pw_and (pt_val (pe_callB (k_isi (K := K)) (by rfl) T.isinstance bt_isinstance (pa_cons (pv 1) (pa_cons (pe_bltn (v := .ty "tuple") (by rfl) T.tuple bt_tuple rfl) pa_nil)))) (pw_and1 (pt_not (pt_val (pe_callB (k_isi (K := K)) (by rfl) T.isinstance bt_isinstance (pa_cons (pv 0) (pa_cons (pe_bltn (v := .ty "tuple") (by rfl) T.tuple bt_tuple rfl) pa_nil))))))))
    (pss_one (ps_ret pe_bl))
    pss_nil)
  (pss_cons (ps_if (PW.pt (pw_and (pt_val (pe_callB (k_isi (K := K)) (by rfl) T.isinstance bt_isinstance (pa_cons (pv 1) (pa_cons (pe_bltn (v := .ty "list") (by rfl) T.list bt_list rfl) pa_nil)))) (pw_and1 (pt_not (pt_val (pe_callB (k_isi (K := K)) (by rfl) T.isinstance bt_isinstance (pa_cons (pv 0) (pa_cons (pe_bltn (v := .ty "list") (by rfl) T.list bt_list rfl) pa_nil))))))))
    (pss_one (ps_ret pe_bl))
    pss_nil)
  (pss_cons (ps_if (pt_cmpR op_ne (pe_callB (k_len (K := K)) (by rfl) T.len bt_len (pa_cons (pv 0) pa_nil)) (pe_callB (k_len (K := K)) (by rfl) T.len bt_len (pa_cons (pv 1) pa_nil)) (nomark _))
    (pss_one (ps_ret pe_bl))
    pss_nil)
  (pss_cons (ps_for PassesOwn.never rfl (pi_range1 (by rfl) T.range (pa_cons (pe_callB (k_len (K := K)) (by rfl) T.len bt_len (pa_cons (pv 1) pa_nil)) pa_nil)) (pg_name (i := 2) nd rfl (Or.inl rfl))
    (pss_one (ps_if (pt_not (pt_val (pe_cal c_likeL hr (pa_cons (pe_ix (k_ixL (K := K)) (pv 0) (pv 2) (fun _ _ => rfl)) (pa_cons (pe_ix (k_ixL (K := K)) (pv 1) (pv 2) (fun _ _ => rfl)) pa_nil)))))
    (pss_one (ps_ret pe_bl))
    pss_nil)))
  (pss_one (ps_ret pe_bl))))))))))), ?_⟩
        refine ⟨_, rfl, _, rfl, iteF ?_⟩
        refine ⟨_, rfl, _, _, _, _, _, rfl, .ty _, .base (.bl _), rfl, _, rfl, iteT ?_⟩
        refine ⟨_, rfl, _, _, _, _, _, rfl, .ty _, .base (.bl _), rfl, _, rfl, iteT ?_⟩
        refine ⟨_, rfl, _, rfl, rfl, ?_⟩
        show Q (.bl (decide (V.bl b = V.bl b))) H
        rw [decide_eq_true rfl]
        exact k
      · refine ⟨_, PSs.nox ((pss_cons (ps_if (pt_cmp (pc_isN (pv 1)))
    (pss_one (ps_ret (pe_cmp (pc_isN (pv 0)) rfl)))
    pss_nil)
  (pss_cons (ps_if (pt_val (pe_callB (k_isi (K := K)) (by rfl) T.isinstance bt_isinstance (pa_cons (pv 1) (pa_cons (pe_bltn (v := .ty "bool") (by rfl) T.bool bt_bool rfl) pa_nil))))
    (pss_one (ps_ret (pe_and (pe_callB (k_isi (K := K)) (by rfl) T.isinstance bt_isinstance (pa_cons (pv 0) (pa_cons (pe_bltn (v := .ty "bool") (by rfl) T.bool bt_bool rfl) pa_nil))) (pe_one (pe_cmpR op_eq (pv 0) (pv 1) (nomark _))))))
    pss_nil)
  (pss_cons (ps_if (pt_val (pe_callB (k_isi (K := K)) (by rfl) T.isinstance bt_isinstance (pa_cons (pv 1) (pa_cons (pe_bltn (v := .ty "int") (by rfl) T.int bt_int rfl) pa_nil))))
    (pss_one (ps_ret (pe_and (pe_callB (k_isi (K := K)) (by rfl) T.isinstance bt_isinstance (pa_cons (pv 0) (pa_cons (pe_bltn (v := .ty "int") (by rfl) T.int bt_int rfl) pa_nil))) (pe_and (pe_not (pe_callB (k_isi (K := K)) (by rfl) T.isinstance bt_isinstance (pa_cons (pv 0) (pa_cons (pe_bltn (v := .ty "bool") (by rfl) T.bool bt_bool rfl) pa_nil)))) (pe_one (pe_cmpR op_eq (pv 0) (pv 1) (nomark _)))))))
    pss_nil)
  (pss_cons (ps_if (pt_val (pe_callB (k_isi (K := K)) (by rfl) T.isinstance bt_isinstance (pa_cons (pv 1) (pa_cons (pe_bltn (v := .ty "str") (by rfl) T.str bt_str rfl) pa_nil))))
    (pss_one (ps_ret (pe_and (pe_callB (k_isi (K := K)) (by rfl) T.isinstance bt_isinstance (pa_cons (pv 0) (pa_cons (pe_bltn (v := .ty "str") (by rfl) T.str bt_str rfl) pa_nil))) (pe_one (pe_cmpR op_eq (pv 0) (pv 1) (nomark _))))))
    pss_nil)
  (pss_cons (ps_if (PW.pt (pw_and (pt_val (pe_callB (k_isi (K := K)) (by rfl) T.isinstance bt_isinstance (pa_cons (pv 1) (pa_cons (pe_bltn (v := .ty "tuple") (by rfl) T.tuple bt_tuple rfl) pa_nil)))) (pw_and1 (pt_not (pt_val (pe_callB (k_isi (K := K)) (by rfl) T.isinstance bt_isinstance (pa_cons (pv 0) (pa_cons (pe_bltn (v := .ty "tuple") (by rfl) T.tuple bt_tuple rfl) pa_nil))))))))
    (pss_one (ps_ret pe_bl))
    pss_nil)
  (pss_cons (ps_if (PW.pt (pw_and (pt_val (pe_callB (k_isi (K := K)) (by rfl) T.isinstance bt_isinstance (pa_cons (pv 1) (pa_cons (pe_bltn (v := .ty "list") (by rfl) T.list bt_list rfl) pa_nil)))) (pw_and1 (pt_not (pt_val (pe_callB (k_isi (K := K)) (by rfl) T.isinstance bt_isinstance (pa_cons (pv 0) (pa_cons (pe_bltn (v := .ty "list") (by rfl) T.list bt_list rfl) pa_nil))))))))
    (pss_one (ps_ret pe_bl))
    pss_nil)
  (pss_cons (ps_if (pt_cmpR op_ne (pe_callB (k_len (K := K)) (by rfl) T.len bt_len (pa_cons (pv 0) pa_nil)) (pe_callB (k_len (K := K)) (by rfl) T.len bt_len (pa_cons (pv 1) pa_nil)) (nomark _))
    (pss_one (ps_ret pe_bl))
    pss_nil)
  (pss_cons (ps_for PassesOwn.never rfl (pi_range1 (by rfl) T.range (pa_cons (pe_callB (k_len (K := K)) (by rfl) T.len bt_len (pa_cons (pv 1) pa_nil)) pa_nil)) (pg_name (i := 2) nd rfl (Or.inl rfl))
    (pss_one (ps_if (pt_not (pt_val (pe_cal c_likeL hr (pa_cons (pe_ix (k_ixL (K := K)) (pv 0) (pv 2) (fun _ _ => rfl)) (pa_cons (pe_ix (k_ixL (K := K)) (pv 1) (pv 2) (fun _ _ => rfl)) pa_nil)))))
    (pss_one (ps_ret pe_bl))
    pss_nil)))
  (pss_one (ps_ret pe_bl))))))))))), ?_⟩
        refine ⟨_, rfl, _, rfl, iteF ?_⟩
        refine ⟨_, rfl, _, _, _, _, _, rfl, .ty _, tyL hy, rfl, _, rfl, iteF ?_⟩
        refine ⟨_, rfl, _, _, _, _, _, rfl, .ty _, tyL hy, rfl, _, rfl, iteF ?_⟩
        refine ⟨_, rfl, _, _, _, _, _, rfl, .ty _, tyL hy, rfl, _, rfl, iteF ?_⟩
        refine ⟨_, rfl, _, _, _, _, _, rfl, .ty _, tyL hy, rfl, _, rfl, iteF (iteF ?_)⟩
        refine ⟨_, rfl, _, _, _, _, _, rfl, .ty _, tyL hy, rfl, _, rfl, iteT ⟨_, rfl, _, _, _, _, _, rfl, .ty _, tyL hx, rfl, _, rfl, iteF ?_⟩⟩
        refine ⟨_, rfl, p, _, rfl, .inl hx, _, rfl, q, _, rfl, .inl hy, rfl, _, rfl, ?_⟩
        rw [hl, decide_eq_true rfl]
        refine iteF ?_
        refine ⟨_, rfl, q, _, rfl, .inl hy, _, rfl, by omega, by omega, ?_⟩
        refine for_range (lo := 0) (n := ((ys.length : Nat) : Int).toNat) (fun j σ H1 => ∃ v, σ = [some (.ref p), some (.ref q), v] ∧ H1 = H) ⟨none, rfl, rfl⟩ ?_ ?_
        · rintro j σ H1 hj ⟨v, rfl, rfl⟩
          rw [Int.toNat_natCast] at hj
          have e0 : (0 + (j : Int)) = j := Int.zero_add _
          rw [e0]
          obtain ⟨a, ha⟩ : ∃ a, xs[j]? = some a := ⟨_, List.getElem?_eq_getElem (show j < xs.length by omega)⟩
          obtain ⟨c, hc⟩ : ∃ c, ys[j]? = some c := ⟨_, List.getElem?_eq_getElem hj⟩
          exact ⟨_, rfl, _, rfl, p, _, _, _, rfl, rfl, hx, atI_nat ha, _, rfl, _, rfl, q, _, _, _, rfl, rfl, hy, atI_nat hc, a, c, rfl, he j a c ha hc, _, rfl, iteF ⟨_, rfl, rfl⟩⟩
        · rintro σ H1 ⟨v, rfl, rfl⟩
          exact k
      · refine ⟨_, PSs.nox ((pss_cons (ps_if (pt_cmp (pc_isN (pv 1)))
    (pss_one (ps_ret (pe_cmp (pc_isN (pv 0)) rfl)))
    pss_nil)
  (pss_cons (ps_if (pt_val (pe_callB (k_isi (K := K)) (by rfl) T.isinstance bt_isinstance (pa_cons (pv 1) (pa_cons (pe_bltn (v := .ty "bool") (by rfl) T.bool bt_bool rfl) pa_nil))))
    (pss_one (ps_ret (pe_and (pe_callB (k_isi (K := K)) (by rfl) T.isinstance bt_isinstance (pa_cons (pv 0) (pa_cons (pe_bltn (v := .ty "bool") (by rfl) T.bool bt_bool rfl) pa_nil))) (pe_one (pe_cmpR op_eq (pv 0) (pv 1) (nomark _))))))
    pss_nil)
  (pss_cons (ps_if (pt_val (pe_callB (k_isi (K := K)) (by rfl) T.isinstance bt_isinstance (pa_cons (pv 1) (pa_cons (pe_bltn (v := .ty "int") (by rfl) T.int bt_int rfl) pa_nil))))
    (pss_one (ps_ret (pe_and (pe_callB (k_isi (K := K)) (by rfl) T.isinstance bt_isinstance (pa_cons (pv 0) (pa_cons (pe_bltn (v := .ty "int") (by rfl) T.int bt_int rfl) pa_nil))) (pe_and (pe_not (pe_callB (k_isi (K := K)) (by rfl) T.isinstance bt_isinstance (pa_cons (pv 0) (pa_cons (pe_bltn (v := .ty "bool") (by rfl) T.bool bt_bool rfl) pa_nil)))) (pe_one (pe_cmpR op_eq (pv 0) (pv 1) (nomark _)))))))
    pss_nil)
  (pss_cons (ps_if (pt_val (pe_callB (k_isi (K := K)) (by rfl) T.isinstance bt_isinstance (pa_cons (pv 1) (pa_cons (pe_bltn (v := .ty "str") (by rfl) T.str bt_str rfl) pa_nil))))
    (pss_one (ps_ret (pe_and (pe_callB (k_isi (K := K)) (by rfl) T.isinstance bt_isinstance (pa_cons (pv 0) (pa_cons (pe_bltn (v := .ty "str") (by rfl) T.str bt_str rfl) pa_nil))) (pe_one (pe_cmpR op_eq (pv 0) (pv 1) (nomark _))))))
    pss_nil)
  (pss_cons (ps_if (PW.pt (pw_and (pt_val (pe_callB (k_isi (K := K)) (by rfl) T.isinstance bt_isinstance (pa_cons (pv 1) (pa_cons (pe_bltn (v := .ty "tuple") (by rfl) T.tuple bt_tuple rfl) pa_nil)))) (pw_and1 (pt_not (pt_val (pe_callB (k_isi (K := K)) (by rfl) T.isinstance bt_isinstance (pa_cons (pv 0) (pa_cons (pe_bltn (v := .ty "tuple") (by rfl) T.tuple bt_tuple rfl) pa_nil))))))))
    (pss_one (ps_ret pe_bl))
    pss_nil)
  (pss_cons (ps_if (PW.pt (pw_and (pt_val (pe_callB (k_isi (K := K)) (by rfl) T.isinstance bt_isinstance (pa_cons (pv 1) (pa_cons (pe_bltn (v := .ty "list") (by rfl) T.list bt_list rfl) pa_nil)))) (pw_and1 (pt_not (pt_val (pe_callB (k_isi (K := K)) (by rfl) T.isinstance bt_isinstance (pa_cons (pv 0) (pa_cons (pe_bltn (v := .ty "list") (by rfl) T.list bt_list rfl) pa_nil))))))))
    (pss_one (ps_ret pe_bl))
    pss_nil)
  (pss_cons (ps_if (pt_cmpR op_ne (pe_callB (k_len (K := K)) (by rfl) T.len bt_len (pa_cons (pv 0) pa_nil)) (pe_callB (k_len (K := K)) (by rfl) T.len bt_len (pa_cons (pv 1) pa_nil)) (nomark _))
    (pss_one (ps_ret pe_bl))
    pss_nil)
  (pss_cons (ps_for PassesOwn.never rfl (pi_range1 (by rfl) T.range (pa_cons (pe_callB (k_len (K := K)) (by rfl) T.len bt_len (pa_cons (pv 1) pa_nil)) pa_nil)) (pg_name (i := 2) nd rfl (Or.inl rfl))
    (pss_one (ps_if (pt_not (pt_val (pe_cal c_likeL hr (pa_cons (pe_ix (k_ixT (K := K)) (pv 0) (pv 2) (fun _ _ => rfl)) (pa_cons (pe_ix (k_ixT (K := K)) (pv 1) (pv 2) (fun _ _ => rfl)) pa_nil)))))
    (pss_one (ps_ret pe_bl))
    pss_nil)))
  (pss_one (ps_ret pe_bl))))))))))), ?_⟩
        refine ⟨_, rfl, _, rfl, iteF ?_⟩
        refine ⟨_, rfl, _, _, _, _, _, rfl, .ty _, tyT hy, rfl, _, rfl, iteF ?_⟩
        refine ⟨_, rfl, _, _, _, _, _, rfl, .ty _, tyT hy, rfl, _, rfl, iteF ?_⟩
        refine ⟨_, rfl, _, _, _, _, _, rfl, .ty _, tyT hy, rfl, _, rfl, iteF ?_⟩
        refine ⟨_, rfl, _, _, _, _, _, rfl, .ty _, tyT hy, rfl, _, rfl, iteT ⟨_, rfl, _, _, _, _, _, rfl, .ty _, tyT hx, rfl, _, rfl, iteF ?_⟩⟩
        refine ⟨_, rfl, _, _, _, _, _, rfl, .ty _, tyT hy, rfl, _, rfl, iteF (iteF ?_)⟩
        refine ⟨_, rfl, p, _, rfl, .inr hx, _, rfl, q, _, rfl, .inr hy, rfl, _, rfl, ?_⟩
        rw [hl, decide_eq_true rfl]
        refine iteF ?_
        refine ⟨_, rfl, q, _, rfl, .inr hy, _, rfl, by omega, by omega, ?_⟩
        refine for_range (lo := 0) (n := ((ys.length : Nat) : Int).toNat) (fun j σ H1 => ∃ v, σ = [some (.ref p), some (.ref q), v] ∧ H1 = H) ⟨none, rfl, rfl⟩ ?_ ?_
        · rintro j σ H1 hj ⟨v, rfl, rfl⟩
          rw [Int.toNat_natCast] at hj
          have e0 : (0 + (j : Int)) = j := Int.zero_add _
          rw [e0]
          obtain ⟨a, ha⟩ : ∃ a, xs[j]? = some a := ⟨_, List.getElem?_eq_getElem (show j < xs.length by omega)⟩
          obtain ⟨c, hc⟩ : ∃ c, ys[j]? = some c := ⟨_, List.getElem?_eq_getElem hj⟩
          exact ⟨_, rfl, _, rfl, p, _, _, _, rfl, rfl, hx, atI_nat ha, _, rfl, _, rfl, q, _, _, _, rfl, rfl, hy, atI_nat hc, a, c, rfl, he j a c ha hc, _, rfl, iteF ⟨_, rfl, rfl⟩⟩
        · rintro σ H1 ⟨v, rfl, rfl⟩
          exact k
/-! ### quiet -/
theorem idx_le : ∀ {l : List Int} {i : Nat} {a : Int}, l[i]? = some a → l.idxOf a ≤ i
  | c :: t, 0, a, h => by
    obtain rfl := Option.some.inj h
    rw [QD.idx_cons, if_pos rfl]
    exact Nat.le_refl _
  | c :: t, i + 1, a, h => by
    have ih := idx_le (l := t) (i := i) (a := a) h
    rw [QD.idx_cons]
    by_cases e : c = a
    · rw [if_pos e]
      omega
    · rw [if_neg e]
      omega
theorem ix1 {ns : List Int} {x : Int} (hx : x ∈ ns) : (iV ns)[ns.idxOf x]? = some (.int x) := by
  have hlt := List.idxOf_lt_length_of_mem hx
  exact iV_at (by rw [List.getElem?_eq_getElem hlt, List.getElem_idxOf hlt])
theorem ix2 (x : Int) : eqV (.int x) (.int x) = true := by
  show ((x : Int) == x) = true
  exact beq_self_eq_true x
theorem ix3 {ns : List Int} {x : Int} : ∀ (m : Nat) (z' : V), m < ns.idxOf x → (iV ns)[m]? = some z' → eqV z' (.int x) = false := fun m z' hm hz => by
  obtain ⟨z, hz', rfl⟩ := iV_of hz
  show ((z : Int) == x) = false
  rw [beq_eq_false_iff_ne]
  intro e
  subst e
  have := idx_le hz'
  omega
def sp_quietL (K : PySem.W.Frag) : Sp := fun vs H Q _ => ∃ (a : Addr) (L : QD.LS) (w i : Nat), vs = [.ref a, .int w, .int i] ∧ LLs K H a L ∧ QD.StOk L ∧ w < 3 ∧ i + 1 < (L w).length ∧ Q (.bl (QD.quiet L w i)) H
abbrev N_quietL : List Str := ["_law_lists_here", "_law_who", "_law_index", "_law_order_here", "_law_x", "_law_y", "_law_other", "_law_third"]
abbrev P_quietL : List Str := ["_law_lists_here", "_law_who", "_law_index"]
theorem sc_quietL : FnScope N_quietL P_quietL (defScope s_quietL) := ⟨rfl, rfl, rfl, by decide +kernel, rfl, by decide +kernel, by decide +kernel⟩
theorem ok_quietL (F : F_quietL K f fd) (T : Txt K mg CS CR CU) : FnOk P w K mg base CX0 1 f fd P_quietL (sp_quietL K) := by
  refine FunD.ok F sc_quietL (fun vs H Q E h => ?_) (fun cdv A outer s H vs Q E hr h => ?_)
  · obtain ⟨a, L, w, i, rfl, _⟩ := h
    rfl
  · obtain ⟨a, L, w, i, rfl, h1, ok, hw, hi, k⟩ := h
    have nd := sc_quietL.nd
    refine ⟨_, PSs.nox ((pss_cons (ps_set (i := 3) nd rfl (Or.inl rfl) (pe_ix (k_ixL (K := K)) (pv 0) (pv 1) (fun _ _ => rfl)))
  (pss_cons (ps_set (i := 4) nd rfl (Or.inl rfl) (pe_ix (k_ixL (K := K)) (pv 3) (pv 2) (fun _ _ => rfl)))
  (pss_cons (ps_set (i := 5) nd rfl (Or.inl rfl) (pe_ix (k_ixL (K := K)) (pv 3) (pe_op op_add (pv 2) pe_int) (fun _ _ => rfl)))
  (pss_cons (ps_set (i := 6) nd rfl (Or.inl rfl) (pe_ix (k_ixL (K := K)) (pv 0) (pe_op op_modN (pe_callTy call_int1 (by rfl) T.int bt_int (pa_cons (pe_op op_add (pv 1) pe_int) pa_nil)) pe_int) (fun _ _ => rfl)))
  (pss_cons (ps_set (i := 7) nd rfl (Or.inl rfl) (pe_ix (k_ixL (K := K)) (pv 0) (pe_op op_modN (pe_callTy call_int1 (by rfl) T.int bt_int (pa_cons (pe_op op_add (pv 1) pe_int) pa_nil)) pe_int) (fun _ _ => rfl)))
  (pss_one (ps_ret (pe_cmpR op_eq (pe_cmpR op_lt (k_bm (K := K) PySem.F.plainAttrs_list PySem.F.slot_list_index PySem.F.type_list_index (k_index (K := K)) (pv 6) (pa_cons (pv 4) pa_nil)) (k_bm (K := K) PySem.F.plainAttrs_list PySem.F.slot_list_index PySem.F.type_list_index (k_index (K := K)) (pv 6) (pa_cons (pv 5) pa_nil)) (nomark _)) (pe_cmpR op_lt (k_bm (K := K) PySem.F.plainAttrs_list PySem.F.slot_list_index PySem.F.type_list_index (k_index (K := K)) (pv 7) (pa_cons (pv 4) pa_nil)) (k_bm (K := K) PySem.F.plainAttrs_list PySem.F.slot_list_index PySem.F.type_list_index (k_index (K := K)) (pv 7) (pa_cons (pv 5) pa_nil)) (nomark _)) (nomark _)))))))))), ?_⟩
    obtain ⟨B, hB, hBw, hBi⟩ := h1.at_
    have n := QD.nb_at ok hw hi
    obtain ⟨x, hx⟩ : ∃ x, x = (L w).getD i 0 := ⟨_, rfl⟩
    obtain ⟨y, hy⟩ : ∃ y, y = (L w).getD (i + 1) 0 := ⟨_, rfl⟩
    rw [← hx, ← hy] at n
    have mx : ∀ j, j < 3 → x ∈ L j := fun j hj => (ok.mem hj).mpr ((ok.mem hw).mp n.ma)
    have my : ∀ j, j < 3 → y ∈ L j := fun j hj => (ok.mem hj).mpr ((ok.mem hw).mp n.mb)
    have ex := QD.getD_at (l := L w) (i := i) (by omega)
    have ey := QD.getD_at (l := L w) hi
    rw [← hx] at ex
    rw [← hy] at ey
    have em : ∀ j : Nat, ((w : Int) + (j : Int)).fmod 3 = (((w + j) % 3 : Nat) : Int) := fun j => by
      rw [Int.fmod_eq_emod_of_nonneg _ (by decide)]
      omega
    refine ⟨_, rfl, _, rfl, a, _, _, _, rfl, rfl, hB, three_at hw, ?_⟩
    refine ⟨_, rfl, _, rfl, B w, _, _, _, rfl, rfl, hBw w hw, at_of (j := i) rfl (iV_at ex), ?_⟩
    refine ⟨_, rfl, _, rfl, _, _, rfl, rfl, B w, _, _, _, rfl, rfl, hBw w hw, at_of (j := i + 1) rfl (iV_at ey), ?_⟩
    refine ⟨_, rfl, _, rfl, _, _, rfl, rfl, .inl ⟨_, rfl, _, _, rfl, rfl, by omega, a, _, _, _, rfl, rfl, hB, (by rw [show ((w : Int) + 1).fmod 3 = (((w + 1) % 3 : Nat) : Int) from em 1]; exact three_at (QD.oth_lt w)), ?_⟩⟩
    refine ⟨_, rfl, _, rfl, _, _, rfl, rfl, .inl ⟨_, rfl, _, _, rfl, rfl, by omega, a, _, _, _, rfl, rfl, hB, (by rw [show ((w : Int) + 2).fmod 3 = (((w + 2) % 3 : Nat) : Int) from em 2]; exact three_at (QD.thr_lt w)), ?_⟩⟩
    have ho := hBw _ (QD.oth_lt w)
    have ht := hBw _ (QD.thr_lt w)
    refine ⟨_, rfl, .inl ⟨rfl, _, ho⟩, _, rfl, _, _, _, _, _, rfl, rfl, ho, rfl, iV_flat _, ix1 (mx _ (QD.oth_lt w)), ix2 _, ix3, ?_⟩
    refine ⟨_, rfl, .inl ⟨rfl, _, ho⟩, _, rfl, _, _, _, _, _, rfl, rfl, ho, rfl, iV_flat _, ix1 (my _ (QD.oth_lt w)), ix2 _, ix3, _, _, rfl, rfl, ?_⟩
    refine ⟨_, rfl, .inl ⟨rfl, _, ht⟩, _, rfl, _, _, _, _, _, rfl, rfl, ht, rfl, iV_flat _, ix1 (mx _ (QD.thr_lt w)), ix2 _, ix3, ?_⟩
    refine ⟨_, rfl, .inl ⟨rfl, _, ht⟩, _, rfl, _, _, _, _, _, rfl, rfl, ht, rfl, iV_flat _, ix1 (my _ (QD.thr_lt w)), ix2 _, ix3, _, _, rfl, rfl, rfl, ?_⟩
    have db : ∀ l : List Int, decide (((l.idxOf x : Nat) : Int) < (l.idxOf y : Nat)) = QD.bef l x y := fun l => by
      unfold QD.bef
      exact decide_eq_decide.mpr (by omega)
    have e : decide (V.bl (decide ((((L (QD.oth w)).idxOf x : Nat) : Int) < ((L (QD.oth w)).idxOf y : Nat))) = V.bl (decide ((((L (QD.thr w)).idxOf x : Nat) : Int) < ((L (QD.thr w)).idxOf y : Nat)))) = QD.quiet L w i := by
      rw [db, db]
      unfold QD.quiet
      rw [← hx, ← hy]
      cases QD.bef (L (QD.oth w)) x y <;> cases QD.bef (L (QD.thr w)) x y <;> rfl
    show Q (.bl (decide (V.bl (decide ((((L (QD.oth w)).idxOf x : Nat) : Int) < ((L (QD.oth w)).idxOf y : Nat))) = V.bl (decide ((((L (QD.thr w)).idxOf x : Nat) : Int) < ((L (QD.thr w)).idxOf y : Nat)))))) H
    rw [e]
    exact k
/-! ### swapped -/
def sp_swappedL (K : PySem.W.Frag) : Sp := fun vs H Q _ => ∃ (a : Addr) (L : QD.LS) (w i : Nat), vs = [.ref a, .int w, .int i] ∧ LLs K H a L ∧ w < 3 ∧ i + 1 < (L w).length ∧ ∀ H' D B, Same H H' → FLs H H' D B (QD.swS L (w, i)) → Q (.ref D) H'
abbrev N_swappedL : List Str := ["_law_lists_here", "_law_who", "_law_index", "_law_later", "_law_row", "_law_x", "_law_order_here"]
abbrev P_swappedL : List Str := ["_law_lists_here", "_law_who", "_law_index"]
theorem sc_swappedL : FnScope N_swappedL P_swappedL (defScope s_swappedL) := ⟨rfl, rfl, rfl, by decide +kernel, rfl, by decide +kernel, by decide +kernel⟩
theorem ok_swappedL (F : F_swappedL K f fd) (T : Txt K mg CS CR CU) : FnOk P w K mg base CX0 1 f fd P_swappedL (sp_swappedL K) := by
  refine FunD.ok F sc_swappedL (fun vs H Q E h => ?_) (fun cdv A outer s H vs Q E hr h => ?_)
  · obtain ⟨a, L, w, i, rfl, _⟩ := h
    rfl
  · obtain ⟨a, L, w, i, rfl, h1, hw, hi, k⟩ := h
    have nd := sc_swappedL.nd
    refine ⟨_, PSs.nox ((pss_cons (ps_setLc (i := 3) (own := [("_law_order_here", 6)]) (g := gName 6) rfl nd rfl rfl (sw_true rfl rfl rfl (by decide +kernel)) (ki_list (K := K) (pv 0)) (blkOk_by (own := [("_law_order_here", 6)]) (N := N_swappedL) (sc := defScope s_swappedL) (by decide +kernel)) (fun _ _ _ _ _ => pg_name (i := 6) nd rfl (Or.inl rfl)) (fun _ _ _ _ _ => pts_nil) (fun _ _ _ _ _ => (pe_callTy (k_list (K := K)) (by rfl) T.list bt_list (pa_cons (pv 6) pa_nil))))
  (pss_cons (ps_set (i := 4) nd rfl (Or.inl rfl) (pe_ix (k_ixL (K := K)) (pv 3) (pv 1) (fun _ _ => rfl)))
  (pss_cons (ps_set (i := 5) nd rfl (Or.inl rfl) (pe_ix (k_ixL (K := K)) (pv 4) (pv 2) (fun _ _ => rfl)))
  (pss_cons (ps_asg (pe_ix (k_ixL (K := K)) (pv 4) (pe_op op_add (pv 2) pe_int) (fun _ _ => rfl)) (pg_sub (pv 4) (pv 2) set_list))
  (pss_cons (ps_asg (pv 5) (pg_sub (pv 4) (pe_op op_add (pv 2) pe_int) set_list))
  (pss_one (ps_ret (pv 3))))))))), ?_⟩
    obtain ⟨B, hB, hBw, hBi⟩ := h1.at_
    have ex := QD.getD_at (l := L w) (i := i) (by omega)
    have ey := QD.getD_at (l := L w) hi
    refine ⟨_, rfl, a, rfl, ⟨_, hB⟩, fun D hD => ?_⟩
    refine lc_list (K := K) (a := a) (fun i H2 => PvC H D (lO L) i H2) (PvC.zero hD) (fun i H2 _ q => Same.seq q.s hB) (fun i x H2 hx q => ?_) fun H2 q => ?_
    · obtain ⟨hi, rfl⟩ := three_of hx
      exact ⟨rfl, _, rfl, B i, _, rfl, .inl (Same.seq q.s (hBw i hi)), fun l hl => q.step hD hl hi⟩
    · obtain ⟨C, h⟩ := q.done hD
      have e1 : ((i : Int) + 1) = ((i + 1 : Nat) : Int) := rfl
      refine ⟨_, rfl, _, rfl, D, _, _, _, rfl, rfl, SqL.of h.d, three_at hw, ?_⟩
      refine ⟨_, rfl, _, rfl, C w, _, _, _, rfl, rfl, SqL.of (h.at_ w hw), at_of (j := i) rfl (iV_at ex), ?_⟩
      refine ⟨_, rfl, _, rfl, _, _, rfl, rfl, C w, _, _, _, rfl, rfl, SqL.of (h.at_ w hw), at_of (j := i + 1) rfl (iV_at ey), ?_⟩
      refine ⟨_, rfl, _, rfl, C w, _, _, i, rfl, rfl, h.at_ w hw, ixN_nat (by rw [iV_len]; omega), ?_⟩
      refine ⟨_, rfl, _, rfl, _, rfl, _, _, rfl, rfl, C w, _, _, i + 1, rfl, rfl, upd_same, ?_, ?_⟩
      · rw [e1]
        exact ixN_nat (by rw [List.length_set, iV_len]; exact hi)
      rw [upd_upd]
      have e8 : ((iV (L w)).set i (V.int ((L w).getD (i + 1) 0))).set (i + 1) (V.int ((L w).getD i 0)) = iV (QD.swp (L w) i) := by
        rw [← QD.swp_set ex ey]
        show _ = (((L w).set i _).set (i + 1) _).map V.int
        rw [List.map_set, List.map_set]
      rw [e8]
      have h2 := FOs.put h hw (QD.swp (L w) i)
      exact ⟨_, rfl, k _ D C (Same.put q.s (h.nB w hw)) h2⟩
end
end Qd

set_option Elab.async false
set_option linter.all false
set_option maxRecDepth 100000
set_option maxHeartbeats 4000000
/-! The law's helpers, third part: able, walk, count. -/
namespace Qd
open PySem PySem.Spec PyProof.Rows L2
theorem nb_tup (xs : List V) : ¬ IsBx (.tup xs) := by
  rintro ⟨c, r, t, e⟩
  cases e
/-- a list of tuples that one may append to -/
structure TlM (H : Hp) (S : Addr) (ss : List (Nat × Nat)) : Prop where
  ex : ∃ ts : List Addr, H S = some (.lst (ts.map V.ref)) ∧ ts.length = ss.length ∧ ∀ (i : Nat) (t : Addr) (q : Nat × Nat), ts[i]? = some t → ss[i]? = some q → H t = some (.tup [.int (q.1 : Nat), .int (q.2 : Nat)])
theorem TlM.ob {H H' : Hp} {S : Addr} {ss : List (Nat × Nat)} (h : TlM H S ss) (s : Ob H H') : TlM H' S ss := by
  obtain ⟨ts, h1, h2, h3⟩ := h.ex
  exact ⟨ts, s.keep _ _ h1 (nb_refs ts), h2, fun i t q e1 e2 => s.keep _ _ (h3 i t q e1 e2) (nb_tup _)⟩
theorem TlM.tls {K : PySem.W.Frag} {H : Hp} {S : Addr} {ss : List (Nat × Nat)} (h : TlM H S ss) : TLs K H S ss := by
  obtain ⟨ts, h1, h2, h3⟩ := h.ex
  exact ⟨ts, SqL.of h1, h2, h3⟩
theorem TlM.app {H : Hp} {S t : Addr} {ss : List (Nat × Nat)} {w i : Nat} (h : TlM H S ss) (ht : H t = some (.tup [.int (w : Nat), .int (i : Nat)])) : ∃ acc, H S = some (.lst acc) ∧ acc.length = ss.length ∧ TlM (upd H S (.lst (acc ++ [V.ref t]))) S (ss ++ [(w, i)]) := by
  obtain ⟨ts, h1, h2, h3⟩ := h.ex
  have nt : ∀ {u : Addr} {xs : List V}, H u = some (.tup xs) → u ≠ S := fun q e => by
    rw [e, h1] at q
    cases q
  refine ⟨ts.map V.ref, h1, by rw [List.length_map, h2], ts ++ [t], ?_, ?_, fun j u q e1 e2 => ?_⟩
  · rw [upd_same, List.map_append]
    rfl
  · rw [List.length_append, List.length_append, h2]
    rfl
  · rcases Nat.lt_or_ge j ts.length with hj | hj
    · rw [List.getElem?_append_left hj] at e1
      rw [List.getElem?_append_left (h2 ▸ hj)] at e2
      have z := h3 j u q e1 e2
      rw [upd_ne (nt z)]
      exact z
    · have e : j = ts.length := by
        have := (List.getElem?_eq_some_iff.mp e1).1
        rw [List.length_append] at this
        simp at this
        omega
      subst e
      rw [List.getElem?_append_right (Nat.le_refl _), Nat.sub_self] at e1
      rw [h2, List.getElem?_append_right (Nat.le_refl _), Nat.sub_self] at e2
      have e1' := Option.some.inj e1
      have e2' := Option.some.inj e2
      subst e1'
      subst e2'
      rw [upd_ne (nt ht)]
      exact ht
theorem FOs.obm {H0 H H' : Hp} {D : Addr} {B : Nat → Addr} {L : QD.LS} (h : FLs H0 H D B L) (s : Ob H H') : FLs H0 H' D B L :=
  ⟨h.nD, h.nB, s.keep _ _ h.d (nb_refs [B 0, B 1, B 2]), fun w hw => s.keep _ _ (h.at_ w hw) (nb_ints _), h.dB, h.inj⟩
theorem FOs.since {H0 H1 H : Hp} {D : Addr} {B : Nat → Addr} {L : QD.LS} (h : FLs H1 H D B L) (s : Ob H0 H1) : FLs H0 H D B L :=
  ⟨s.has _ h.nD, fun w hw => s.has _ (h.nB w hw), h.d, h.at_, h.dB, h.inj⟩
section
variable {P : Program} {w : World} {K : PySem.W.Frag} {mg : Str → Option Value} {base : Heap} {CS CR CU f : Addr} {fd : FuncData}
/-! ### able -/
def sp_ableL (K : PySem.W.Frag) : Sp := fun vs H Q _ => ∃ (a r : Addr) (L : QD.LS) (nn : List Nat), vs = [.ref a, .ref r] ∧ LLs K H a L ∧ QD.StOk L ∧ SqI K H r (nn.map Int.ofNat) ∧ (∀ n ∈ nn, n < 3) ∧ nn.length ≤ 3 ∧
  ∀ H' p ss, Same H H' → TLs K H' p ss → ss.length ≤ 30 → (∀ s ∈ ss, QD.Val L s) → Q (.ref p) H'
abbrev N_ableL : List Str := ["_law_lists_here", "_law_lot", "_law_able_here", "_law_who", "_law_index"]
abbrev P_ableL : List Str := ["_law_lists_here", "_law_lot"]
theorem sc_ableL : FnScope N_ableL P_ableL (defScope s_ableL) := ⟨rfl, rfl, rfl, by decide +kernel, rfl, by decide +kernel, by decide +kernel⟩
theorem ok_ableL (F : F_ableL K f fd) (T : Txt K mg CS CR CU) (c_quietL : Cal P w K mg base "_law_quiet" 1 P_quietL (sp_quietL K)) : FnOk P w K mg base CX0 2 f fd P_ableL (sp_ableL K) := by
  refine FunD.ok F sc_ableL (fun vs H Q E h => ?_) (fun cdv A outer s H vs Q E hr h => ?_)
  · obtain ⟨a, r, L, nn, rfl, _⟩ := h
    rfl
  · obtain ⟨a, r, L, nn, rfl, h1, ok, hr1, lt, few, k⟩ := h
    have nd := sc_ableL.nd
    refine ⟨_, PSs.nox ((pss_cons (ps_set (i := 2) nd rfl (Or.inl rfl) (pe_lst pa_nil))
  (pss_cons (ps_for PassesOwn.never rfl (ki_list (K := K) (pv 1)) (pg_name (i := 3) nd rfl (Or.inl rfl))
    (pss_one (ps_for PassesOwn.never rfl (pi_range1 (by rfl) T.range (pa_cons (pe_op op_sub (pe_callB (k_len (K := K)) (by rfl) T.len bt_len (pa_cons (pe_ix (k_ixL (K := K)) (pv 0) (pv 3) (fun _ _ => rfl)) pa_nil)) pe_int) pa_nil)) (pg_name (i := 4) nd rfl (Or.inl rfl))
    (pss_one (ps_if (pt_val (pe_cal c_quietL (hr.mono (by decide)) (pa_cons (pv 0) (pa_cons (pv 3) (pa_cons (pv 4) pa_nil)))))
    (pss_one (ps_expr (k_bm (K := K) PySem.F.plainAttrs_list PySem.F.slot_list_append PySem.F.type_list_append mt_append (pv 2) (pa_cons (pe_tup (pa_cons (pv 3) (pa_cons (pv 4) pa_nil))) pa_nil))))
    pss_nil)))))
  (pss_one (ps_ret (pv 2)))))), ?_⟩
    obtain ⟨B, hB, hBw, hBi⟩ := h1.at_
    refine ⟨by show 0 ≤ sizeLine; decide, fun S hS => ?_⟩
    refine ⟨_, rfl, r, rfl, ⟨_, Same.seq (Same.new hS) hr1⟩, for_it (walk_list (K := K) (a := r) (xs := iV (nn.map Int.ofNat))) (fun i σ H1 => ∃ v3 v4 ss, σ = [some (.ref a), some (.ref r), some (.ref S), v3, v4] ∧ PvP H S (List.map nP ss) H1 ∧ ss.length ≤ 10 * i ∧ ∀ s ∈ ss, QD.Val L s)
      ⟨none, none, [], rfl, PvP.zero hS, Nat.le_refl _, fun s h => by cases h⟩ (fun i σ H1 _ ⟨_, _, _, _, q, _⟩ => Same.seq q.s hr1) ?_ ?_⟩
    · rintro i x0 σ H1 H2 hi ⟨v3, v4, ss, rfl, q, le, hv⟩ ⟨rfl, e2⟩
      obtain ⟨n, hn, rfl⟩ := natOf e2
      have hn3 := lt n (List.mem_of_getElem? hn)
      have ln := (ok.kok hn3).len
      refine ⟨_, rfl, _, rfl, a, _, _, _, rfl, rfl, Same.seq q.s hB, three_at hn3, ?_⟩
      refine ⟨B n, _, rfl, .inl (Same.seq q.s (hBw n hn3)), _, _, rfl, rfl, _, rfl, (by rw [iV_len]; omega), (by rw [iV_len]; omega), ?_⟩
      refine for_range (lo := 0) (n := (((iV (L n)).length : Int) - 1).toNat) (fun j σ H3 => ∃ v ss, σ = [some (.ref a), some (.ref r), some (.ref S), some (.int n), v] ∧ PvP H S (List.map nP ss) H3 ∧ ss.length ≤ 10 * i + j ∧ ∀ s ∈ ss, QD.Val L s) ⟨v4, ss, rfl, q, by omega, hv⟩ ?_ ?_
      · rintro j σ H3 hj ⟨v, ss, rfl, q3, le3, hv3⟩
        have e0 : (0 + (j : Int)) = j := Int.zero_add _
        rw [e0]
        rw [iV_len] at hj
        have hj1 : j + 1 < (L n).length := by omega
        refine ⟨_, rfl, _, rfl, _, rfl, a, L, n, j, rfl, h1.mono q3.s, ok, hn3, hj1, _, rfl, ?_⟩
        cases eb : QD.quiet L n j with
        | true =>
          refine iteT ?_
          obtain ⟨ts, hts, _, _⟩ := q3.ex
          refine ⟨_, rfl, .inl ⟨rfl, _, SqL.of hts⟩, _, rfl, _, rfl, le2, fun t2 ht2 => ?_⟩
          have hi3 : i < nn.length := by rw [iV_len, List.length_map] at hi; exact hi
          obtain ⟨acc, g1, g2, g3⟩ := q3.step (x := (n : Int)) (y := (j : Int)) hS (.refl _) ht2 (by rw [List.length_map]; omega)
          refine ⟨S, acc, _, rfl, rfl, g1, g2, _, ss ++ [(n, j)], rfl, ?_, by rw [List.length_append]; show _ + 1 ≤ _; omega, fun s hs => ?_⟩
          · rw [List.map_append]
            exact g3
          · rcases List.mem_append.mp hs with z | z
            · exact hv3 s z
            · rw [List.mem_singleton.mp z]
              exact ⟨hn3, hj1, eb⟩
        | false => exact iteF ⟨_, ss, rfl, q3, by omega, hv3⟩
      · rintro σ H3 ⟨v, ss, rfl, q3, le3, hv3⟩
        rw [iV_len] at le3
        exact ⟨_, _, ss, rfl, q3, by omega, hv3⟩
    · rintro σ H1 ⟨v3, v4, ss, rfl, q, le, hv⟩
      rw [iV_len, List.length_map] at le
      exact ⟨_, rfl, k _ S ss q.s (TLs.of q.pls) (by omega) hv⟩
/-! ### walk -/
structure WkAt (K : PySem.W.Frag) (b c : Addr) (H H1 : Hp) (D S : Addr) (L : QD.LS) (ss : List (Nat × Nat)) : Prop where
  mv : Mv K b c H H1
  fl : ∃ B, FLs H H1 D B (QD.runS L ss) ∧ D ≠ S ∧ ∀ w, w < 3 → B w ≠ S
  tl : TlM H1 S ss
  path : QD.Path L ss
def sp_walkL (K : PySem.W.Frag) : Sp := fun vs H Q _ => ∃ (b c a r : Addr) (n : Nat) (L : QD.LS) (nn : List Nat), vs = [.ref b, .ref a, .ref r, .int n] ∧ Box K H b c ∧ LLs K H a L ∧ QD.StOk L ∧ SqI K H r (nn.map Int.ofNat) ∧ (∀ n ∈ nn, n < 3) ∧ nn.length ≤ 3 ∧ n ≤ 1000 ∧
  ∀ H' p D S ss, Mv K b c H H' → H' p = some (.lst [.ref D, .ref S]) → LLs K H' D (QD.runS L ss) → TLs K H' S ss → QD.Path L ss → ss.length ≤ n → Q (.ref p) H'
abbrev N_walkL : List Str := ["_law_box_here", "_law_lists_here", "_law_lot", "_law_count_here", "_law_now", "_law_steps", "_law_k", "_law_able_here", "_law_step", "_law_order_here"]
abbrev P_walkL : List Str := ["_law_box_here", "_law_lists_here", "_law_lot", "_law_count_here"]
theorem sc_walkL : FnScope N_walkL P_walkL (defScope s_walkL) := ⟨rfl, rfl, rfl, by decide +kernel, rfl, by decide +kernel, by decide +kernel⟩
theorem ok_walkL (F : F_walkL K f fd) (T : Txt K mg CS CR CU) (c_ableL : Cal P w K mg base "_law_able" 2 P_ableL (sp_ableL K)) (c_takeL : Cal P w K mg base "_law_take" 1 P_takeL (sp_takeL K)) (c_swappedL : Cal P w K mg base "_law_swapped" 1 P_swappedL (sp_swappedL K)) :
    FnOk P w K mg base CX0 3 f fd P_walkL (sp_walkL K) := by
  refine FunD.ok F sc_walkL (fun vs H Q E h => ?_) (fun cdv A outer s H vs Q E hr h => ?_)
  · obtain ⟨b, c, a, r, n, L, nn, rfl, _⟩ := h
    rfl
  · obtain ⟨b, c, a, r, n, L, nn, rfl, hbx, h1, ok, hr1, lt, few, hn, k⟩ := h
    have nd := sc_walkL.nd
    refine ⟨_, PSs.nox ((pss_cons (ps_setLc (i := 4) (own := [("_law_order_here", 9)]) (g := gName 9) rfl nd rfl rfl (sw_true rfl rfl rfl (by decide +kernel)) (ki_list (K := K) (pv 1)) (blkOk_by (own := [("_law_order_here", 9)]) (N := N_walkL) (sc := defScope s_walkL) (by decide +kernel)) (fun _ _ _ _ _ => pg_name (i := 9) nd rfl (Or.inl rfl)) (fun _ _ _ _ _ => pts_nil) (fun _ _ _ _ _ => (pe_callTy (k_list (K := K)) (by rfl) T.list bt_list (pa_cons (pv 9) pa_nil))))
  (pss_cons (ps_set (i := 5) nd rfl (Or.inl rfl) (pe_lst pa_nil))
  (pss_cons (ps_for PassesOwn.never rfl (pi_range1 (by rfl) T.range (pa_cons (pv 3) pa_nil)) (pg_name (i := 6) nd rfl (Or.inl rfl))
    (pss_cons (ps_set (i := 7) nd rfl (Or.inl rfl) (pe_cal c_ableL (hr.mono (by decide)) (pa_cons (pv 4) (pa_cons (pv 2) pa_nil))))
  (pss_cons (ps_if (pt_not (k_truth (K := K) (pv 7)))
    (pss_one ps_break)
    pss_nil)
  (pss_cons (ps_set (i := 8) nd rfl (Or.inl rfl) (pe_ix (k_ixL (K := K)) (pv 7) (pe_cal c_takeL (hr.mono (by decide)) (pa_cons (pv 0) (pa_cons (pe_callB (k_len (K := K)) (by rfl) T.len bt_len (pa_cons (pv 7) pa_nil)) pa_nil))) (fun _ _ => rfl)))
  (pss_cons (ps_set (i := 4) nd rfl (Or.inl rfl) (pe_cal c_swappedL (hr.mono (by decide)) (pa_cons (pv 4) (pa_cons (pe_ix (k_ixT (K := K)) (pv 8) pe_int (fun _ _ => rfl)) (pa_cons (pe_ix (k_ixT (K := K)) (pv 8) pe_int (fun _ _ => rfl)) pa_nil)))))
  (pss_one (ps_expr (k_bm (K := K) PySem.F.plainAttrs_list PySem.F.slot_list_append PySem.F.type_list_append mt_append (pv 5) (pa_cons (pv 8) pa_nil)))))))))
  (pss_one (ps_ret (pe_lst (pa_cons (pv 4) (pa_cons (pv 5) pa_nil))))))))), ?_⟩
    obtain ⟨B, hB, hBw, hBi⟩ := h1.at_
    refine ⟨_, rfl, a, rfl, ⟨_, hB⟩, fun D0 hD => ?_⟩
    refine lc_list (K := K) (a := a) (fun i H2 => PvC H D0 (lO L) i H2) (PvC.zero hD) (fun i H2 _ q => Same.seq q.s hB) (fun i x H2 hx q => ?_) fun H2 q => ?_
    · obtain ⟨hi, rfl⟩ := three_of hx
      exact ⟨rfl, _, rfl, B i, _, rfl, .inl (Same.seq q.s (hBw i hi)), fun l hl => q.step hD hl hi⟩
    · obtain ⟨C, h⟩ := q.done hD
      refine ⟨by show 0 ≤ sizeLine; decide, fun S hS => ?_⟩
      have hS0 : H S = none := q.s.free hS
      have sS := Same.new (o := .lst []) hS
      have st0 : WkAt K b c H (upd H2 S (.lst [])) D0 S L [] := ⟨(Mv.refl hbx).same (q.s.trans sS), ⟨C, h.mono sS, ne_of_none h.d hS, fun w hw => ne_of_none (h.at_ w hw) hS⟩, ⟨[], upd_same, rfl, fun i t q h => by cases h⟩, .nil⟩
      refine ⟨_, rfl, _, rfl, by omega, by omega, ?_⟩
      refine for_range (lo := 0) (n := (n : Int).toNat) (fun i σ H1 => ∃ D v6 v7 v8 v9 ss, σ = [some (.ref b), some (.ref a), some (.ref r), some (.int n), some (.ref D), some (.ref S), v6, v7, v8, v9] ∧ ss.length ≤ i ∧ WkAt K b c H H1 D S L ss)
        ⟨D0, none, none, none, none, [], rfl, Nat.le_refl _, st0⟩ ?_ ?_
      · rintro i σ H3 hi ⟨D, v6, v7, v8, v9, ss, rfl, le, g⟩
        rw [Int.toNat_natCast] at hi
        obtain ⟨C, fl, nDS, nCS⟩ := g.fl
        have st := g.path.stay ok
        refine ⟨_, rfl, _, rfl, D, r, QD.runS L ss, nn, rfl, fl.lls, st.ok, g.mv.ob.sq hr1 (nb_ints _), lt, few, fun H4 p ab s4 tl l30 hv => ?_⟩
        obtain ⟨ts, hts, tlen, tat⟩ := tl.ex
        refine ⟨_, rfl, _, .inl ⟨_, hts, rfl⟩, ?_⟩
        have g4 : WkAt K b c H H4 D S L ss := ⟨g.mv.same s4, ⟨C, fl.mono s4, nDS, nCS⟩, g.tl.ob s4.ob, g.path⟩
        cases ts with
        | nil =>
          refine iteT ?_
          have g := g4
          refine ⟨_, rfl, _, rfl, by show 2 ≤ sizeLine; decide, fun p hp => ?_⟩
          obtain ⟨C, fl, _, _⟩ := g.fl
          have sp := Same.new (o := .lst [.ref D, .ref S]) hp
          exact k _ p D S ss (g.mv.same sp) upd_same (fl.lls.mono sp) (g.tl.tls.mono sp) g.path (by omega)
        | cons t0 ts' =>
          refine iteF ?_
          refine ⟨_, rfl, _, rfl, _, rfl, p, _, rfl, .inl hts, ?_⟩
          rw [List.length_map]
          have alen : 1 ≤ ab.length := by rw [← tlen]; exact Nat.succ_le_succ (Nat.zero_le _)
          refine ⟨b, c, (t0 :: ts').length, rfl, g4.mv.bx, by omega, by omega, fun H5 v mv5 hlt => ?_⟩
          obtain ⟨t, ht⟩ : ∃ t, (t0 :: ts')[v]? = some t := ⟨_, List.getElem?_eq_getElem hlt⟩
          obtain ⟨s, hs⟩ : ∃ s, ab[v]? = some s := ⟨_, List.getElem?_eq_getElem (show v < ab.length by omega)⟩
          have htt := mv5.ob.keep _ _ (tat v t s ht hs) (nb_tup _)
          have val := hv s (List.mem_of_getElem? hs)
          have hts5 := mv5.ob.sq hts (nb_refs _)
          have ev : ((t0 :: ts').map V.ref)[v]? = some (.ref t) := by rw [List.getElem?_map, ht]; rfl
          refine ⟨p, _, _, _, rfl, rfl, hts5, atI_nat ev, ?_⟩
          have fl5 := (fl.mono s4).obm mv5.ob
          have mvA := g4.mv.trans mv5
          refine ⟨_, rfl, _, rfl, t, _, _, _, rfl, rfl, SqT.of htt, atI_nat (j := 0) rfl, _, rfl, t, _, _, _, rfl, rfl, SqT.of htt, atI_nat (j := 1) rfl, D, QD.runS L ss, s.1, s.2, rfl, fl5.lls, val.w, val.i, fun H6 D6 B6 s6 fl6 => ?_⟩
          have tl6 := (g4.tl.ob mv5.ob).ob s6.ob
          obtain ⟨acc, g1, g2, g3⟩ := tl6.app (s6 _ _ htt)
          have fl7 := FOs.since fl6 mvA.ob
          have hS5 : H5 S ≠ none := fun z => by
            obtain ⟨ts0, q0, _⟩ := (g4.tl.ob mv5.ob).ex
            rw [q0] at z
            cases z
          have nD6 : S ≠ D6 := fun e => hS5 (e ▸ fl6.nD)
          have nB6 : ∀ w, w < 3 → S ≠ B6 w := fun w hw e => hS5 (e ▸ fl6.nB w hw)
          refine ⟨_, rfl, .inl ⟨rfl, _, SqL.of g1⟩, _, rfl, S, acc, _, rfl, rfl, g1, sz12' (by omega), ?_⟩
          refine ⟨D6, _, _, _, _, ss ++ [s], rfl, by rw [List.length_append]; show _ + 1 ≤ _; omega, Mv.put hbx (mvA.same s6) hS0, ⟨B6, ?_, Ne.symm nD6, fun w hw => Ne.symm (nB6 w hw)⟩, g3, g.path.snoc val⟩
          rw [QD.runS_snoc]
          exact fl7.off nD6 nB6
      · rintro σ H3 ⟨D, v6, v7, v8, v9, ss, rfl, le, g⟩
        rw [Int.toNat_natCast] at le
        refine ⟨_, rfl, _, rfl, by show 2 ≤ sizeLine; decide, fun p hp => ?_⟩
        obtain ⟨C, fl, _, _⟩ := g.fl
        have sp := Same.new (o := .lst [.ref D, .ref S]) hp
        exact k _ p D S ss (g.mv.same sp) upd_same (fl.lls.mono sp) (g.tl.tls.mono sp) g.path (by omega)
/-! ### count -/
def sp_countL (K : PySem.W.Frag) : Sp := fun vs H Q _ => ∃ (b c : Addr) (m : Nat), vs = [.ref b, .int m] ∧ Box K H b c ∧ 3 ≤ m ∧ m ≤ 10 ∧ ∀ H' (v : Nat), Mv K b c H H' → v ≤ 10 → Q (.int v) H'
abbrev N_countL : List Str := ["_law_box_here", "_law_most"]
abbrev P_countL : List Str := ["_law_box_here", "_law_most"]
theorem sc_countL : FnScope N_countL P_countL (defScope s_countL) := ⟨rfl, rfl, rfl, by decide +kernel, rfl, by decide +kernel, by decide +kernel⟩
theorem ok_countL (F : F_countL K f fd) (T : Txt K mg CS CR CU) (c_takeL : Cal P w K mg base "_law_take" 1 P_takeL (sp_takeL K)) : FnOk P w K mg base CX0 2 f fd P_countL (sp_countL K) := by
  refine FunD.ok F sc_countL (fun vs H Q E h => ?_) (fun cdv A outer s H vs Q E hr h => ?_)
  · obtain ⟨b, c, m, rfl, _⟩ := h
    rfl
  · obtain ⟨b, c, m, rfl, h1, m1, m2, k⟩ := h
    have nd := sc_countL.nd
    refine ⟨_, PSs.nox ((pss_cons (ps_if (pt_cmpR op_eq (pe_cal c_takeL (hr.mono (by decide)) (pa_cons (pv 0) (pa_cons pe_int pa_nil))) pe_int (nomark _))
    (pss_one (ps_ret (pe_cal c_takeL (hr.mono (by decide)) (pa_cons (pv 0) (pa_cons pe_int pa_nil)))))
    pss_nil)
  (pss_one (ps_ret (pe_op op_add pe_int (pe_cal c_takeL (hr.mono (by decide)) (pa_cons (pv 0) (pa_cons (pe_op op_sub (pv 1) pe_int) pa_nil)))))))), ?_⟩
    refine ⟨_, rfl, b, c, 8, rfl, h1, by decide, by decide, fun H2 v mv hv => ⟨rfl, _, rfl, ?_⟩⟩
    by_cases e : V.int (v : Int) = V.int 7
    · refine iteDT e ?_
      exact ⟨_, rfl, b, c, 3, rfl, mv.bx, by decide, by decide, fun H3 u mv3 hu => k _ u (mv.trans mv3) (by omega)⟩
    · refine iteDF e ?_
      refine ⟨_, rfl, _, rfl, _, _, rfl, rfl, b, c, m - 2, ?_, mv.bx, by omega, by omega, fun H3 u mv3 hu => ⟨_, _, rfl, rfl, ?_⟩⟩
      · have e : ((m : Int) - 2) = ((m - 2 : Nat) : Int) := by omega
        show [V.ref b, V.int ((m : Int) - 2)] = _
        rw [e]
      · have e : ((3 : Int) + (u : Int)) = ((3 + u : Nat) : Int) := by omega
        show Q (.int ((3 : Int) + (u : Int))) H3
        rw [e]
        exact k _ _ (mv.trans mv3) (by omega)
end
end Qd

set_option Elab.async false
set_option linter.all false
set_option maxRecDepth 100000
set_option maxHeartbeats 4000000
/-! The law's helpers, fourth part: ring. -/
namespace QD
def ins (l : List Int) (p : Nat) (y : Int) : List Int := l.take p ++ [y] ++ l.drop p
theorem ins_perm (l : List Int) (p : Nat) (y : Int) : (ins l p y).Perm (l ++ [y]) := by
  unfold ins
  have h : (l.take p ++ [y] ++ l.drop p).Perm (l.take p ++ l.drop p ++ [y]) := by
    rw [List.append_assoc, List.append_assoc]
    exact List.Perm.append_left _ List.perm_append_comm
  rw [List.take_append_drop] at h
  exact h
theorem stOk_of {ks : List Int} {M : LS} (h : KOk ks) (p : ∀ w, w < 3 → (M w).Perm ks) : StOk M :=
  ⟨h.perm (p 0 (by decide)), (p 1 (by decide)).trans (p 0 (by decide)).symm, (p 2 (by decide)).trans (p 0 (by decide)).symm⟩
def tri {α : Type} (a b c : α) : Nat → α := fun w => if w = 0 then a else if w = 1 then b else c
end QD
namespace Qd
open PySem PySem.Spec PyProof.Rows L2
theorem iV_ins (l : List Int) (p : Nat) (y : Int) : (iV l).take p ++ [V.int y] ++ (iV l).drop p = iV (QD.ins l p y) := by
  unfold QD.ins
  rw [iV_take, iV_drop]
  show _ = (l.take p ++ [y] ++ l.drop p).map V.int
  rw [List.map_append, List.map_append]
  rfl
theorem mkFL {H0 H : Hp} {D r0 r1 r2 : Addr} {l0 l1 l2 : List Int} (nD : H0 D = none) (n0 : H0 r0 = none) (n1 : H0 r1 = none) (n2 : H0 r2 = none) (d : H D = some (.lst [.ref r0, .ref r1, .ref r2])) (a0 : H r0 = some (.lst (iV l0))) (a1 : H r1 = some (.lst (iV l1)))
    (a2 : H r2 = some (.lst (iV l2))) (e0 : r0 ≠ D) (e1 : r1 ≠ D) (e2 : r2 ≠ D) (e01 : r0 ≠ r1) (e02 : r0 ≠ r2) (e12 : r1 ≠ r2) : FLs H0 H D (QD.tri r0 r1 r2) (QD.tri l0 l1 l2) := by
  refine ⟨nD, fun w hw => ?_, d, fun w hw => ?_, fun w hw => ?_, fun i j hi hj e => ?_⟩
  · match w, hw with
    | 0, _ => exact n0
    | 1, _ => exact n1
    | 2, _ => exact n2
  · match w, hw with
    | 0, _ => exact a0
    | 1, _ => exact a1
    | 2, _ => exact a2
  · match w, hw with
    | 0, _ => exact e0
    | 1, _ => exact e1
    | 2, _ => exact e2
  · match i, hi, j, hj, e with
    | 0, _, 0, _, _ => rfl
    | 1, _, 1, _, _ => rfl
    | 2, _, 2, _, _ => rfl
    | 0, _, 1, _, e => exact absurd e e01
    | 0, _, 2, _, e => exact absurd e e02
    | 1, _, 2, _, e => exact absurd e e12
    | 1, _, 0, _, e => exact absurd e.symm e01
    | 2, _, 0, _, e => exact absurd e.symm e02
    | 2, _, 1, _, e => exact absurd e.symm e12
/-- the same rows in another order in a new list -/
theorem reFL {H0 H : Hp} {D D' : Addr} {B : Nat → Addr} {M : QD.LS} {i j k : Nat} (h : FLs H0 H D B M) (s : Ob H0 H) (n : H D' = none) (hi : i < 3) (hj : j < 3) (hk : k < 3) (e01 : i ≠ j) (e02 : i ≠ k) (e12 : j ≠ k) :
    FLs H0 (upd H D' (.lst [.ref (B i), .ref (B j), .ref (B k)])) D' (QD.tri (B i) (B j) (B k)) (QD.tri (M i) (M j) (M k)) := by
  have sn := Same.new (o := .lst [.ref (B i), .ref (B j), .ref (B k)]) n
  exact mkFL (s.has _ n) (h.nB i hi) (h.nB j hj) (h.nB k hk) upd_same (sn _ _ (h.at_ i hi)) (sn _ _ (h.at_ j hj)) (sn _ _ (h.at_ k hk)) (ne_of_none (h.at_ i hi) n) (ne_of_none (h.at_ j hj) n) (ne_of_none (h.at_ k hk) n)
    (fun e => e01 (h.inj i j hi hj e)) (fun e => e02 (h.inj i k hi hk e)) (fun e => e12 (h.inj j k hj hk e))
theorem three_long {ks : List Int} (h : 3 ≤ ks.length) : ∃ x y z rest, ks = x :: y :: z :: rest := by
  cases ks with
  | nil => exact absurd h (by decide)
  | cons x l =>
    cases l with
    | nil => exact absurd h (by show ¬ 3 ≤ 1; decide)
    | cons y l =>
      cases l with
      | nil => exact absurd h (by show ¬ 3 ≤ 2; decide)
      | cons z rest => exact ⟨x, y, z, rest, rfl⟩
theorem cutF {ns : List Int} {k : Nat} {i : Int} (e : i = (k : Int)) (h : k ≤ ns.length) : cutV (iV ns) (some i) none = iV (ns.drop k) := by
  rw [e, cut_from (by rw [iV_len]; exact h), iV_drop]
theorem cutT {ns : List Int} {k : Nat} {i : Int} (e : i = (k : Int)) (h : k ≤ ns.length) : cutV (iV ns) none (some i) = iV (ns.take k) := by
  rw [e, cut_to (by rw [iV_len]; exact h), iV_take]
section
variable {P : Program} {w : World} {K : PySem.W.Frag} {mg : Str → Option Value} {base : Heap} {CS CR CU f : Addr} {fd : FuncData}
/-- rows being filled: n keys in each below j, one less in the others -/
structure RwAt (K : PySem.W.Frag) (b c : Addr) (H H1 : Hp) (D p2 : Addr) (B : Nat → Addr) (ks rest : List Int) (n j : Nat) : Prop where
  mv : Mv K b c H H1
  p2 : H1 p2 = some (.lst (iV rest))
  ex : ∃ M, FLs H H1 D B M ∧ (∀ w, w < 3 → w < j → (M w).Perm (ks.take (n + 1))) ∧ ∀ w, w < 3 → j ≤ w → (M w).Perm (ks.take n)
theorem RwAt.full {b c : Addr} {H H1 : Hp} {D p2 : Addr} {B : Nat → Addr} {ks rest : List Int} {n : Nat} (h : RwAt K b c H H1 D p2 B ks rest n 3) : RwAt K b c H H1 D p2 B ks rest (n + 1) 0 := by
  obtain ⟨M, fl, h1, _⟩ := h.ex
  exact ⟨h.mv, h.p2, M, fl, fun w _ z => by omega, fun w hw _ => h1 w hw hw⟩
theorem RwAt.move {b c : Addr} {H H1 H2 : Hp} {D p2 : Addr} {B : Nat → Addr} {ks rest : List Int} {n j : Nat} (h : RwAt K b c H H1 D p2 B ks rest n j) (m : Mv K b c H1 H2) : RwAt K b c H H2 D p2 B ks rest n j := by
  obtain ⟨M, fl, h1, h2⟩ := h.ex
  exact ⟨h.mv.trans m, m.ob.keep _ _ h.p2 (nb_ints _), M, fl.obm m.ob, h1, h2⟩
/-- one key put into row j -/
theorem RwAt.put {b c : Addr} {H H1 : Hp} {D p2 : Addr} {B : Nat → Addr} {ks rest : List Int} {n j : Nat} {y : Int} (h : RwAt K b c H H1 D p2 B ks rest n j) (bx : Box K H b c) (hj : j < 3) (np : ∀ w, w < 3 → B w ≠ p2) (hy : ks[n]? = some y) :
    ∃ l, H1 (B j) = some (.lst (iV l)) ∧ l.length ≤ n ∧ ∀ p, RwAt K b c H (upd H1 (B j) (.lst (iV (QD.ins l p y)))) D p2 B ks rest n (j + 1) := by
  obtain ⟨M, fl, h1, h2⟩ := h.ex
  have pj := h2 j hj (Nat.le_refl _)
  refine ⟨M j, fl.at_ j hj, ?_, fun p => ⟨Mv.put bx h.mv (fl.nB j hj), by rw [upd_ne (Ne.symm (np j hj))]; exact h.p2, QD.setL M j (QD.ins (M j) p y), FOs.put fl hj _, fun w hw z => ?_, fun w hw z => ?_⟩⟩
  · rw [pj.length_eq, List.length_take]
    omega
  · by_cases e : w = j
    · subst e
      rw [QD.setL_same, take_succ_at hy]
      exact (QD.ins_perm _ _ _).trans (pj.append_right _)
    · rw [QD.setL_ne _ _ e]
      exact h1 w hw (by omega)
  · rw [QD.setL_ne _ _ (by omega)]
    exact h2 w hw (by omega)
/-! ### ring -/
def sp_ringL (K : PySem.W.Frag) : Sp := fun vs H Q _ => ∃ (b c a : Addr) (ks : List Int), vs = [.ref b, .ref a] ∧ Box K H b c ∧ SqI K H a ks ∧ QD.KOk ks ∧ 3 ≤ ks.length ∧ ∀ H' p L, Mv K b c H H' → LLs K H' p L → QD.StOk L → Q (.ref p) H'
abbrev N_ringL : List Str := ["_law_box_here", "_law_keys_here", "_law_turn", "_law_now", "_law_one", "_law_place", "_law_apart_here", "_law_row"]
abbrev P_ringL : List Str := ["_law_box_here", "_law_keys_here"]
theorem sc_ringL : FnScope N_ringL P_ringL (defScope s_ringL) := ⟨rfl, rfl, rfl, by decide +kernel, rfl, by decide +kernel, by decide +kernel⟩
theorem ok_ringL (F : F_ringL K f fd) (T : Txt K mg CS CR CU) (c_takeL : Cal P w K mg base "_law_take" 1 P_takeL (sp_takeL K)) : FnOk P w K mg base CX0 2 f fd P_ringL (sp_ringL K) := by
  refine FunD.ok F sc_ringL (fun vs H Q E h => ?_) (fun cdv A outer s H vs Q E hr h => ?_)
  · obtain ⟨b, c, a, ks, rfl, _⟩ := h
    rfl
  · obtain ⟨b, c, a, ks, rfl, hbx, ha, kok, h3, k⟩ := h
    have nd := sc_ringL.nd
    have l10 := kok.len
    refine ⟨_, PSs.nox ((pss_cons (ps_set (i := 2) nd rfl (Or.inl rfl) (pe_callTy (k_list (K := K)) (by rfl) T.list bt_list (pa_cons (pe_slice (k_slL (K := K)) (pv 1) po_none (po_some pe_int)) pa_nil)))
  (pss_cons (ps_set (i := 3) nd rfl (Or.inl rfl) (pe_lst (pa_cons (pe_callTy (k_list (K := K)) (by rfl) T.list bt_list (pa_cons (pv 2) pa_nil)) (pa_cons (pe_op op_cat (pe_slice (k_slL (K := K)) (pv 2) (po_some pe_int) po_none) (pe_slice (k_slL (K := K)) (pv 2) po_none (po_some pe_int))) (pa_cons (pe_op op_cat (pe_slice (k_slL (K := K)) (pv 2) (po_some pe_int) po_none) (pe_slice (k_slL (K := K)) (pv 2) po_none (po_some pe_int))) pa_nil)))))
  (pss_cons (ps_if (pt_cmpR op_eq (pe_cal c_takeL (hr.mono (by decide)) (pa_cons (pv 0) (pa_cons pe_int pa_nil))) pe_int (nomark _))
    (pss_one (ps_set (i := 3) nd rfl (Or.inl rfl) (pe_lst (pa_cons (pe_ix (k_ixL (K := K)) (pv 3) pe_int (fun _ _ => rfl)) (pa_cons (pe_ix (k_ixL (K := K)) (pv 3) pe_int (fun _ _ => rfl)) (pa_cons (pe_ix (k_ixL (K := K)) (pv 3) pe_int (fun _ _ => rfl)) pa_nil))))))
    pss_nil)
  (pss_cons (ps_for PassesOwn.never rfl (ki_list (K := K) (pe_slice (k_slL (K := K)) (pv 1) (po_some pe_int) po_none)) (pg_name (i := 4) nd rfl (Or.inl rfl))
    (pss_cons (ps_set (i := 5) nd rfl (Or.inl rfl) (pe_cal c_takeL (hr.mono (by decide)) (pa_cons (pv 0) (pa_cons (pe_op op_add (pe_callB (k_len (K := K)) (by rfl) T.len bt_len (pa_cons (pe_ix (k_ixL (K := K)) (pv 3) pe_int (fun _ _ => rfl)) pa_nil)) pe_int) pa_nil))))
  (pss_cons (ps_set (i := 6) nd rfl (Or.inl rfl) (pe_cal c_takeL (hr.mono (by decide)) (pa_cons (pv 0) (pa_cons pe_int pa_nil))))
  (pss_one (ps_for PassesOwn.never rfl (ki_list (K := K) (pv 3)) (pg_name (i := 7) nd rfl (Or.inl rfl))
    (pss_cons (ps_if (pt_cmpR op_eq (pv 6) pe_int (nomark _))
    (pss_one (ps_set (i := 5) nd rfl (Or.inl rfl) (pe_cal c_takeL (hr.mono (by decide)) (pa_cons (pv 0) (pa_cons (pe_op op_add (pe_callB (k_len (K := K)) (by rfl) T.len bt_len (pa_cons (pv 7) pa_nil)) pe_int) pa_nil)))))
    pss_nil)
  (pss_one (ps_expr (k_bm (K := K) PySem.F.plainAttrs_list PySem.F.slot_list_insert PySem.F.type_list_insert mt_insert (pv 7) (pa_cons (pv 5) (pa_cons (pv 4) pa_nil)))))))))))
  (pss_one (ps_ret (pv 3)))))))), ?_⟩
    obtain ⟨x, y, z, rest, rfl⟩ := three_long h3
    have lr : rest.length + 3 ≤ 10 := l10
    refine ⟨_, rfl, _, rfl, a, _, rfl, ha, fun p hp => ?_⟩
    have e1 : cutV (iV (x :: y :: z :: rest)) none (some 3) = iV [x, y, z] := cutT (k := 3) rfl (by show 3 ≤ rest.length + 3; omega)
    rw [e1]
    refine ⟨p, _, rfl, .inl (SqL.of upd_same), fun q hq => ?_⟩
    have s2 := Same.put (o := .lst (iV [x, y, z])) (Same.new (o := .lst (iV [x, y, z])) hp) (Same.free (Same.new hp) hq)
    generalize hH2 : upd (upd H p (.lst (iV [x, y, z]))) q (.lst (iV [x, y, z])) = H2 at s2
    have q2 : H2 q = some (.lst (iV [x, y, z])) := by rw [← hH2, upd_same]
    refine ⟨_, rfl, q, _, rfl, .inl (SqL.of q2), fun r0 n0 => ?_⟩
    have t0 := Same.new (o := .lst (iV [x, y, z])) n0
    have c1 : cutV (iV [x, y, z]) (some 1) none = iV [y, z] := cutF (k := 1) rfl (by show 1 ≤ 3; decide)
    have c2 : cutV (iV [x, y, z]) none (some 1) = iV [x] := cutT (k := 1) rfl (by show 1 ≤ 3; decide)
    have c3 : cutV (iV [x, y, z]) (some 2) none = iV [z] := cutF (k := 2) rfl (by show 2 ≤ 3; decide)
    have c4 : cutV (iV [x, y, z]) none (some 2) = iV [x, y] := cutT (k := 2) rfl (by show 2 ≤ 3; decide)
    have r3 : upd H2 r0 (.lst (iV [x, y, z])) r0 = some (.lst (iV [x, y, z])) := upd_same
    have q3 := t0 _ _ q2
    generalize upd H2 r0 (.lst (iV [x, y, z])) = H3 at *
    refine ⟨_, rfl, _, rfl, q, _, rfl, SqL.of q3, ?_⟩
    rw [c1]
    intro u1 m1
    have t1 := Same.new (o := .lst (iV [y, z])) m1
    have a1 : upd H3 u1 (.lst (iV [y, z])) u1 = some (.lst (iV [y, z])) := upd_same
    generalize upd H3 u1 (.lst (iV [y, z])) = H4 at *
    refine ⟨_, rfl, _, rfl, q, _, rfl, SqL.of (t1 _ _ q3), ?_⟩
    rw [c2]
    intro u2 m2
    have t2 := Same.new (o := .lst (iV [x])) m2
    have a2 : upd H4 u2 (.lst (iV [x])) u2 = some (.lst (iV [x])) := upd_same
    generalize upd H4 u2 (.lst (iV [x])) = H5 at *
    refine ⟨u1, u2, _, _, rfl, rfl, t2 _ _ a1, a2, sz12 (by show 3 ≤ 4096; decide), fun r1 n1 => ?_⟩
    have t3 := Same.new (o := .lst (iV [y, z] ++ iV [x])) n1
    have a3 : upd H5 r1 (.lst (iV [y, z] ++ iV [x])) r1 = some (.lst (iV [y, z, x])) := upd_same
    generalize upd H5 r1 (.lst (iV [y, z] ++ iV [x])) = H6 at *
    have q6 := t3 _ _ (t2 _ _ (t1 _ _ q3))
    refine ⟨_, rfl, _, rfl, q, _, rfl, SqL.of q6, ?_⟩
    rw [c3]
    intro u3 m3
    have t4 := Same.new (o := .lst (iV [z])) m3
    have a4 : upd H6 u3 (.lst (iV [z])) u3 = some (.lst (iV [z])) := upd_same
    generalize upd H6 u3 (.lst (iV [z])) = H7 at *
    refine ⟨_, rfl, _, rfl, q, _, rfl, SqL.of (t4 _ _ q6), ?_⟩
    rw [c4]
    intro u4 m4
    have t5 := Same.new (o := .lst (iV [x, y])) m4
    have a5 : upd H7 u4 (.lst (iV [x, y])) u4 = some (.lst (iV [x, y])) := upd_same
    generalize upd H7 u4 (.lst (iV [x, y])) = H8 at *
    refine ⟨u3, u4, _, _, rfl, rfl, t5 _ _ a4, a5, sz12 (by show 3 ≤ 4096; decide), fun r2 n2 => ?_⟩
    have t6 := Same.new (o := .lst (iV [z] ++ iV [x, y])) n2
    have a6 : upd H8 r2 (.lst (iV [z] ++ iV [x, y])) r2 = some (.lst (iV [z, x, y])) := upd_same
    generalize upd H8 r2 (.lst (iV [z] ++ iV [x, y])) = H9 at *
    refine ⟨by show 3 ≤ sizeLine; decide, fun D0 nD => ?_⟩
    have t7 := Same.new (o := .lst [.ref r0, .ref r1, .ref r2]) nD
    have a7 : upd H9 D0 (.lst [.ref r0, .ref r1, .ref r2]) D0 = some (.lst [.ref r0, .ref r1, .ref r2]) := upd_same
    generalize upd H9 D0 (.lst [.ref r0, .ref r1, .ref r2]) = HA at *
    have b0 := t6 _ _ (t5 _ _ (t4 _ _ (t3 _ _ (t2 _ _ (t1 _ _ r3)))))
    have b1 := t6 _ _ (t5 _ _ (t4 _ _ a3))
    have sA : Same H H9 := ((((((s2.trans t0).trans t1).trans t2).trans t3).trans t4).trans t5).trans t6
    have flA : FLs H HA D0 (QD.tri r0 r1 r2) (QD.tri [x, y, z] [y, z, x] [z, x, y]) := mkFL (sA.free nD) (s2.free n0) ((((s2.trans t0).trans t1).trans t2).free n1) (((((((s2.trans t0).trans t1).trans t2).trans t3).trans t4).trans t5).free n2) a7 (t7 _ _ b0) (t7 _ _ b1) (t7 _ _ a6)
      (ne_of_none b0 nD) (ne_of_none b1 nD) (ne_of_none a6 nD) (ne_of_none (t2 _ _ (t1 _ _ r3)) n1) (ne_of_none (t5 _ _ (t4 _ _ (t3 _ _ (t2 _ _ (t1 _ _ r3))))) n2) (ne_of_none (t5 _ _ (t4 _ _ a3)) n2)
    have sHA := sA.trans t7
    have pA : ∀ w, w < 3 → (QD.tri [x, y, z] [y, z, x] [z, x, y] w).Perm ((x :: y :: z :: rest).take 3) := fun w hw => by
      have p1 : [y, z, x].Perm [x, y, z] := List.perm_append_comm (l₁ := [y, z]) (l₂ := [x])
      have p2 : [z, x, y].Perm [x, y, z] := List.perm_append_comm (l₁ := [z]) (l₂ := [x, y])
      match w, hw with
      | 0, _ => exact .refl _
      | 1, _ => exact p1
      | 2, _ => exact p2
    refine ⟨_, rfl, b, c, 2, rfl, hbx.mono sHA, by decide, by decide, fun HB v mvB hv => ⟨rfl, _, rfl, ?_⟩⟩
    have flB := flA.obm mvB.ob
    have gmB := ((Mv.refl hbx).same sHA).trans mvB
    by_cases ev : V.int (v : Int) = V.int 1
    · refine iteDT ev ?_
      refine ⟨_, rfl, D0, _, _, _, rfl, rfl, SqL.of flB.d, three_at (w := 0) (by decide), ?_⟩
      refine ⟨_, rfl, D0, _, _, _, rfl, rfl, SqL.of flB.d, three_at (w := 2) (by decide), ?_⟩
      refine ⟨_, rfl, D0, _, _, _, rfl, rfl, SqL.of flB.d, three_at (w := 1) (by decide), by show 3 ≤ sizeLine; decide, fun D nD2 => ?_⟩
      generalize QD.tri r0 r1 r2 = B0 at *
      generalize QD.tri [x, y, z] [y, z, x] [z, x, y] = M0 at *
      have gf := reFL (i := 0) (j := 2) (k := 1) flB gmB.ob nD2 (by decide) (by decide) (by decide) (by decide) (by decide) (by decide)
      have gm := gmB.same (Same.new (o := .lst [.ref (B0 0), .ref (B0 2), .ref (B0 1)]) nD2)
      have gp : ∀ w, w < 3 → (QD.tri (M0 0) (M0 2) (M0 1) w).Perm ((x :: y :: z :: rest).take 3) := fun w hw => by
        match w, hw with
        | 0, _ => exact pA 0 (by decide)
        | 1, _ => exact pA 2 (by decide)
        | 2, _ => exact pA 1 (by decide)
      generalize QD.tri (B0 0) (B0 2) (B0 1) = B at *
      generalize QD.tri (M0 0) (M0 2) (M0 1) = M at *
      generalize upd HB D (.lst [.ref (B0 0), .ref (B0 2), .ref (B0 1)]) = HC at *
      refine ⟨_, rfl, _, rfl, a, _, rfl, gm.ob.sq ha (nb_ints _), fun p2 hp2 => ?_⟩
      have ec : cutV (iV (x :: y :: z :: rest)) (some 3) none = iV rest := cutF (k := 3) rfl (by show 3 ≤ rest.length + 3; omega)
      rw [ec]
      have sp2 := Same.new (o := .lst (iV rest)) hp2
      have np : ∀ w, w < 3 → B w ≠ p2 := fun w hw => ne_of_none (gf.at_ w hw) hp2
      have st0 : RwAt K b c H _ D p2 B (x :: y :: z :: rest) rest 3 0 := ⟨gm.same sp2, upd_same, M, gf.mono sp2, fun w _ h => by omega, fun w hw _ => gp w hw⟩
      refine ⟨p2, rfl, ⟨_, SqL.of upd_same⟩, for_it (walk_list (K := K) (a := p2) (xs := iV rest)) (fun i σ H1 => ∃ v4 v5 v6 v7, σ = [some (.ref b), some (.ref a), some (.ref q), some (.ref D), v4, v5, v6, v7] ∧ RwAt K b c H H1 D p2 B (x :: y :: z :: rest) rest (3 + i) 0)
        ⟨_, _, _, _, rfl, st0⟩ (fun i σ H1 _ ⟨_, _, _, _, _, g⟩ => SqL.of g.p2) ?_ ?_⟩
      · rintro i x0 σ H1 H2 hi ⟨v4, v5, v6, v7, rfl, g⟩ ⟨rfl, e2⟩
        obtain ⟨one, ho, rfl⟩ := iV_of e2
        have hone : (x :: y :: z :: rest)[3 + i]? = some one := by
          rw [Nat.add_comm]
          exact ho
        obtain ⟨M1, fl1, _, gp1⟩ := g.ex
        have hi' : i < rest.length := by rw [iV_len] at hi; exact hi
        have len1 : ∀ w, w < 3 → (M1 w).length = 3 + i := fun w hw => by
          rw [(gp1 w hw (Nat.zero_le _)).length_eq, List.length_take]
          show min (3 + i) (rest.length + 3) = 3 + i
          omega
        refine ⟨_, rfl, _, rfl, D, _, _, _, rfl, rfl, SqL.of fl1.d, three_at (w := 0) (by decide), B 0, _, rfl, .inl (SqL.of (fl1.at_ 0 (by decide))), _, _, rfl, rfl, ?_⟩
        rw [iV_len, len1 0 (by decide)]
        refine ⟨b, c, 3 + i + 1, rfl, g.mv.bx, by omega, by omega, fun H3 v mv3 hv => ?_⟩
        refine ⟨_, rfl, b, c, 2, rfl, mv3.bx, by decide, by decide, fun H4 ap mv4 hap => ?_⟩
        have g4 := (g.move mv3).move mv4
        have fl4 := (fl1.obm mv3.ob).obm mv4.ob
        refine ⟨_, rfl, D, rfl, ⟨_, SqL.of fl4.d⟩, for_it (walk_list (K := K) (a := D) (xs := [.ref (B 0), .ref (B 1), .ref (B 2)])) (fun j σ H5 => ∃ (v5 : Nat) (v7 : Option V), σ = [some (.ref b), some (.ref a), some (.ref q), some (.ref D), some (.int one), some (.int v5), some (.int ap), v7] ∧ v5 < 100 ∧ RwAt K b c H H5 D p2 B (x :: y :: z :: rest) rest (3 + i) j)
          ⟨v, v7, rfl, by omega, g4⟩ (fun j σ H5 _ ⟨_, _, _, _, g5⟩ => by
            obtain ⟨_, fl5, _⟩ := g5.ex
            exact SqL.of fl5.d) ?_ ?_⟩
        · rintro j x1 σ H5 H6 hj ⟨v5, v7, rfl, hv5, g5⟩ ⟨rfl, e3⟩
          obtain ⟨hj3, rfl⟩ := three_of e3
          obtain ⟨l, hl, ll, hput⟩ := g5.put hbx hj3 np hone
          refine ⟨_, rfl, rfl, _, rfl, ?_⟩
          by_cases ea : V.int (ap : Int) = V.int 1
          · refine iteDT ea ?_
            refine ⟨_, rfl, _, rfl, B j, _, rfl, .inl (SqL.of hl), _, _, rfl, rfl, ?_⟩
            rw [iV_len]
            refine ⟨b, c, l.length + 1, rfl, g5.mv.bx, by omega, by omega, fun H7 v8 mv7 hv8 => ?_⟩
            obtain ⟨l2, hl2, ll2, hput2⟩ := (g5.move mv7).put hbx hj3 np hone
            refine ⟨_, rfl, .inl ⟨rfl, _, SqL.of hl2⟩, _, rfl, _, rfl, B j, _, _, _, rfl, rfl, hl2, sz12' (by rw [iV_len]; omega), by omega, by omega, ?_⟩
            rw [Int.toNat_natCast, iV_ins]
            exact ⟨v8, _, rfl, by omega, hput2 v8⟩
          · refine iteDF ea ?_
            refine ⟨_, rfl, .inl ⟨rfl, _, SqL.of hl⟩, _, rfl, _, rfl, B j, _, _, _, rfl, rfl, hl, sz12' (by rw [iV_len]; omega), by omega, by omega, ?_⟩
            rw [Int.toNat_natCast, iV_ins]
            exact ⟨v5, _, rfl, hv5, hput v5⟩
        · rintro σ H5 ⟨v5, v7, rfl, _, g5⟩
          exact ⟨_, _, _, _, rfl, g5.full⟩
      · rintro σ H1 ⟨v4, v5, v6, v7, rfl, g⟩
        obtain ⟨M1, fl1, _, gp1⟩ := g.ex
        refine ⟨_, rfl, k _ D M1 g.mv fl1.lls (QD.stOk_of kok fun w hw => ?_)⟩
        have z := gp1 w hw (Nat.zero_le _)
        rw [iV_len, List.take_of_length_le (show rest.length + 3 ≤ 3 + rest.length by omega)] at z
        exact z
    · refine iteDF ev ?_
      generalize QD.tri r0 r1 r2 = B at *
      generalize QD.tri [x, y, z] [y, z, x] [z, x, y] = M at *
      have gm := gmB
      have gf := flB
      have gp := pA
      generalize D0 = D at *
      refine ⟨_, rfl, _, rfl, a, _, rfl, gm.ob.sq ha (nb_ints _), fun p2 hp2 => ?_⟩
      have ec : cutV (iV (x :: y :: z :: rest)) (some 3) none = iV rest := cutF (k := 3) rfl (by show 3 ≤ rest.length + 3; omega)
      rw [ec]
      have sp2 := Same.new (o := .lst (iV rest)) hp2
      have np : ∀ w, w < 3 → B w ≠ p2 := fun w hw => ne_of_none (gf.at_ w hw) hp2
      have st0 : RwAt K b c H _ D p2 B (x :: y :: z :: rest) rest 3 0 := ⟨gm.same sp2, upd_same, M, gf.mono sp2, fun w _ h => by omega, fun w hw _ => gp w hw⟩
      refine ⟨p2, rfl, ⟨_, SqL.of upd_same⟩, for_it (walk_list (K := K) (a := p2) (xs := iV rest)) (fun i σ H1 => ∃ v4 v5 v6 v7, σ = [some (.ref b), some (.ref a), some (.ref q), some (.ref D), v4, v5, v6, v7] ∧ RwAt K b c H H1 D p2 B (x :: y :: z :: rest) rest (3 + i) 0)
        ⟨_, _, _, _, rfl, st0⟩ (fun i σ H1 _ ⟨_, _, _, _, _, g⟩ => SqL.of g.p2) ?_ ?_⟩
      · rintro i x0 σ H1 H2 hi ⟨v4, v5, v6, v7, rfl, g⟩ ⟨rfl, e2⟩
        obtain ⟨one, ho, rfl⟩ := iV_of e2
        have hone : (x :: y :: z :: rest)[3 + i]? = some one := by
          rw [Nat.add_comm]
          exact ho
        obtain ⟨M1, fl1, _, gp1⟩ := g.ex
        have hi' : i < rest.length := by rw [iV_len] at hi; exact hi
        have len1 : ∀ w, w < 3 → (M1 w).length = 3 + i := fun w hw => by
          rw [(gp1 w hw (Nat.zero_le _)).length_eq, List.length_take]
          show min (3 + i) (rest.length + 3) = 3 + i
          omega
        refine ⟨_, rfl, _, rfl, D, _, _, _, rfl, rfl, SqL.of fl1.d, three_at (w := 0) (by decide), B 0, _, rfl, .inl (SqL.of (fl1.at_ 0 (by decide))), _, _, rfl, rfl, ?_⟩
        rw [iV_len, len1 0 (by decide)]
        refine ⟨b, c, 3 + i + 1, rfl, g.mv.bx, by omega, by omega, fun H3 v mv3 hv => ?_⟩
        refine ⟨_, rfl, b, c, 2, rfl, mv3.bx, by decide, by decide, fun H4 ap mv4 hap => ?_⟩
        have g4 := (g.move mv3).move mv4
        have fl4 := (fl1.obm mv3.ob).obm mv4.ob
        refine ⟨_, rfl, D, rfl, ⟨_, SqL.of fl4.d⟩, for_it (walk_list (K := K) (a := D) (xs := [.ref (B 0), .ref (B 1), .ref (B 2)])) (fun j σ H5 => ∃ (v5 : Nat) (v7 : Option V), σ = [some (.ref b), some (.ref a), some (.ref q), some (.ref D), some (.int one), some (.int v5), some (.int ap), v7] ∧ v5 < 100 ∧ RwAt K b c H H5 D p2 B (x :: y :: z :: rest) rest (3 + i) j)
          ⟨v, v7, rfl, by omega, g4⟩ (fun j σ H5 _ ⟨_, _, _, _, g5⟩ => by
            obtain ⟨_, fl5, _⟩ := g5.ex
            exact SqL.of fl5.d) ?_ ?_⟩
        · rintro j x1 σ H5 H6 hj ⟨v5, v7, rfl, hv5, g5⟩ ⟨rfl, e3⟩
          obtain ⟨hj3, rfl⟩ := three_of e3
          obtain ⟨l, hl, ll, hput⟩ := g5.put hbx hj3 np hone
          refine ⟨_, rfl, rfl, _, rfl, ?_⟩
          by_cases ea : V.int (ap : Int) = V.int 1
          · refine iteDT ea ?_
            refine ⟨_, rfl, _, rfl, B j, _, rfl, .inl (SqL.of hl), _, _, rfl, rfl, ?_⟩
            rw [iV_len]
            refine ⟨b, c, l.length + 1, rfl, g5.mv.bx, by omega, by omega, fun H7 v8 mv7 hv8 => ?_⟩
            obtain ⟨l2, hl2, ll2, hput2⟩ := (g5.move mv7).put hbx hj3 np hone
            refine ⟨_, rfl, .inl ⟨rfl, _, SqL.of hl2⟩, _, rfl, _, rfl, B j, _, _, _, rfl, rfl, hl2, sz12' (by rw [iV_len]; omega), by omega, by omega, ?_⟩
            rw [Int.toNat_natCast, iV_ins]
            exact ⟨v8, _, rfl, by omega, hput2 v8⟩
          · refine iteDF ea ?_
            refine ⟨_, rfl, .inl ⟨rfl, _, SqL.of hl⟩, _, rfl, _, rfl, B j, _, _, _, rfl, rfl, hl, sz12' (by rw [iV_len]; omega), by omega, by omega, ?_⟩
            rw [Int.toNat_natCast, iV_ins]
            exact ⟨v5, _, rfl, hv5, hput v5⟩
        · rintro σ H5 ⟨v5, v7, rfl, _, g5⟩
          exact ⟨_, _, _, _, rfl, g5.full⟩
      · rintro σ H1 ⟨v4, v5, v6, v7, rfl, g⟩
        obtain ⟨M1, fl1, _, gp1⟩ := g.ex
        refine ⟨_, rfl, k _ D M1 g.mv fl1.lls (QD.stOk_of kok fun w hw => ?_)⟩
        have z := gp1 w hw (Nat.zero_le _)
        rw [iV_len, List.take_of_length_le (show rest.length + 3 ≤ 3 + rest.length by omega)] at z
        exact z
end
end Qd

set_option Elab.async false
set_option linter.all false
set_option maxRecDepth 100000
set_option maxHeartbeats 4000000
/-! The law's helpers, fifth part: lists, loose, state, votes, near. -/
namespace Qd
open PySem PySem.Spec PyProof.Rows L2
section
variable {P : Program} {w : World} {K : PySem.W.Frag} {mg : Str → Option Value} {base : Heap} {CS CR CU f : Addr} {fd : FuncData}
def sp_boundL (K : PySem.W.Frag) : Sp := fun vs H Q _ => ∃ (b c : Addr) (m : Nat), vs = [.ref b, .int m] ∧ Box K H b c ∧ (m = 6 ∨ m = 10) ∧ ∀ H' p L, Mv K b c H H' → LLs K H' p L → QD.StOk L → Q (.ref p) H'
abbrev P_boundL' : List Str := ["_law_box_here", "_law_most"]
/-! ### lists -/
structure PvO (K : PySem.W.Frag) (b c : Addr) (H0 : Hp) (D : Addr) (ks : List Int) (i : Nat) (H : Hp) : Prop where
  mv : Mv K b c H0 H
  ex : ∃ (B : Nat → Addr) (M : QD.LS), H D = some (.lst ((List.range i).map fun j => V.ref (B j))) ∧ ∀ j, j < i → H (B j) = some (.lst (iV (M j))) ∧ (M j).Perm ks ∧ B j ≠ D
theorem refs_at {i : Nat} {B : Nat → Addr} : ((List.range i).map fun j => V.ref (B j)) = ((List.range i).map B).map V.ref := by
  rw [List.map_map]
  rfl
theorem PvO.step {b c : Addr} {H0 H H' : Hp} {D l : Addr} {ks ms : List Int} {i : Nat} (bx : Box K H0 b c) (h : PvO K b c H0 D ks i H) (hD : H0 D = none) (mv : Mv K b c H H') (hl : H l = none) (hl' : H' l = some (.lst (iV ms))) (pm : ms.Perm ks) (hi : i < 3) :
    ∃ acc, H' D = some (.lst acc) ∧ acc.length < sizeLine ∧ PvO K b c H0 D ks (i + 1) (upd H' D (.lst (acc ++ [V.ref l]))) := by
  obtain ⟨B, M, h1, h2⟩ := h.ex
  have hDl : D ≠ l := ne_of_none h1 hl
  have h1' : H' D = some (.lst ((List.range i).map fun j => V.ref (B j))) := mv.ob.keep _ _ h1 (by rw [refs_at]; exact nb_refs _)
  refine ⟨_, h1', sz12' (by rw [List.length_map, List.length_range]; omega), Mv.put bx (h.mv.trans mv) hD, fun j => if j = i then l else B j, fun j => if j = i then ms else M j, ?_, fun j hj => ?_⟩
  · rw [upd_same, List.range_succ, List.map_append]
    have e : (List.range i).map (fun j => V.ref (if j = i then l else B j)) = (List.range i).map fun j => V.ref (B j) := List.map_congr_left fun j hj => by
      rw [if_neg (Nat.ne_of_lt (List.mem_range.mp hj))]
    rw [e]
    show _ = some (HO.lst (_ ++ [V.ref (if i = i then l else B i)]))
    rw [if_pos rfl]
  · dsimp only
    by_cases e : j = i
    · subst e
      rw [if_pos rfl, if_pos rfl]
      exact ⟨by rw [upd_ne (Ne.symm hDl)]; exact hl', pm, Ne.symm hDl⟩
    · rw [if_neg e, if_neg e]
      obtain ⟨q1, q2, q3⟩ := h2 j (by omega)
      exact ⟨by rw [upd_ne q3]; exact mv.ob.keep _ _ q1 (nb_ints _), q2, q3⟩
theorem PvO.done {b c : Addr} {H0 H : Hp} {D : Addr} {ks : List Int} (h : PvO K b c H0 D ks 3 H) (ok : QD.KOk ks) : ∃ L, LLs K H D L ∧ QD.StOk L := by
  obtain ⟨B, M, h1, h2⟩ := h.ex
  exact ⟨M, ⟨B, SqL.of h1, fun w hw => SqL.of (h2 w hw).1⟩, QD.stOk_of ok fun w hw => (h2 w hw).2.1⟩
def sp_listsL (K : PySem.W.Frag) : Sp := fun vs H Q _ => ∃ (b c : Addr) (m : Nat) (o : Int), vs = [.ref b, .int m, .int o] ∧ Box K H b c ∧ (m = 6 ∨ m = 10) ∧ ∀ H' p L, Mv K b c H H' → LLs K H' p L → QD.StOk L → Q (.ref p) H'
abbrev N_listsL : List Str := ["_law_box_here", "_law_most", "_law_often", "_law_kind", "_law_keys_here", "_law_now", "_law_k"]
abbrev P_listsL : List Str := ["_law_box_here", "_law_most", "_law_often"]
theorem sc_listsL : FnScope N_listsL P_listsL (defScope s_listsL) := ⟨rfl, rfl, rfl, by decide +kernel, rfl, by decide +kernel, by decide +kernel⟩
theorem three_list {H : Hp} {q : Addr} (h : H q = none) : SqI K (upd H q (.lst [.int 0, .int 1, .int 2])) q (([0, 1, 2] : List Nat).map Int.ofNat) := SqL.of upd_same
theorem ok_listsL (F : F_listsL K f fd) (T : Txt K mg CS CR CU) (c_takeL : Cal P w K mg base "_law_take" 1 P_takeL (sp_takeL K)) (c_walkL : Cal P w K mg base "_law_walk" 3 P_walkL (sp_walkL K)) (c_boundL : Cal P w K mg base "_law_bound" 4 P_boundL' (sp_boundL K))
    (c_keysL : Cal P w K mg base "_law_keys" 3 P_keysL (sp_keysL K)) (c_countL : Cal P w K mg base "_law_count" 2 P_countL (sp_countL K)) (c_orderL : Cal P w K mg base "_law_order" 2 P_orderL (sp_orderL K)) (c_ringL : Cal P w K mg base "_law_ring" 2 P_ringL (sp_ringL K)) :
    FnOk P w K mg base CX0 5 f fd P_listsL (sp_listsL K) := by
  refine FunD.ok F sc_listsL (fun vs H Q E h => ?_) (fun cdv A outer s H vs Q E hr h => ?_)
  · obtain ⟨b, c, m, o, rfl, _⟩ := h
    rfl
  · obtain ⟨b, c, m, o, rfl, hbx, hm, k⟩ := h
    have nd := sc_listsL.nd
    refine ⟨_, PSs.nox ((pss_cons (ps_set (i := 3) nd rfl (Or.inl rfl) (pe_cal c_takeL (hr.mono (by decide)) (pa_cons (pv 0) (pa_cons pe_int pa_nil))))
  (pss_cons (ps_if (pt_cmpR op_ge (pv 3) (pe_op op_sub pe_int (pv 2)) (nomark _))
    (pss_one (ps_ret (pe_ix (k_ixL (K := K)) (pe_cal c_walkL (hr.mono (by decide)) (pa_cons (pv 0) (pa_cons (pe_cal c_boundL (hr.mono (by decide)) (pa_cons (pv 0) (pa_cons (pv 1) pa_nil))) (pa_cons (pe_lst (pa_cons pe_int (pa_cons pe_int (pa_cons pe_int pa_nil)))) (pa_cons (pe_cal c_takeL (hr.mono (by decide)) (pa_cons (pv 0) (pa_cons pe_int pa_nil))) pa_nil))))) pe_int (fun _ _ => rfl))))
    pss_nil)
  (pss_cons (ps_set (i := 4) nd rfl (Or.inr rfl) (pe_cal c_keysL (hr.mono (by decide)) (pa_cons (pv 0) (pa_cons (pe_cal c_countL (hr.mono (by decide)) (pa_cons (pv 0) (pa_cons (pv 1) pa_nil))) pa_nil))))
  (pss_cons (ps_set (i := 3) nd rfl (Or.inl rfl) (pe_op op_modN (pe_callTy call_int1 (by rfl) T.int bt_int (pa_cons (pv 3) pa_nil)) pe_int))
  (pss_cons (ps_if (pt_cmpR op_eq (pv 3) pe_int (nomark _))
    (pss_one (ps_ret (pe_lc (own := [("_law_k", 6)]) (g := gName 6) rfl nd (pi_range1 (by rfl) T.range (pa_cons pe_int pa_nil)) (blkOk_by (own := [("_law_k", 6)]) (N := N_listsL) (sc := defScope s_listsL) (by decide +kernel)) (fun _ _ _ _ _ => pg_name (i := 6) nd rfl (Or.inl rfl)) (fun _ _ _ _ _ => pts_nil) (fun _ _ _ _ _ => (pe_cal c_orderL (hr.mono (by decide)) (pa_cons (pv 0) (pa_cons (pv 4) pa_nil)))))))
    pss_nil)
  (pss_cons (ps_setLc (i := 5) (own := [("_law_k", 6)]) (g := gName 6) rfl nd rfl rfl (sw_true rfl rfl rfl (by decide +kernel)) (pi_range1 (by rfl) T.range (pa_cons pe_int pa_nil)) (blkOk_by (own := [("_law_k", 6)]) (N := N_listsL) (sc := defScope s_listsL) (by decide +kernel)) (fun _ _ _ _ _ => pg_name (i := 6) nd rfl (Or.inl rfl)) (fun _ _ _ _ _ => pts_nil) (fun _ _ _ _ _ => (pe_callTy (k_list (K := K)) (by rfl) T.list bt_list (pa_cons (pv 4) pa_nil))))
  (pss_cons (ps_if (PW.pt (pw_and (pt_cmpR op_eq (pv 3) pe_int (nomark _)) (pw_and1 (pt_cmpR op_ge (pe_callB (k_len (K := K)) (by rfl) T.len bt_len (pa_cons (pv 4) pa_nil)) pe_int (nomark _)))))
    (pss_one (ps_set (i := 5) nd rfl (Or.inl rfl) (pe_cal c_ringL (hr.mono (by decide)) (pa_cons (pv 0) (pa_cons (pv 4) pa_nil)))))
    pss_nil)
  (pss_one (ps_ret (pe_ix (k_ixL (K := K)) (pe_cal c_walkL (hr.mono (by decide)) (pa_cons (pv 0) (pa_cons (pv 5) (pa_cons (pe_lst (pa_cons pe_int (pa_cons pe_int (pa_cons pe_int pa_nil)))) (pa_cons (pe_cal c_takeL (hr.mono (by decide)) (pa_cons (pv 0) (pa_cons pe_int pa_nil))) pa_nil))))) pe_int (fun _ _ => rfl)))))))))))), ?_⟩
    refine ⟨_, rfl, b, c, 10, rfl, hbx, by decide, by decide, fun H1 kd mv1 hk => ?_⟩
    refine ⟨_, rfl, _, rfl, _, _, rfl, rfl, _, _, rfl, rfl, _, rfl, ?_⟩
    by_cases e1 : (10 : Int) - o ≤ (kd : Int)
    · refine iteDT e1 ?_
      refine ⟨_, rfl, _, rfl, _, rfl, b, c, m, rfl, mv1.bx, hm, fun H2 p L mv2 ll ok => ⟨by show 3 ≤ sizeLine; decide, fun r hr0 => ?_⟩⟩
      have sr := Same.new (o := .lst [.int 0, .int 1, .int 2]) hr0
      refine ⟨_, rfl, b, c, 25, rfl, mv2.bx.mono sr, by decide, by decide, fun H3 v mv3 hv => ?_⟩
      have mvA := ((mv1.trans mv2).same sr).trans mv3
      refine ⟨b, c, p, r, v, L, [0, 1, 2], rfl, mvA.bx, mv3.ob.lls (ll.mono sr), ok, mv3.ob.sq (three_list hr0) (nb_ints _), by decide, by decide, by omega, fun H4 pp D S ss mv4 hp llD tl path _ => ?_⟩
      exact ⟨pp, _, _, _, rfl, rfl, SqL.of hp, atI_nat (j := 0) rfl, k _ D _ (mvA.trans mv4) llD (path.stay ok).ok⟩
    · refine iteDF e1 ?_
      refine ⟨_, rfl, _, rfl, _, rfl, b, c, m, rfl, mv1.bx, by omega, by omega, fun H2 n mv2 hn => ?_⟩
      refine ⟨b, c, n, rfl, mv2.bx, hn, fun H3 kp ms mv3 nkp hkp kok klen => ?_⟩
      have mvA := (mv1.trans mv2).trans mv3
      refine ⟨_, rfl, .inl ⟨_, rfl, _, _, rfl, rfl, by omega, ?_⟩⟩
      refine ⟨_, rfl, rfl, _, rfl, ?_⟩
      by_cases e2 : V.int ((kd : Int).fmod 3) = V.int 0
      · refine iteDT e2 ?_
        refine ⟨3, rfl, by decide, by decide, fun D hD => ?_⟩
        have hD0 := mvA.ob.has _ hD
        have sD := Same.new (o := .lst []) hD
        refine lc_range (lo := 0) (n := 3) (fun i H4 => PvO K b c H D ms i H4 ∧ Ob H3 H4) ⟨⟨mvA.same sD, fun _ => D, fun _ => [], upd_same, fun j h => by omega⟩, sD.ob⟩ (fun i H4 hi ⟨g, ob⟩ => ?_) fun H4 ⟨g, ob⟩ => ?_
        · refine ⟨rfl, _, rfl, _, rfl, b, c, kp, ms, rfl, g.mv.bx, SqL.of (ob.keep _ _ hkp (nb_ints _)), ?_, fun H5 p ms2 mv5 np hp pm => ?_⟩
          · have := kok.len
            omega
          · obtain ⟨acc, q1, q2, q3⟩ := g.step hbx hD0 mv5 np hp pm hi
            exact ⟨acc, q1, q2, q3, (ob.trans mv5.ob).put hD⟩
        · obtain ⟨L, ll, ok⟩ := g.done kok
          exact k _ D L g.mv ll ok
      · refine iteDF e2 ?_
        refine ⟨3, rfl, by decide, by decide, fun D hD => ?_⟩
        refine lc_range (lo := 0) (n := 3) (fun i H4 => PvC H3 D (lO fun _ => ms) i H4) (PvC.zero hD) (fun i H4 hi q => ?_) fun H4 q => ?_
        · exact ⟨rfl, _, rfl, kp, _, rfl, .inl (SqL.of (q.s _ _ hkp)), fun l hl => q.step hD hl hi⟩
        · obtain ⟨C, fl⟩ := q.done hD
          have mvB := mvA.same q.s
          have hkp4 := q.s _ _ hkp
          have ok4 : QD.StOk (fun _ => ms) := ⟨kok, .refl _, .refl _⟩
          refine ⟨_, rfl, rfl, _, rfl, ?_⟩
          by_cases e3 : V.int ((kd : Int).fmod 3) = V.int 2
          · refine iteDT e3 ⟨_, rfl, kp, _, rfl, .inl (SqL.of hkp4), _, _, rfl, rfl, _, rfl, ?_⟩
            rw [iV_len]
            by_cases e4 : (3 : Int) ≤ (ms.length : Nat)
            · refine iteDT e4 ?_
              refine ⟨_, rfl, _, rfl, b, c, kp, ms, rfl, mvB.bx, SqL.of hkp4, kok, by omega, fun H5 p L mv5 ll5 ok5 => ?_⟩
              refine ⟨_, rfl, _, rfl, by show 3 ≤ sizeLine; decide, fun r hr0 => ?_⟩
              have sr := Same.new (o := .lst [.int 0, .int 1, .int 2]) hr0
              have mvC := (mvB.trans mv5).same sr
              refine ⟨_, rfl, b, c, 25, rfl, mvC.bx, by decide, by decide, fun H6 v mv6 hv => ?_⟩
              refine ⟨b, c, p, r, v, L, [0, 1, 2], rfl, mv6.bx, mv6.ob.lls (ll5.mono sr), ok5, mv6.ob.sq (three_list hr0) (nb_ints _), by decide, by decide, by omega, fun H7 pp D S ss mv7 hp llD tl path _ => ?_⟩
              exact ⟨pp, _, _, _, rfl, rfl, SqL.of hp, atI_nat (j := 0) rfl, k _ _ _ ((mvC.trans mv6).trans mv7) llD (path.stay ok5).ok⟩
            · refine iteDF e4 ?_
              refine ⟨_, rfl, _, rfl, by show 3 ≤ sizeLine; decide, fun r hr0 => ?_⟩
              have sr := Same.new (o := .lst [.int 0, .int 1, .int 2]) hr0
              have mvC := mvB.same sr
              refine ⟨_, rfl, b, c, 25, rfl, mvC.bx, by decide, by decide, fun H6 v mv6 hv => ?_⟩
              refine ⟨b, c, D, r, v, fun _ => ms, [0, 1, 2], rfl, mv6.bx, mv6.ob.lls (fl.lls.mono sr), ok4, mv6.ob.sq (three_list hr0) (nb_ints _), by decide, by decide, by omega, fun H7 pp D S ss mv7 hp llD tl path _ => ?_⟩
              exact ⟨pp, _, _, _, rfl, rfl, SqL.of hp, atI_nat (j := 0) rfl, k _ _ _ ((mvC.trans mv6).trans mv7) llD (path.stay ok4).ok⟩
          · refine iteDF e3 (iteF ?_)
            refine ⟨_, rfl, _, rfl, by show 3 ≤ sizeLine; decide, fun r hr0 => ?_⟩
            have sr := Same.new (o := .lst [.int 0, .int 1, .int 2]) hr0
            have mvC := mvB.same sr
            refine ⟨_, rfl, b, c, 25, rfl, mvC.bx, by decide, by decide, fun H6 v mv6 hv => ?_⟩
            refine ⟨b, c, D, r, v, fun _ => ms, [0, 1, 2], rfl, mv6.bx, mv6.ob.lls (fl.lls.mono sr), ok4, mv6.ob.sq (three_list hr0) (nb_ints _), by decide, by decide, by omega, fun H7 pp D S ss mv7 hp llD tl path _ => ?_⟩
            exact ⟨pp, _, _, _, rfl, rfl, SqL.of hp, atI_nat (j := 0) rfl, k _ _ _ ((mvC.trans mv6).trans mv7) llD (path.stay ok4).ok⟩
end
end Qd

set_option Elab.async false
set_option linter.all false
set_option maxRecDepth 100000
set_option maxHeartbeats 4000000
/-! The law's helpers, sixth part: loose, state, votes, near. -/
namespace Qd
open PySem PySem.Spec PyProof.Rows L2
section
variable {P : Program} {w : World} {K : PySem.W.Frag} {mg : Str → Option Value} {base : Heap} {CS CR CU f : Addr} {fd : FuncData}
/-! ### loose -/
def sp_looseL (K : PySem.W.Frag) : Sp := fun vs H Q _ => ∃ (b c : Addr) (m : Nat), vs = [.ref b, .int m] ∧ Box K H b c ∧ (m = 6 ∨ m = 10) ∧ ∀ H' p L, Mv K b c H H' → LLs K H' p L → QD.StOk L → Q (.ref p) H'
abbrev N_looseL : List Str := ["_law_box_here", "_law_most", "_law_lists_here", "_law_k"]
abbrev P_looseL : List Str := ["_law_box_here", "_law_most"]
theorem sc_looseL : FnScope N_looseL P_looseL (defScope s_looseL) := ⟨rfl, rfl, rfl, by decide +kernel, rfl, by decide +kernel, by decide +kernel⟩
theorem ok_looseL (F : F_looseL K f fd) (T : Txt K mg CS CR CU) (c_takeL : Cal P w K mg base "_law_take" 1 P_takeL (sp_takeL K)) (c_walkL : Cal P w K mg base "_law_walk" 3 P_walkL (sp_walkL K)) (c_ableL : Cal P w K mg base "_law_able" 2 P_ableL (sp_ableL K)) (c_listsL : Cal P w K mg base "_law_lists" 5 P_listsL (sp_listsL K)) :
    FnOk P w K mg base CX0 6 f fd P_looseL (sp_looseL K) := by
  refine FunD.ok F sc_looseL (fun vs H Q E h => ?_) (fun cdv A outer s H vs Q E hr h => ?_)
  · obtain ⟨b, c, m, rfl, _⟩ := h
    rfl
  · obtain ⟨b, c, m, rfl, hbx, hm, k⟩ := h
    have nd := sc_looseL.nd
    refine ⟨_, PSs.nox ((pss_cons (ps_set (i := 2) nd rfl (Or.inr rfl) (pe_cal c_listsL (hr.mono (by decide)) (pa_cons (pv 0) (pa_cons (pv 1) (pa_cons pe_int pa_nil)))))
  (pss_cons (ps_if (PW.pt (pw_or (k_truth (K := K) (pe_cal c_ableL (hr.mono (by decide)) (pa_cons (pv 2) (pa_cons (pe_lst (pa_cons pe_int (pa_cons pe_int (pa_cons pe_int pa_nil)))) pa_nil)))) (pw_or1 (pt_cmpR op_eq (pe_cal c_takeL (hr.mono (by decide)) (pa_cons (pv 0) (pa_cons pe_int pa_nil))) pe_int (nomark _)))))
    (pss_one (ps_ret (pv 2)))
    pss_nil)
  (pss_one (ps_ret (pe_ix (k_ixL (K := K)) (pe_cal c_walkL (hr.mono (by decide)) (pa_cons (pv 0) (pa_cons (pe_lc (own := [("_law_k", 3)]) (g := gName 3) rfl nd (pi_range1 (by rfl) T.range (pa_cons pe_int pa_nil)) (blkOk_by (own := [("_law_k", 3)]) (N := N_looseL) (sc := defScope s_looseL) (by decide +kernel)) (fun _ _ _ _ _ => pg_name (i := 3) nd rfl (Or.inl rfl)) (fun _ _ _ _ _ => pts_nil) (fun _ _ _ _ _ => (pe_callTy (k_list (K := K)) (by rfl) T.list bt_list (pa_cons (pe_ix (k_ixL (K := K)) (pv 2) pe_int (fun _ _ => rfl)) pa_nil)))) (pa_cons (pe_lst (pa_cons pe_int (pa_cons pe_int (pa_cons pe_int pa_nil)))) (pa_cons (pe_cal c_takeL (hr.mono (by decide)) (pa_cons (pv 0) (pa_cons pe_int pa_nil))) pa_nil))))) pe_int (fun _ _ => rfl))))))), ?_⟩
    refine ⟨_, rfl, _, rfl, b, c, m, 1, rfl, hbx, hm, fun H1 p L mv1 ll ok => ?_⟩
    refine ⟨_, rfl, by show 3 ≤ sizeLine; decide, fun r hr0 => ?_⟩
    have sr := Same.new (o := .lst [.int 0, .int 1, .int 2]) hr0
    refine ⟨p, r, L, [0, 1, 2], rfl, ll.mono sr, ok, three_list hr0, by decide, by decide, fun H2 q ss s2 tl _ _ => ?_⟩
    obtain ⟨ts, hts, _, _⟩ := tl.ex
    have mv2 := (mv1.same sr).same s2
    have ll2 := (ll.mono sr).mono s2
    refine ⟨_, .inl ⟨_, hts, rfl⟩, ?_⟩
    cases ts with
    | cons t ts =>
      refine iteT (iteT ?_)
      exact ⟨_, rfl, k _ p L mv2 ll2 ok⟩
    | nil =>
      refine iteF ?_
      refine ⟨_, rfl, b, c, 4, rfl, mv2.bx, by decide, by decide, fun H3 v mv3 hv => ⟨rfl, _, rfl, ?_⟩⟩
      have mvA := mv2.trans mv3
      have llA := mv3.ob.lls ll2
      by_cases e : V.int (v : Int) = V.int 3
      · refine iteDT e ?_
        exact ⟨_, rfl, k _ p L mvA llA ok⟩
      · refine iteDF e ?_
        obtain ⟨B, hB, hBw, hBi⟩ := llA.at_
        refine ⟨_, rfl, 3, rfl, by decide, by decide, fun D hD => ?_⟩
        refine lc_range (lo := 0) (n := 3) (fun i H4 => PvC H3 D (lO fun _ => L 0) i H4) (PvC.zero hD) (fun i H4 hi q => ?_) fun H4 q => ?_
        · exact ⟨rfl, _, rfl, p, _, _, _, rfl, rfl, Same.seq q.s hB, atI_nat (j := 0) rfl, B 0, _, rfl, .inl (Same.seq q.s (hBw 0 (by decide))), fun l hl => q.step hD hl hi⟩
        · obtain ⟨C, fl⟩ := q.done hD
          have mvB := mvA.same q.s
          have ok4 : QD.StOk (fun _ => L 0) := ⟨ok.ok, .refl _, .refl _⟩
          refine ⟨by show 3 ≤ sizeLine; decide, fun r hr0 => ?_⟩
          have sr := Same.new (o := .lst [.int 0, .int 1, .int 2]) hr0
          have mvC := mvB.same sr
          refine ⟨_, rfl, b, c, 25, rfl, mvC.bx, by decide, by decide, fun H6 v mv6 hv => ?_⟩
          refine ⟨b, c, D, r, v, fun _ => L 0, [0, 1, 2], rfl, mv6.bx, mv6.ob.lls (fl.lls.mono sr), ok4, mv6.ob.sq (three_list hr0) (nb_ints _), by decide, by decide, by omega, fun H7 pp D S ss mv7 hp llD tl path _ => ?_⟩
          exact ⟨pp, _, _, _, rfl, rfl, SqL.of hp, atI_nat (j := 0) rfl, k _ _ _ ((mvC.trans mv6).trans mv7) llD (path.stay ok4).ok⟩
/-! ### state -/
def sp_stateL (K : PySem.W.Frag) (CS : Addr) : Sp := fun vs H Q _ => ∃ (a : Addr) (L : QD.LS), vs = [.ref a] ∧ LLs K H a L ∧ QD.StOk L ∧ ∀ H' p, Same H H' → StAt K H' CS p L → Q (.ref p) H'
def sp_stateL2 (K : PySem.W.Frag) (CS : Addr) : Sp := fun vs H Q _ => ∃ (a : Addr) (L : QD.LS), vs = [.ref a] ∧ LLs K H a L ∧ QD.StOk L ∧ ∀ H' p, Same H H' → StAt K H' CS p L → NewSt H H' CS p → Q (.ref p) H'
abbrev N_stateL : List Str := ["_law_lists_here"]
abbrev P_stateL : List Str := ["_law_lists_here"]
theorem sc_stateL : FnScope N_stateL P_stateL (defScope s_stateL) := ⟨rfl, rfl, rfl, by decide +kernel, rfl, by decide +kernel, by decide +kernel⟩
theorem ok_stateL2 (F : F_stateL K f fd) (T : Txt K mg CS CR CU) (c_State : Mak P w K mg base "State" CS 3 P_State_init (sp_State_init2 K CS)) : FnOk P w K mg base CX0 5 f fd P_stateL (sp_stateL2 K CS) := by
  refine FunD.ok F sc_stateL (fun vs H Q E h => ?_) (fun cdv A outer s H vs Q E hr h => ?_)
  · obtain ⟨a, L, rfl, _⟩ := h
    rfl
  · obtain ⟨a, L, rfl, h1, ok, k⟩ := h
    have nd := sc_stateL.nd
    refine ⟨_, PSs.nox ((pss_one (ps_ret (pe_mak c_State (hr.mono (by decide)) (pa_cons (pe_callTy (k_list (K := K)) (by rfl) T.list bt_list (pa_cons (pe_ix (k_ixL (K := K)) (pv 0) pe_int (fun _ _ => rfl)) pa_nil)) (pa_cons (pe_callTy (k_list (K := K)) (by rfl) T.list bt_list (pa_cons (pe_ix (k_ixL (K := K)) (pv 0) pe_int (fun _ _ => rfl)) pa_nil)) (pa_cons (pe_callTy (k_list (K := K)) (by rfl) T.list bt_list (pa_cons (pe_ix (k_ixL (K := K)) (pv 0) pe_int (fun _ _ => rfl)) pa_nil)) pa_nil))))))), ?_⟩
    obtain ⟨B, hB, hBw, hBi⟩ := h1.at_
    refine ⟨_, rfl, a, _, _, _, rfl, rfl, hB, atI_nat (j := 0) rfl, B 0, _, rfl, .inl (hBw 0 (by decide)), fun r0 n0 => ?_⟩
    have s0 := Same.new (o := .lst (iV (L 0))) n0
    refine ⟨_, rfl, a, _, _, _, rfl, rfl, Same.seq s0 hB, atI_nat (j := 1) rfl, B 1, _, rfl, .inl (Same.seq s0 (hBw 1 (by decide))), fun r1 n1 => ?_⟩
    have s1 := s0.trans (Same.new (o := .lst (iV (L 1))) n1)
    refine ⟨_, rfl, a, _, _, _, rfl, rfl, Same.seq s1 hB, atI_nat (j := 2) rfl, B 2, _, rfl, .inl (Same.seq s1 (hBw 2 (by decide))), fun r2 n2 => ?_⟩
    have s2 := s1.trans (Same.new (o := .lst (iV (L 2))) n2)
    have a2 : upd (upd (upd H r0 (.lst (iV (L 0)))) r1 (.lst (iV (L 1)))) r2 (.lst (iV (L 2))) r2 = some (.lst (iV (L 2))) := upd_same
    have a1 : upd (upd (upd H r0 (.lst (iV (L 0)))) r1 (.lst (iV (L 1)))) r2 (.lst (iV (L 2))) r1 = some (.lst (iV (L 1))) := Same.new n2 _ _ upd_same
    have a0 : upd (upd (upd H r0 (.lst (iV (L 0)))) r1 (.lst (iV (L 1)))) r2 (.lst (iV (L 2))) r0 = some (.lst (iV (L 0))) := Same.new n2 _ _ (Same.new n1 _ _ upd_same)
    generalize upd (upd (upd H r0 (.lst (iV (L 0)))) r1 (.lst (iV (L 1)))) r2 (.lst (iV (L 2))) = H3 at *
    refine fun x dy nx ny nxy => ?_
    have s6 : Same H3 (upd (upd H3 dy (.own x)) x (.ins CS dy [])) := fun c u q => by
      rw [upd_ne (ne_of_none q nx), upd_ne (ne_of_none q ny)]
      exact q
    refine ⟨x, dy, QD.tri r0 r1 r2, L, rfl, upd_same, fun w hw => ?_, ok, fun H7 st nw kp => ⟨rfl, k _ x (fun c u q => kp c u (s6 _ _ (s2 _ _ q)) (ne_of_none (s2 _ _ q) nx)) st (nw.since (s2.trans s6))⟩⟩
    match w, hw with
    | 0, _ => exact SqL.of (s6 _ _ a0)
    | 1, _ => exact SqL.of (s6 _ _ a1)
    | 2, _ => exact SqL.of (s6 _ _ a2)
theorem stateL_weak {fd : FuncData} (F : FnOk P w K mg base CX0 5 f fd P_stateL (sp_stateL2 K CS)) : FnOk P w K mg base CX0 5 f fd P_stateL (sp_stateL K CS) := F.imp fun vs H Q E h => by
  obtain ⟨a, L, h1, h2, h3, k⟩ := h
  exact ⟨a, L, h1, h2, h3, fun H' p s st _ => k H' p s st⟩
/-! ### votes -/
def oneB (b : Bool) : Int := if b = true then 1 else 0
def sp_votesL (K : PySem.W.Frag) : Sp := fun vs H Q _ => ∃ (a : Addr) (L : QD.LS) (x y : Int), vs = [.ref a, .int x, .int y] ∧ LLs K H a L ∧ (∀ w, w < 3 → x ∈ L w ∧ y ∈ L w) ∧ ∀ H', Same H H' → Q (.bl (QD.rd L x y)) H'
abbrev N_votesL : List Str := ["_law_lists_here", "_law_x", "_law_y", "_law_order_here"]
abbrev P_votesL : List Str := ["_law_lists_here", "_law_x", "_law_y"]
theorem sc_votesL : FnScope N_votesL P_votesL (defScope s_votesL) := ⟨rfl, rfl, rfl, by decide +kernel, rfl, by decide +kernel, by decide +kernel⟩
theorem ok_votesL (F : F_votesL K f fd) (T : Txt K mg CS CR CU) : FnOk P w K mg base CX0 1 f fd P_votesL (sp_votesL K) := by
  refine FunD.ok F sc_votesL (fun vs H Q E h => ?_) (fun cdv A outer s H vs Q E hr h => ?_)
  · obtain ⟨a, L, x, y, rfl, _⟩ := h
    rfl
  · obtain ⟨a, L, x, y, rfl, h1, hm, k⟩ := h
    have nd := sc_votesL.nd
    refine ⟨_, PSs.nox ((pss_one (ps_ret (pe_cmpR op_ge (pe_callB (k_sum (K := K) rfl) (by rfl) T.sum bt_sum (pa_cons (pe_lc (own := [("_law_order_here", 3)]) (g := gName 3) rfl nd (ki_list (K := K) (pv 0)) (blkOk_by (own := [("_law_order_here", 3)]) (N := N_votesL) (sc := defScope s_votesL) (by decide +kernel)) (fun _ _ _ _ _ => pg_name (i := 3) nd rfl (Or.inl rfl)) (fun _ _ _ _ _ => pts_nil) (fun _ _ _ _ _ => (pe_callTy call_int1 (by rfl) T.int bt_int (pa_cons (pe_cmpR op_lt (k_bm (K := K) PySem.F.plainAttrs_list PySem.F.slot_list_index PySem.F.type_list_index (k_index (K := K)) (pv 3) (pa_cons (pv 1) pa_nil)) (k_bm (K := K) PySem.F.plainAttrs_list PySem.F.slot_list_index PySem.F.type_list_index (k_index (K := K)) (pv 3) (pa_cons (pv 2) pa_nil)) (nomark _)) pa_nil)))) pa_nil)) pe_int (nomark _))))), ?_⟩
    obtain ⟨B, hB, hBw, hBi⟩ := h1.at_
    refine ⟨_, rfl, a, rfl, ⟨_, hB⟩, fun D hD => ?_⟩
    refine lc_list (K := K) (a := a) (fun i H2 => Same H H2 ∧ H2 D = some (.lst (iV ((List.range i).map fun j => oneB (QD.bef (L j) x y))))) ⟨Same.new hD, upd_same⟩ (fun i H2 _ q => Same.seq q.1 hB) (fun i x0 H2 hx ⟨s2, hD2⟩ => ?_) fun H2 ⟨s2, hD2⟩ => ?_
    · obtain ⟨hi, rfl⟩ := three_of hx
      have ho := Same.seq s2 (hBw i hi)
      refine ⟨rfl, _, rfl, .inl ⟨rfl, _, ho⟩, _, rfl, _, _, _, _, _, rfl, rfl, ho, rfl, iV_flat _, ix1 (hm i hi).1, ix2 _, ix3, ?_⟩
      refine ⟨_, rfl, .inl ⟨rfl, _, ho⟩, _, rfl, _, _, _, _, _, rfl, rfl, ho, rfl, iV_flat _, ix1 (hm i hi).2, ix2 _, ix3, _, _, rfl, rfl, ?_⟩
      refine .inr ⟨_, rfl, _, hD2, sz12' ?_, Same.put s2 hD, ?_⟩
      · rw [iV_len, List.length_map, List.length_range]
        omega
      · rw [upd_same, List.range_succ, List.map_append]
        have e : decide ((((L i).idxOf x : Nat) : Int) < ((L i).idxOf y : Nat)) = QD.bef (L i) x y := by
          unfold QD.bef
          exact decide_eq_decide.mpr (by omega)
        rw [e]
        show some (HO.lst (_ ++ [_])) = some (HO.lst (List.map V.int (_ ++ [_])))
        rw [List.map_append]
        rfl
    · refine ⟨D, _, rfl, SqL.of hD2, _, _, rfl, rfl, ?_⟩
      have e : decide ((2 : Int) ≤ ((List.range 3).map fun j => oneB (QD.bef (L j) x y)).sum) = QD.rd L x y := by
        show decide ((2 : Int) ≤ ([0, 1, 2].map fun j => oneB (QD.bef (L j) x y)).sum) = QD.maj (QD.bef (L 0) x y) (QD.bef (L 1) x y) (QD.bef (L 2) x y)
        show decide ((2 : Int) ≤ [oneB (QD.bef (L 0) x y), oneB (QD.bef (L 1) x y), oneB (QD.bef (L 2) x y)].sum) = QD.maj (QD.bef (L 0) x y) (QD.bef (L 1) x y) (QD.bef (L 2) x y)
        cases QD.bef (L 0) x y <;> cases QD.bef (L 1) x y <;> cases QD.bef (L 2) x y <;> rfl
      show Q (.bl (decide ((2 : Int) ≤ ((List.range 3).map fun j => oneB (QD.bef (L j) x y)).sum))) H2
      rw [e]
      exact k _ s2
/-! ### near -/
def sp_nearL (K : PySem.W.Frag) : Sp := fun vs H Q _ => ∃ (a r : Addr) (L : QD.LS) (nn : List Nat), vs = [.ref a, .ref r] ∧ LLs K H a L ∧ QD.StOk L ∧ SqI K H r (nn.map Int.ofNat) ∧ (∀ n ∈ nn, n < 3) ∧ nn.length ≤ 3 ∧
  ∀ H' p, Same H H' → H p = none → TlM H' p (QD.nearL (QD.rd L) L nn) → Q (.ref p) H'
theorem PvP.tlm {H0 H : Hp} {D : Addr} {ss : List (Nat × Nat)} (h : PvP H0 D (ss.map nP) H) : TlM H D ss := by
  obtain ⟨ts, h1, h2, h3⟩ := h.ex
  refine ⟨ts, h1, by rw [h2, List.length_map], fun i t q e1 e2 => ?_⟩
  exact (h3 i t (nP q) e1 (by rw [List.getElem?_map, e2]; rfl)).2
abbrev N_nearL : List Str := ["_law_lists_here", "_law_lot", "_law_found", "_law_who", "_law_order_here", "_law_index"]
abbrev P_nearL : List Str := ["_law_lists_here", "_law_lot"]
theorem sc_nearL : FnScope N_nearL P_nearL (defScope s_nearL) := ⟨rfl, rfl, rfl, by decide +kernel, rfl, by decide +kernel, by decide +kernel⟩
theorem ok_nearL (F : F_nearL K f fd) (T : Txt K mg CS CR CU) (c_votesL : Cal P w K mg base "_law_votes" 1 P_votesL (sp_votesL K)) : FnOk P w K mg base CX0 2 f fd P_nearL (sp_nearL K) := by
  refine FunD.ok F sc_nearL (fun vs H Q E h => ?_) (fun cdv A outer s H vs Q E hr h => ?_)
  · obtain ⟨a, r, L, nn, rfl, _⟩ := h
    rfl
  · obtain ⟨a, r, L, nn, rfl, h1, ok, hr1, lt, few, k⟩ := h
    have nd := sc_nearL.nd
    refine ⟨_, PSs.nox ((pss_cons (ps_set (i := 2) nd rfl (Or.inl rfl) (pe_lst pa_nil))
  (pss_cons (ps_for PassesOwn.never rfl (ki_list (K := K) (pv 1)) (pg_name (i := 3) nd rfl (Or.inl rfl))
    (pss_cons (ps_set (i := 4) nd rfl (Or.inl rfl) (pe_ix (k_ixL (K := K)) (pv 0) (pv 3) (fun _ _ => rfl)))
  (pss_one (ps_for PassesOwn.never rfl (pi_range1 (by rfl) T.range (pa_cons (pe_op op_sub (pe_callB (k_len (K := K)) (by rfl) T.len bt_len (pa_cons (pv 4) pa_nil)) pe_int) pa_nil)) (pg_name (i := 5) nd rfl (Or.inl rfl))
    (pss_one (ps_if (pt_val (pe_cal c_votesL (hr.mono (by decide)) (pa_cons (pv 0) (pa_cons (pe_ix (k_ixL (K := K)) (pv 4) (pe_op op_add (pv 5) pe_int) (fun _ _ => rfl)) (pa_cons (pe_ix (k_ixL (K := K)) (pv 4) (pv 5) (fun _ _ => rfl)) pa_nil)))))
    (pss_one (ps_expr (k_bm (K := K) PySem.F.plainAttrs_list PySem.F.slot_list_append PySem.F.type_list_append mt_append (pv 2) (pa_cons (pe_tup (pa_cons (pv 3) (pa_cons (pv 5) pa_nil))) pa_nil))))
    pss_nil))))))
  (pss_one (ps_ret (pv 2)))))), ?_⟩
    obtain ⟨B, hB, hBw, hBi⟩ := h1.at_
    have len10 : ∀ w, w < 3 → (L w).length ≤ 10 := fun w hw => (ok.kok hw).len
    refine ⟨by show 0 ≤ sizeLine; decide, fun S hS => ?_⟩
    refine ⟨_, rfl, r, rfl, ⟨_, Same.seq (Same.new hS) hr1⟩, for_it (walk_list (K := K) (a := r) (xs := iV (nn.map Int.ofNat))) (fun i σ H1 => ∃ v3 v4 v5, σ = [some (.ref a), some (.ref r), some (.ref S), v3, v4, v5] ∧ PvP H S ((QD.nearL (QD.rd L) L (nn.take i)).map nP) H1)
      ⟨none, none, none, rfl, PvP.zero hS⟩ (fun i σ H1 _ ⟨_, _, _, _, q⟩ => Same.seq q.s hr1) ?_ ?_⟩
    · rintro i x0 σ H1 H2 hi ⟨v3, v4, v5, rfl, q⟩ ⟨rfl, e2⟩
      obtain ⟨n, hn, rfl⟩ := natOf e2
      have hn3 := lt n (List.mem_of_getElem? hn)
      have ln := len10 n hn3
      refine ⟨_, rfl, _, rfl, a, _, _, _, rfl, rfl, Same.seq q.s hB, three_at hn3, ?_⟩
      refine ⟨_, rfl, B n, _, rfl, .inl (Same.seq q.s (hBw n hn3)), _, _, rfl, rfl, _, rfl, (by rw [iV_len]; omega), (by rw [iV_len]; omega), ?_⟩
      refine for_range (lo := 0) (n := (((iV (L n)).length : Int) - 1).toNat) (fun j σ H3 => ∃ v, σ = [some (.ref a), some (.ref r), some (.ref S), some (.int n), some (.ref (B n)), v] ∧ PvP H S ((QD.nearL (QD.rd L) L (nn.take i) ++ QD.rowN (QD.rd L) (L n) n j).map nP) H3) ⟨v5, rfl, ?_⟩ ?_ ?_
      · rw [show QD.nearL (QD.rd L) L (nn.take i) ++ QD.rowN (QD.rd L) (L n) n 0 = QD.nearL (QD.rd L) L (nn.take i) from List.append_nil _]
        exact q
      · rintro j σ H3 hj ⟨v, rfl, q3⟩
        have e0 : (0 + (j : Int)) = j := Int.zero_add _
        rw [e0]
        rw [iV_len] at hj
        have hj1 : j + 1 < (L n).length := by omega
        obtain ⟨y, hy, hy'⟩ : ∃ y, (L n)[j]? = some y ∧ (L n).getD j 0 = y := ⟨_, QD.getD_at (by omega), rfl⟩
        obtain ⟨x, hx, hx'⟩ : ∃ x, (L n)[j + 1]? = some x ∧ (L n).getD (j + 1) 0 = x := ⟨_, QD.getD_at hj1, rfl⟩
        have sM := Same.seq q3.s (hBw n hn3)
        have mx := (ok.mem hn3).mp (List.mem_of_getElem? hx)
        have my := (ok.mem hn3).mp (List.mem_of_getElem? hy)
        refine ⟨_, rfl, _, rfl, _, rfl, _, _, rfl, rfl, B n, _, _, _, rfl, rfl, sM, at_of (j := j + 1) rfl (iV_at hx), _, rfl, _, rfl, B n, _, _, _, rfl, rfl, sM, at_of (j := j) rfl (iV_at hy), a, L, x, y, rfl, h1.mono q3.s, fun w hw => ⟨(ok.mem hw).mpr mx, (ok.mem hw).mpr my⟩, fun H4 s4 => ⟨_, rfl, ?_⟩⟩
        have q4 := q3.same s4
        cases eb : QD.rd L x y with
        | true =>
          refine iteT ?_
          obtain ⟨ts, hts, _, _⟩ := q4.ex
          refine ⟨_, rfl, .inl ⟨rfl, _, SqL.of hts⟩, _, rfl, _, rfl, le2, fun t2 ht2 => ?_⟩
          obtain ⟨acc, g1, g2, g3⟩ := q4.step (x := (n : Int)) (y := (j : Int)) hS (.refl _) ht2 (by
            rw [List.length_map, List.length_append]
            have := QD.rowN_len (QD.rd L) (L n) n j
            have h1 : (QD.nearL (QD.rd L) L (nn.take i)).length ≤ (nn.take i).length * 10 := QD.near_len len10 fun m hm => lt m (List.mem_of_mem_take hm)
            rw [List.length_take] at h1
            omega)
          refine ⟨S, acc, _, rfl, rfl, g1, g2, _, rfl, ?_⟩
          rw [QD.rowN_snoc, hx', hy', eb, if_pos rfl, ← List.append_assoc, List.map_append]
          exact g3
        | false =>
          refine iteF ⟨_, rfl, ?_⟩
          rw [QD.rowN_snoc, hx', hy', eb, if_neg Bool.false_ne_true]
          exact q4
      · rintro σ H3 ⟨v, rfl, q3⟩
        have e1 : (((iV (L n)).length : Int) - 1).toNat = (L n).length - 1 := by rw [iV_len]; omega
        rw [e1, ← QD.near_snoc hn] at q3
        exact ⟨_, _, _, rfl, q3⟩
    · rintro σ H1 ⟨v3, v4, v5, rfl, q⟩
      have e1 : (iV (nn.map Int.ofNat)).length = nn.length := by rw [iV_len, List.length_map]
      rw [e1, List.take_length] at q
      exact ⟨_, rfl, k _ S q.s hS q.tlm⟩
end
end Qd

set_option Elab.async false
set_option linter.all false
set_option maxRecDepth 100000
set_option maxHeartbeats 4000000
/-! The law's helpers, seventh part: homing, apart, state_is, count_apart, handed. -/
namespace QD
theorem apart_take {l : List Int} {p : Int → Int → Bool} {i : Nat} {x : Int} (h : l[i]? = some x) : ((l.take (i + 1)).map fun x => l.countP (p x)).sum = ((l.take i).map fun x => l.countP (p x)).sum + l.countP (p x) := by
  rw [List.take_succ, h]
  show (List.map _ (_ ++ [x])).sum = _
  rw [List.map_append, List.sum_append]
  simp
theorem countP_take {l : List Int} {p : Int → Bool} {j : Nat} {y : Int} (h : l[j]? = some y) : (l.take (j + 1)).countP p = if p y = true then (l.take j).countP p + 1 else (l.take j).countP p := by
  rw [List.take_succ, h]
  show List.countP _ (_ ++ [y]) = _
  rw [List.countP_append, List.countP_cons, List.countP_nil]
  by_cases e : p y = true
  · rw [if_pos e, if_pos e]
  · rw [if_neg e, if_neg e]
    omega
end QD
namespace Qd
open PySem PySem.Spec PyProof.Rows L2
section
variable {P : Program} {w : World} {K : PySem.W.Frag} {mg : Str → Option Value} {base : Heap} {CS CR CU f : Addr} {fd : FuncData}
/-! ### homing -/
structure HmAt (H H1 : Hp) (D S : Addr) (L : QD.LS) (nn : List Nat) (i : Nat) (M : QD.LS) : Prop where
  s : Same H H1
  fl : ∃ B, FLs H H1 D B M ∧ D ≠ S ∧ ∀ w, w < 3 → B w ≠ S
  st : ∃ acc, H1 S = some (.lst acc) ∧ acc.length ≤ i
  part : QD.Part L nn i M
def sp_homingL (K : PySem.W.Frag) : Sp := fun vs H Q _ => ∃ (a r wi : Addr) (L : QD.LS) (nn : List Nat), vs = [.ref a, .ref r, .ref wi] ∧ LLs K H a L ∧ QD.StOk L ∧ SqI K H r (nn.map Int.ofNat) ∧ (∀ n ∈ nn, n < 3) ∧ nn.length ≤ 3 ∧ SqL K H wi [] ∧
  ∀ H' p D S M, Same H H' → H' p = some (.lst [.ref D, .ref S]) → LLs K H' D M → QD.SetTo L nn M → Q (.ref p) H'
abbrev N_homingL : List Str := ["_law_lists_here", "_law_lot", "_law_wish", "_law_now", "_law_steps", "_law_k", "_law_able_here", "_law_at", "_law_order_here"]
abbrev P_homingL : List Str := ["_law_lists_here", "_law_lot", "_law_wish"]
theorem sc_homingL : FnScope N_homingL P_homingL (defScope s_homingL) := ⟨rfl, rfl, rfl, by decide +kernel, rfl, by decide +kernel, by decide +kernel⟩
theorem ok_homingL (F : F_homingL K f fd) (T : Txt K mg CS CR CU) (c_nearL : Cal P w K mg base "_law_near" 2 P_nearL (sp_nearL K)) (c_swappedL : Cal P w K mg base "_law_swapped" 1 P_swappedL (sp_swappedL K)) : FnOk P w K mg base CX0 3 f fd P_homingL (sp_homingL K) := by
  refine FunD.ok F sc_homingL (fun vs H Q E h => ?_) (fun cdv A outer s H vs Q E hr h => ?_)
  · obtain ⟨a, r, wi, L, nn, rfl, _⟩ := h
    rfl
  · obtain ⟨a, r, wi, L, nn, rfl, h1, ok, hr1, lt, few, hwi, k⟩ := h
    have nd := sc_homingL.nd
    refine ⟨_, PSs.nox ((pss_cons (ps_setLc (i := 3) (own := [("_law_order_here", 8)]) (g := gName 8) rfl nd rfl rfl (sw_true rfl rfl rfl (by decide +kernel)) (ki_list (K := K) (pv 0)) (blkOk_by (own := [("_law_order_here", 8)]) (N := N_homingL) (sc := defScope s_homingL) (by decide +kernel)) (fun _ _ _ _ _ => pg_name (i := 8) nd rfl (Or.inl rfl)) (fun _ _ _ _ _ => pts_nil) (fun _ _ _ _ _ => (pe_callTy (k_list (K := K)) (by rfl) T.list bt_list (pa_cons (pv 8) pa_nil))))
  (pss_cons (ps_set (i := 4) nd rfl (Or.inl rfl) (pe_lst pa_nil))
  (pss_cons (ps_for PassesOwn.never rfl (pi_range1 (by rfl) T.range (pa_cons pe_int pa_nil)) (pg_name (i := 5) nd rfl (Or.inl rfl))
    (pss_cons (ps_set (i := 6) nd rfl (Or.inl rfl) (pe_cal c_nearL (hr.mono (by decide)) (pa_cons (pv 3) (pa_cons (pv 1) pa_nil))))
  (pss_cons (ps_if (pt_not (k_truth (K := K) (pv 6)))
    (pss_one ps_break)
    pss_nil)
  (pss_cons (ps_set (i := 7) nd rfl (Or.inl rfl) pe_int)
  (pss_cons (ps_if (pt_cmpR op_lt (pv 5) (pe_callB (k_len (K := K)) (by rfl) T.len bt_len (pa_cons (pv 2) pa_nil)) (nomark _))
    (pss_one (ps_set (i := 7) nd rfl (Or.inl rfl) (pe_op op_modN (pe_callTy call_int1 (by rfl) T.int bt_int (pa_cons (pe_ix (k_ixL (K := K)) (pv 2) (pv 5) (fun _ _ => rfl)) pa_nil)) (pe_callB (k_len (K := K)) (by rfl) T.len bt_len (pa_cons (pv 6) pa_nil)))))
    pss_nil)
  (pss_cons (ps_set (i := 3) nd rfl (Or.inl rfl) (pe_cal c_swappedL (hr.mono (by decide)) (pa_cons (pv 3) (pa_cons (pe_ix (k_ixT (K := K)) (pe_ix (k_ixL (K := K)) (pv 6) (pv 7) (fun _ _ => rfl)) pe_int (fun _ _ => rfl)) (pa_cons (pe_ix (k_ixT (K := K)) (pe_ix (k_ixL (K := K)) (pv 6) (pv 7) (fun _ _ => rfl)) pe_int (fun _ _ => rfl)) pa_nil)))))
  (pss_one (ps_expr (k_bm (K := K) PySem.F.plainAttrs_list PySem.F.slot_list_append PySem.F.type_list_append mt_append (pv 4) (pa_cons (pe_ix (k_ixL (K := K)) (pv 6) (pv 7) (fun _ _ => rfl)) pa_nil))))))))))
  (pss_one (ps_ret (pe_lst (pa_cons (pv 3) (pa_cons (pv 4) pa_nil))))))))), ?_⟩
    obtain ⟨B, hB, hBw, hBi⟩ := h1.at_
    refine ⟨_, rfl, a, rfl, ⟨_, hB⟩, fun D0 hD => ?_⟩
    refine lc_list (K := K) (a := a) (fun i H2 => PvC H D0 (lO L) i H2) (PvC.zero hD) (fun i H2 _ q => Same.seq q.s hB) (fun i x H2 hx q => ?_) fun H2 q => ?_
    · obtain ⟨hi, rfl⟩ := three_of hx
      exact ⟨rfl, _, rfl, B i, _, rfl, .inl (Same.seq q.s (hBw i hi)), fun l hl => q.step hD hl hi⟩
    · obtain ⟨C, h⟩ := q.done hD
      refine ⟨by show 0 ≤ sizeLine; decide, fun S hS => ?_⟩
      have hS0 : H S = none := q.s.free hS
      have sS := Same.new (o := .lst []) hS
      have st0 : HmAt H (upd H2 S (.lst [])) D0 S L nn 0 L := ⟨q.s.trans sS, ⟨C, h.mono sS, ne_of_none h.d hS, fun w hw => ne_of_none (h.at_ w hw) hS⟩, ⟨[], upd_same, Nat.le_refl _⟩, .zero _ _⟩
      refine ⟨67, rfl, by decide, by decide, ?_⟩
      refine for_range (lo := 0) (n := 67) (fun i σ H1 => ∃ D v5 v6 v7 v8 M, σ = [some (.ref a), some (.ref r), some (.ref wi), some (.ref D), some (.ref S), v5, v6, v7, v8] ∧ HmAt H H1 D S L nn i M)
        ⟨D0, none, none, none, none, L, rfl, st0⟩ ?_ ?_
      · rintro i σ H3 hi ⟨D, v5, v6, v7, v8, M, rfl, g⟩
        obtain ⟨C, fl, nDS, nCS⟩ := g.fl
        have stM := g.part.stay ok
        refine ⟨_, rfl, _, rfl, D, r, M, nn, rfl, fl.lls, stM.ok, Same.seq g.s hr1, lt, few, fun H4 p s4 np tl => ?_⟩
        rw [stM.rd] at tl
        obtain ⟨ts, hts, tlen, tat⟩ := tl.ex
        refine ⟨_, rfl, _, .inl ⟨_, SqL.of hts, rfl⟩, ?_⟩
        have g4 : HmAt H H4 D S L nn i M := ⟨g.s.trans s4, ⟨C, fl.mono s4, nDS, nCS⟩, by
          obtain ⟨acc, q1, q2⟩ := g.st
          exact ⟨acc, s4 _ _ q1, q2⟩, g.part⟩
        cases hn : QD.nearL (QD.rd L) M nn with
        | nil =>
          have e0 : ts = [] := by
            rw [hn] at tlen
            exact List.length_eq_zero_iff.mp tlen
          rw [e0]
          refine iteT ?_
          refine ⟨_, rfl, _, rfl, by show 2 ≤ sizeLine; decide, fun p hp => ?_⟩
          have sp := Same.new (o := .lst [.ref D, .ref S]) hp
          exact k _ p D S M (g4.s.trans sp) upd_same ((fl.mono s4).lls.mono sp) (g.part.done hn)
        | cons q0 tl0 =>
          obtain ⟨w, j⟩ := q0
          have hmem : (w, j) ∈ QD.nearL (QD.rd L) M nn := by rw [hn]; exact List.mem_cons_self
          obtain ⟨hwn, hj, hR⟩ := QD.mem_near.mp hmem
          have hw := lt w hwn
          obtain ⟨t0, ts', rfl⟩ : ∃ t0 ts', ts = t0 :: ts' := by
            cases ts with
            | nil => rw [hn] at tlen; cases tlen
            | cons t0 ts' => exact ⟨t0, ts', rfl⟩
          have ht0 := tat 0 t0 (w, j) rfl (by rw [hn]; rfl)
          have g' := g.part.step lt hmem
          refine iteF ?_
          refine ⟨_, rfl, _, rfl, wi, _, rfl, .inl (Same.seq g4.s hwi), _, _, rfl, rfl, _, rfl, iteDF (by show ¬ _ < ((0 : Nat) : Int); omega) ?_⟩
          refine ⟨_, rfl, _, rfl, _, rfl, p, _, _, _, rfl, rfl, SqL.of hts, atI_nat (j := 0) rfl, t0, _, _, _, rfl, rfl, SqT.of ht0, atI_nat (j := 0) rfl, ?_⟩
          refine ⟨_, rfl, _, rfl, p, _, _, _, rfl, rfl, SqL.of hts, atI_nat (j := 0) rfl, t0, _, _, _, rfl, rfl, SqT.of ht0, atI_nat (j := 1) rfl, ?_⟩
          refine ⟨D, M, w, j, rfl, (fl.mono s4).lls, hw, hj, fun H6 D6 B6 s6 fl6 => ?_⟩
          obtain ⟨acc, q1, q2⟩ := g4.st
          have hts6 := s6 _ _ hts
          have nD6 : S ≠ D6 := ne_of_none q1 fl6.nD
          have nB6 : ∀ w, w < 3 → S ≠ B6 w := fun w hw => ne_of_none q1 (fl6.nB w hw)
          refine ⟨_, rfl, .inl ⟨rfl, _, SqL.of (s6 _ _ q1)⟩, _, rfl, _, rfl, p, _, _, _, rfl, rfl, SqL.of hts6, atI_nat (j := 0) rfl, S, acc, _, rfl, rfl, s6 _ _ q1, sz12' (by omega), ?_⟩
          exact ⟨D6, _, _, _, _, QD.swS M (w, j), rfl, Same.put (g4.s.trans s6) hS0, ⟨B6, (FOs.since fl6 g4.s.ob).off nD6 nB6, Ne.symm nD6, fun w hw => Ne.symm (nB6 w hw)⟩, ⟨_, upd_same, by rw [List.length_append]; show _ + 1 ≤ _; omega⟩, g'⟩
      · rintro σ H3 ⟨D, v5, v6, v7, v8, M, rfl, g⟩
        have := g.part.le ok
        omega
/-! ### apart -/
def sp_apartL (K : PySem.W.Frag) : Sp := fun vs H Q _ => ∃ (a o : Addr) (w : Nat) (L M : QD.LS), vs = [.ref a, .ref o, .int w] ∧ LLs K H a L ∧ LLs K H o M ∧ w < 3 ∧ (M w).Perm (L w) ∧ Q (.int (QD.apart (L w) (M w) : Nat)) H
abbrev N_apartL : List Str := ["_law_lists_here", "_law_other", "_law_who", "_law_count_here", "_law_x", "_law_y"]
abbrev P_apartL : List Str := ["_law_lists_here", "_law_other", "_law_who"]
theorem sc_apartL : FnScope N_apartL P_apartL (defScope s_apartL) := ⟨rfl, rfl, rfl, by decide +kernel, rfl, by decide +kernel, by decide +kernel⟩
theorem ok_apartL (F : F_apartL K f fd) (T : Txt K mg CS CR CU) : FnOk P w K mg base CX0 1 f fd P_apartL (sp_apartL K) := by
  refine FunD.ok F sc_apartL (fun vs H Q E h => ?_) (fun cdv A outer s H vs Q E hr h => ?_)
  · obtain ⟨a, o, w, L, M, rfl, _⟩ := h
    rfl
  · obtain ⟨a, o, w, L, M, rfl, h1, h2, hw, pm, k⟩ := h
    have nd := sc_apartL.nd
    refine ⟨_, PSs.nox ((pss_cons (ps_set (i := 3) nd rfl (Or.inl rfl) pe_int)
  (pss_cons (ps_for PassesOwn.never rfl (ki_list (K := K) (pe_ix (k_ixL (K := K)) (pv 0) (pv 2) (fun _ _ => rfl))) (pg_name (i := 4) nd rfl (Or.inl rfl))
    (pss_one (ps_for PassesOwn.never rfl (ki_list (K := K) (pe_ix (k_ixL (K := K)) (pv 0) (pv 2) (fun _ _ => rfl))) (pg_name (i := 5) nd rfl (Or.inl rfl))
    (pss_one (ps_if (PW.pt (pw_and (pt_cmpR op_lt (k_bm (K := K) PySem.F.plainAttrs_list PySem.F.slot_list_index PySem.F.type_list_index (k_index (K := K)) (pe_ix (k_ixL (K := K)) (pv 0) (pv 2) (fun _ _ => rfl)) (pa_cons (pv 4) pa_nil)) (k_bm (K := K) PySem.F.plainAttrs_list PySem.F.slot_list_index PySem.F.type_list_index (k_index (K := K)) (pe_ix (k_ixL (K := K)) (pv 0) (pv 2) (fun _ _ => rfl)) (pa_cons (pv 5) pa_nil)) (nomark _)) (pw_and1 (pt_cmpR op_lt (k_bm (K := K) PySem.F.plainAttrs_list PySem.F.slot_list_index PySem.F.type_list_index (k_index (K := K)) (pe_ix (k_ixL (K := K)) (pv 1) (pv 2) (fun _ _ => rfl)) (pa_cons (pv 5) pa_nil)) (k_bm (K := K) PySem.F.plainAttrs_list PySem.F.slot_list_index PySem.F.type_list_index (k_index (K := K)) (pe_ix (k_ixL (K := K)) (pv 1) (pv 2) (fun _ _ => rfl)) (pa_cons (pv 4) pa_nil)) (nomark _)))))
    (pss_one (ps_set (i := 3) nd rfl (Or.inl rfl) (pe_op op_add (pv 3) pe_int)))
    pss_nil)))))
  (pss_one (ps_ret (pv 3)))))), ?_⟩
    obtain ⟨B, hB, hBw, hBi⟩ := h1.at_
    obtain ⟨C, hC, hCw, hCi⟩ := h2.at_
    have hl := hBw w hw
    have hm := hCw w hw
    obtain ⟨l, el⟩ : ∃ l, l = L w := ⟨_, rfl⟩
    obtain ⟨m, em⟩ : ∃ m, m = M w := ⟨_, rfl⟩
    rw [← el] at hl k pm
    rw [← em] at hm k pm
    obtain ⟨p, hp⟩ : ∃ p : Int → Int → Bool, p = fun x y => QD.bef l x y && QD.bef m y x := ⟨_, rfl⟩
    refine ⟨_, rfl, _, rfl, a, _, _, _, rfl, rfl, hB, three_at hw, B w, rfl, ⟨_, hl⟩, for_it (walk_list (K := K) (a := B w) (xs := iV l)) (fun i σ H1 => ∃ v4 v5, σ = [some (.ref a), some (.ref o), some (.int w), some (.int (((l.take i).map fun x => l.countP (p x)).sum : Nat)), v4, v5] ∧ H1 = H)
      ⟨none, none, rfl, rfl⟩ (fun i σ H1 _ ⟨_, _, _, e⟩ => e ▸ hl) ?_ ?_⟩
    · rintro i x0 σ H1 H2 hi ⟨v4, v5, rfl, rfl⟩ ⟨rfl, e2⟩
      obtain ⟨x, hx, rfl⟩ := iV_of e2
      have mx := List.mem_of_getElem? hx
      refine ⟨_, rfl, _, rfl, a, _, _, _, rfl, rfl, hB, three_at hw, B w, rfl, ⟨_, hl⟩, for_it (walk_list (K := K) (a := B w) (xs := iV l)) (fun j σ H3 => ∃ v5, σ = [some (.ref a), some (.ref o), some (.int w), some (.int (((l.take i).map fun x => l.countP (p x)).sum + (l.take j).countP (p x) : Nat)), some (.int x), v5] ∧ H3 = H2)
        ⟨v5, rfl, rfl⟩ (fun j σ H3 _ ⟨_, _, e⟩ => e ▸ hl) ?_ ?_⟩
      · rintro j y0 σ H3 H4 hj ⟨v, rfl, rfl⟩ ⟨rfl, e3⟩
        obtain ⟨y, hy, rfl⟩ := iV_of e3
        have my := List.mem_of_getElem? hy
        refine ⟨_, rfl, _, rfl, a, _, _, _, rfl, rfl, hB, three_at hw, .inl ⟨rfl, _, hl⟩, _, rfl, _, _, _, _, _, rfl, rfl, hl, rfl, iV_flat _, ix1 mx, ix2 _, ix3, ?_⟩
        refine ⟨_, rfl, _, rfl, a, _, _, _, rfl, rfl, hB, three_at hw, .inl ⟨rfl, _, hl⟩, _, rfl, _, _, _, _, _, rfl, rfl, hl, rfl, iV_flat _, ix1 my, ix2 _, ix3, _, _, rfl, rfl, _, rfl, ?_⟩
        have d1 : decide (((l.idxOf x : Nat) : Int) < (l.idxOf y : Nat)) = QD.bef l x y := by
          unfold QD.bef
          exact decide_eq_decide.mpr (by omega)
        have d2 : decide (((m.idxOf y : Nat) : Int) < (m.idxOf x : Nat)) = QD.bef m y x := by
          unfold QD.bef
          exact decide_eq_decide.mpr (by omega)
        rw [d1]
        cases b1 : QD.bef l x y with
        | false =>
          refine iteF (iteF ⟨some (.int y), ?_, rfl⟩)
          rw [QD.countP_take hy, if_neg (by rw [hp]; simp [b1])]
          rfl
        | true =>
          refine iteT ?_
          refine ⟨_, rfl, _, rfl, o, _, _, _, rfl, rfl, hC, three_at hw, .inl ⟨rfl, _, hm⟩, _, rfl, _, _, _, _, _, rfl, rfl, hm, rfl, iV_flat _, ix1 (pm.mem_iff.mpr my), ix2 _, ix3, ?_⟩
          refine ⟨_, rfl, _, rfl, o, _, _, _, rfl, rfl, hC, three_at hw, .inl ⟨rfl, _, hm⟩, _, rfl, _, _, _, _, _, rfl, rfl, hm, rfl, iV_flat _, ix1 (pm.mem_iff.mpr mx), ix2 _, ix3, _, _, rfl, rfl, _, rfl, ?_⟩
          rw [d2]
          cases b2 : QD.bef m y x with
          | false =>
            refine iteF ⟨some (.int y), ?_, rfl⟩
            rw [QD.countP_take hy, if_neg (by rw [hp]; simp [b2])]
            rfl
          | true =>
            refine iteT ⟨_, rfl, _, _, rfl, rfl, some (.int y), ?_, rfl⟩
            rw [QD.countP_take hy, if_pos (by rw [hp]; simp [b1, b2])]
            rfl
      · rintro σ H3 ⟨v, rfl, rfl⟩
        refine ⟨some (.int x), v, ?_, rfl⟩
        rw [iV_len, List.take_length, QD.apart_take hx]
    · rintro σ H1 ⟨v4, v5, rfl, rfl⟩
      refine ⟨_, rfl, ?_⟩
      rw [iV_len, List.take_length]
      have e : ((l.map fun x => l.countP (p x)).sum) = QD.apart l m := by rw [hp]; rfl
      rw [e]
      exact k
/-! ### state_is -/
theorem like_ints {H : Hp} {a b : Addr} {ns : List Int} {n : Nat} (ha : SqI K H a ns) (hb : SqI K H b ns) (hl : ns.length ≤ 4096) : LikeV K H (n + 2) (.ref a) (.ref b) :=
  .inr (.inr (.inl ⟨a, b, _, _, rfl, rfl, ha, hb, rfl, by rw [iV_len]; exact hl, fun i u v e1 e2 => by
    rw [e1] at e2
    obtain rfl := Option.some.inj e2
    obtain ⟨z, _, rfl⟩ := iV_of e1
    exact .inl ⟨z, rfl, rfl⟩⟩))
theorem like_lls {H : Hp} {a b : Addr} {L M : QD.LS} (ha : LLs K H a L) (hb : LLs K H b M) (e : ∀ w, w < 3 → L w = M w) (hl : ∀ w, w < 3 → (L w).length ≤ 4096) : LikeV K H 3 (.ref a) (.ref b) := by
  obtain ⟨A, h1, h2⟩ := ha.ex
  obtain ⟨B, g1, g2⟩ := hb.ex
  refine .inr (.inr (.inl ⟨a, b, _, _, rfl, rfl, h1, g1, rfl, by show 3 ≤ 4096; decide, fun i u v e1 e2 => ?_⟩))
  obtain ⟨hi, rfl⟩ := three_of e1
  obtain ⟨_, rfl⟩ := three_of e2
  have z := g2 i hi
  rw [← e i hi] at z
  exact like_ints (n := 0) (h2 i hi) z (hl i hi)
theorem like_tls {H : Hp} {a b : Addr} {ss : List (Nat × Nat)} (ha : TLs K H a ss) (hb : TLs K H b ss) (hl : ss.length ≤ 4096) : LikeV K H 3 (.ref a) (.ref b) := by
  obtain ⟨ts, h1, h2, h3⟩ := ha.ex
  obtain ⟨us, g1, g2, g3⟩ := hb.ex
  refine .inr (.inr (.inl ⟨a, b, _, _, rfl, rfl, h1, g1, by rw [List.length_map, List.length_map, h2, g2], by rw [List.length_map, g2]; exact hl, fun i u v e1 e2 => ?_⟩))
  rw [List.getElem?_map] at e1 e2
  cases q1 : ts[i]? with
  | none => rw [q1] at e1; cases e1
  | some t =>
    cases q2 : us[i]? with
    | none => rw [q2] at e2; cases e2
    | some t' =>
      rw [q1] at e1
      rw [q2] at e2
      obtain rfl := Option.some.inj e1
      obtain rfl := Option.some.inj e2
      have hi : i < ss.length := by
        rw [← h2]
        exact (List.getElem?_eq_some_iff.mp q1).1
      have hs := List.getElem?_eq_getElem hi
      refine .inr (.inr (.inr ⟨t, t', _, _, rfl, rfl, SqT.of (h3 i t _ q1 hs), SqT.of (g3 i t' _ q2 hs), rfl, by show 2 ≤ 4096; decide, fun j x y f1 f2 => ?_⟩))
      rw [f1] at f2
      obtain rfl := Option.some.inj f2
      match j, f1 with
      | 0, f1 => exact .inl ⟨_, (Option.some.inj f1).symm, (Option.some.inj f1).symm⟩
      | 1, f1 => exact .inl ⟨_, (Option.some.inj f1).symm, (Option.some.inj f1).symm⟩
def sp_state_isL (K : PySem.W.Frag) (CS : Addr) : Sp := fun vs H Q _ => ∃ (a d : Addr) (L M : QD.LS), vs = [.ref a, .ref d] ∧ StAt K H CS a L ∧ LLs K H d M ∧ (∀ w, w < 3 → L w = M w) ∧ ∀ H', Same H H' → Q (.bl true) H'
abbrev N_state_isL : List Str := ["_law_told", "_law_due"]
abbrev P_state_isL : List Str := ["_law_told", "_law_due"]
theorem sc_state_isL : FnScope N_state_isL P_state_isL (defScope s_state_isL) := ⟨rfl, rfl, rfl, by decide +kernel, rfl, by decide +kernel, by decide +kernel⟩
theorem ok_state_isL (F : F_state_isL K f fd) (T : Txt K mg CS CR CU) (m_State_lists : Met P w K mg base CS "lists" 1 P_State_lists (sp_lists K CS)) (c_likeL : Cal P w K mg base "_law_like" 3 P_likeL (sp_likeL K 3)) : FnOk P w K mg base CX0 4 f fd P_state_isL (sp_state_isL K CS) := by
  refine FunD.ok F sc_state_isL (fun vs H Q E h => ?_) (fun cdv A outer s H vs Q E hr h => ?_)
  · obtain ⟨a, d, L, M, rfl, _⟩ := h
    rfl
  · obtain ⟨a, d, L, M, rfl, h1, h2, he, k⟩ := h
    have nd := sc_state_isL.nd
    refine ⟨_, PSs.nox ((pss_one (ps_ret (pe_and (pe_callB (C8.call_isC T.insS) (by rfl) T.isinstance bt_isinstance (pa_cons (pv 0) (pa_cons (pe_glob (v := .ref CS) rfl T.gState rfl) pa_nil))) (pe_one (pe_cal c_likeL (hr.mono (by decide)) (pa_cons (pe_met0 m_State_lists T.cState (hr.mono (by decide)) (pv 0)) (pa_cons (pv 1) pa_nil)))))))), ?_⟩
    obtain ⟨dx, l0, p0, ha, _⟩ := h1.ex
    refine ⟨_, rfl, a, dx, _, rfl, ha, _, rfl, iteT ?_⟩
    refine ⟨_, rfl, a, dx, _, rfl, ha, sf_no (by decide +kernel) (by decide +kernel), a, L, rfl, h1, fun H1 D B s1 fl => ?_⟩
    exact ⟨_, rfl, _, _, rfl, like_lls fl.lls (h2.mono s1) he (fun w hw => Nat.le_trans (h1.ok.kok hw).len (by decide)), k _ s1⟩
/-! ### count_apart -/
def sp_count_apartL (K : PySem.W.Frag) : Sp := fun vs H Q _ => ∃ (a o : Addr) (L M : QD.LS), vs = [.ref a, .ref o] ∧ LLs K H a L ∧ LLs K H o M ∧ (∀ w, w < 3 → (M w).Perm (L w)) ∧ ∀ H', Same H H' → Q (.int ((QD.apart (L 0) (M 0) + QD.apart (L 1) (M 1) + QD.apart (L 2) (M 2) : Nat) : Int)) H'
abbrev N_count_apartL : List Str := ["_law_lists_here", "_law_other", "_law_who"]
abbrev P_count_apartL : List Str := ["_law_lists_here", "_law_other"]
theorem sc_count_apartL : FnScope N_count_apartL P_count_apartL (defScope s_count_apartL) := ⟨rfl, rfl, rfl, by decide +kernel, rfl, by decide +kernel, by decide +kernel⟩
theorem ok_count_apartL (F : F_count_apartL K f fd) (T : Txt K mg CS CR CU) (c_apartL : Cal P w K mg base "_law_apart" 1 P_apartL (sp_apartL K)) : FnOk P w K mg base CX0 2 f fd P_count_apartL (sp_count_apartL K) := by
  refine FunD.ok F sc_count_apartL (fun vs H Q E h => ?_) (fun cdv A outer s H vs Q E hr h => ?_)
  · obtain ⟨a, o, L, M, rfl, _⟩ := h
    rfl
  · obtain ⟨a, o, L, M, rfl, h1, h2, pm, k⟩ := h
    have nd := sc_count_apartL.nd
    refine ⟨_, PSs.nox ((pss_one (ps_ret (pe_callB (k_sum (K := K) rfl) (by rfl) T.sum bt_sum (pa_cons (pe_lc (own := [("_law_who", 2)]) (g := gName 2) rfl nd (pi_range1 (by rfl) T.range (pa_cons pe_int pa_nil)) (blkOk_by (own := [("_law_who", 2)]) (N := N_count_apartL) (sc := defScope s_count_apartL) (by decide +kernel)) (fun _ _ _ _ _ => pg_name (i := 2) nd rfl (Or.inl rfl)) (fun _ _ _ _ _ => pts_nil) (fun _ _ _ _ _ => (pe_cal c_apartL (hr.mono (by decide)) (pa_cons (pv 0) (pa_cons (pv 1) (pa_cons (pv 2) pa_nil)))))) pa_nil))))), ?_⟩
    refine ⟨3, rfl, by decide, by decide, fun D hD => ?_⟩
    refine lc_range (lo := 0) (n := 3) (fun i H2 => Same H H2 ∧ H2 D = some (.lst (iV ((List.range i).map fun j => ((QD.apart (L j) (M j) : Nat) : Int))))) ⟨Same.new hD, upd_same⟩ (fun i H2 hi ⟨s2, hD2⟩ => ?_) fun H2 ⟨s2, hD2⟩ => ?_
    · refine ⟨rfl, _, rfl, _, rfl, _, rfl, a, o, i, L, M, ?_, h1.mono s2, h2.mono s2, hi, pm i hi, _, hD2, sz12' ?_, Same.put s2 hD, ?_⟩
      · have e0 : (0 + (i : Int)) = i := Int.zero_add _
        rw [e0]
        rfl
      · rw [iV_len, List.length_map, List.length_range]
        omega
      · rw [upd_same, List.range_succ, List.map_append]
        show some (HO.lst (_ ++ [_])) = some (HO.lst (List.map V.int (_ ++ [_])))
        rw [List.map_append]
        rfl
    · refine ⟨D, _, rfl, SqL.of hD2, ?_⟩
      have e : ((List.range 3).map fun j => ((QD.apart (L j) (M j) : Nat) : Int)).sum = ((QD.apart (L 0) (M 0) + QD.apart (L 1) (M 1) + QD.apart (L 2) (M 2) : Nat) : Int) := by
        show [((QD.apart (L 0) (M 0) : Nat) : Int), ((QD.apart (L 1) (M 1) : Nat) : Int), ((QD.apart (L 2) (M 2) : Nat) : Int)].sum = _
        simp
        omega
      rw [e]
      exact k _ s2
/-! ### handed -/
def sp_handedL (K : PySem.W.Frag) : Sp := fun vs H Q _ => ∃ (b c a : Addr) (xs : List Int), vs = [.ref b, .ref a] ∧ Box K H b c ∧ SqI K H a xs ∧ ∀ H' p, Mv K b c H H' → (SqI K H' p xs ∨ SqT K H' p (iV xs)) → Q (.ref p) H'
abbrev N_handedL : List Str := ["_law_box_here", "_law_row"]
abbrev P_handedL : List Str := ["_law_box_here", "_law_row"]
theorem sc_handedL : FnScope N_handedL P_handedL (defScope s_handedL) := ⟨rfl, rfl, rfl, by decide +kernel, rfl, by decide +kernel, by decide +kernel⟩
theorem ok_handedL (F : F_handedL K f fd) (T : Txt K mg CS CR CU) (c_takeL : Cal P w K mg base "_law_take" 1 P_takeL (sp_takeL K)) : FnOk P w K mg base CX0 2 f fd P_handedL (sp_handedL K) := by
  refine FunD.ok F sc_handedL (fun vs H Q E h => ?_) (fun cdv A outer s H vs Q E hr h => ?_)
  · obtain ⟨b, c, a, xs, rfl, _⟩ := h
    rfl
  · obtain ⟨b, c, a, xs, rfl, hbx, ha, k⟩ := h
    have nd := sc_handedL.nd
    refine ⟨_, PSs.nox ((pss_cons (ps_if (pt_cmpR op_eq (pe_cal c_takeL (hr.mono (by decide)) (pa_cons (pv 0) (pa_cons pe_int pa_nil))) pe_int (nomark _))
    (pss_one (ps_ret (pe_callTy (k_tuple (K := K)) (by rfl) T.tuple bt_tuple (pa_cons (pv 1) pa_nil))))
    pss_nil)
  (pss_one (ps_ret (pe_callTy (k_list (K := K)) (by rfl) T.list bt_list (pa_cons (pv 1) pa_nil)))))), ?_⟩
    refine ⟨_, rfl, b, c, 2, rfl, hbx, by decide, by decide, fun H1 v mv hv => ⟨rfl, _, rfl, ?_⟩⟩
    have ha1 := mv.ob.sq ha (nb_ints _)
    by_cases e : V.int (v : Int) = V.int 1
    · refine iteDT e ?_
      exact ⟨_, rfl, a, _, rfl, .inl ⟨ha1, fun l hl => k _ l (mv.same (Same.new hl)) (.inr (SqT.of upd_same))⟩⟩
    · refine iteDF e ?_
      exact ⟨_, rfl, a, _, rfl, .inl ha1, fun l hl => k _ l (mv.same (Same.new hl)) (.inl (SqL.of upd_same))⟩
end
end Qd

set_option Elab.async false
set_option linter.all false
set_option maxRecDepth 100000
set_option maxHeartbeats 4000000
/-! The law's helpers, eighth part: cut. -/
namespace QD
theorem SetTo.all {L N M Z : LS} (h : StOk L) (st : Stay L N) (z : SetTo L [0, 1, 2] Z) (m : SetTo N [0, 1, 2] M) : ∀ w, w < 3 → M w = Z w := fun w hw => by
  rw [SetTo.one h st z m hw, if_pos]
  match w, hw with
  | 0, _ => simp
  | 1, _ => simp
  | 2, _ => simp
theorem Stay.perm {L M : LS} (h : StOk L) (s : Stay L M) {w : Nat} (hw : w < 3) : (M w).Perm (L w) := (s.ok.perm hw).trans (s.k0.trans (h.perm hw).symm)
theorem apart_congr {A B C D : LS} (e1 : ∀ w, w < 3 → A w = C w) (e2 : ∀ w, w < 3 → B w = D w) : apart (A 0) (B 0) + apart (A 1) (B 1) + apart (A 2) (B 2) = apart (C 0) (D 0) + apart (C 1) (D 1) + apart (C 2) (D 2) := by
  rw [e1 0 (by decide), e1 1 (by decide), e1 2 (by decide), e2 0 (by decide), e2 1 (by decide), e2 2 (by decide)]
end QD
namespace Qd
open PySem PySem.Spec PyProof.Rows L2
theorem LLs.congr {K : PySem.W.Frag} {H : Hp} {a : Addr} {L M : QD.LS} (h : LLs K H a L) (e : ∀ w, w < 3 → L w = M w) : LLs K H a M := by
  obtain ⟨A, h1, h2⟩ := h.ex
  exact ⟨A, h1, fun w hw => e w hw ▸ h2 w hw⟩
abbrev t012 : List Nat := [0, 1, 2]
section
variable {P : Program} {w : World} {K : PySem.W.Frag} {mg : Str → Option Value} {base : Heap} {CS CR CU f rS rL : Addr} {fd : FuncData}
def sp_cutL (K : PySem.W.Frag) (CS : Addr) : Sp := fun vs H Q _ => ∃ (a sl nw hm : Addr) (L Z : QD.LS) (ss : List (Nat × Nat)), vs = [.ref a, .ref sl, .ref nw, .ref hm] ∧ StAt K H CS a L ∧ TLs K H sl ss ∧ QD.Path L ss ∧ ss.length ≤ 1000 ∧ LLs K H nw (QD.runS L ss) ∧ LLs K H hm Z ∧ QD.SetTo L [0, 1, 2] Z ∧
  ∀ H', Same H H' → Q (.bl true) H'
abbrev N_cutL : List Str := ["_law_state_here", "_law_steps", "_law_now", "_law_home", "_law_run", "_law_end"]
abbrev P_cutL : List Str := ["_law_state_here", "_law_steps", "_law_now", "_law_home"]
theorem sc_cutL : FnScope N_cutL P_cutL (defScope s_cutL) := ⟨rfl, rfl, rfl, by decide +kernel, rfl, by decide +kernel, by decide +kernel⟩
theorem ok_cutL (F : F_cutL K f fd) (T : Txt K mg CS CR CU) (hrS : ∀ H, SqT K H rS (iV (t012.map Int.ofNat))) (hrL : ∀ H, SqT K H rL (iV (t012.map Int.ofNat))) (c_Run : Mak P w K mg base "Run" CU 1 P_Run_init (sp_Run_init K CU)) (c_play : Cal P w K mg base "play" 8 P_play (sp_play K CS CU))
    (c_state_isL : Cal P w K mg base "_law_state_is" 4 P_state_isL (sp_state_isL K CS)) (c_settle_d : CalD P w K mg base "settle" 6 P_settle [.ref rS] (sp_settle K CS)) (c_settle_length_d : CalD P w K mg base "settle_length" 7 P_settle_length [.ref rL] (sp_settle_length K CS))
    (c_likeL : Cal P w K mg base "_law_like" 3 P_likeL (sp_likeL K 3)) (c_count_apartL : Cal P w K mg base "_law_count_apart" 2 P_count_apartL (sp_count_apartL K)) (m_Run_steps : Met P w K mg base CU "steps" 1 P_Run_steps (sp_Run_steps K CU)) :
    FnOk P w K mg base CX0 9 f fd P_cutL (sp_cutL K CS) := by
  refine FunD.ok F sc_cutL (fun vs H Q E h => ?_) (fun cdv A outer s H vs Q E hr h => ?_)
  · obtain ⟨a, sl, nw, hm, L, Z, ss, rfl, _⟩ := h
    rfl
  · obtain ⟨a, sl, nw, hm, L, Z, ss, rfl, h1, tl, path, len, hnw, hhm, hz, k⟩ := h
    have nd := sc_cutL.nd
    refine ⟨_, PSs.nox ((pss_cons (ps_set (i := 4) nd rfl (Or.inl rfl) (pe_mak c_Run (hr.mono (by decide)) (pa_cons (pe_callTy (k_list (K := K)) (by rfl) T.list bt_list (pa_cons (pv 1) pa_nil)) pa_nil)))
  (pss_cons (ps_set (i := 5) nd rfl (Or.inl rfl) (pe_cal c_play (hr.mono (by decide)) (pa_cons (pv 0) (pa_cons (pv 4) pa_nil))))
  (pss_cons (ps_if (PW.pt (pw_or (pt_not (pt_val (pe_cal c_state_isL (hr.mono (by decide)) (pa_cons (pv 5) (pa_cons (pv 2) pa_nil))))) (pw_or1 (pt_not (pt_val (pe_cal c_state_isL (hr.mono (by decide)) (pa_cons (pe_calD c_settle_d (hr.mono (by decide)) (pa_cons (pv 5) pa_nil)) (pa_cons (pv 3) pa_nil))))))))
    (pss_one (ps_ret pe_bl))
    pss_nil)
  (pss_cons (ps_if (pt_not (pt_val (pe_cal c_likeL (hr.mono (by decide)) (pa_cons (pe_calD c_settle_length_d (hr.mono (by decide)) (pa_cons (pv 5) pa_nil)) (pa_cons (pe_cal c_count_apartL (hr.mono (by decide)) (pa_cons (pv 2) (pa_cons (pv 3) pa_nil))) pa_nil)))))
    (pss_one (ps_ret pe_bl))
    pss_nil)
  (pss_one (ps_ret (pe_and (pe_cal c_state_isL (hr.mono (by decide)) (pa_cons (pv 5) (pa_cons (pv 2) pa_nil))) (pe_one (pe_cal c_likeL (hr.mono (by decide)) (pa_cons (pe_met0 m_Run_steps T.cRun (hr.mono (by decide)) (pv 4)) (pa_cons (pv 1) pa_nil)))))))))))), ?_⟩
    obtain ⟨ts, hts, tlen, tat⟩ := tl.ex
    refine ⟨_, rfl, sl, _, rfl, .inl hts, fun q hq => ?_⟩
    have s1 := Same.new (o := .lst (ts.map V.ref)) hq
    have q1 : upd H q (.lst (ts.map V.ref)) q = some (.lst (ts.map V.ref)) := upd_same
    generalize upd H q (.lst (ts.map V.ref)) = H1 at *
    refine fun x dy nx ny nxy => ?_
    have s2 : Same H1 (upd (upd H1 dy (.own x)) x (.ins CU dy [])) := fun c u q => by
      rw [upd_ne (ne_of_none q nx), upd_ne (ne_of_none q ny)]
      exact q
    refine ⟨x, dy, q, ss, rfl, upd_same, ⟨ts, SqL.of (s2 _ _ q1), tlen, fun i t q e1 e2 => s2 _ _ (s1 _ _ (tat i t q e1 e2))⟩, fun H2 ru kp => ⟨rfl, ?_⟩⟩
    have s3 : Same H1 H2 := fun c u q => kp c u (s2 _ _ q) (ne_of_none q nx)
    have sA := s1.trans s3
    refine ⟨_, rfl, _, rfl, a, x, L, ss, rfl, h1.mono sA, ru, path, fun H3 e s4 se => ?_⟩
    have sB := sA.trans s4
    have st := path.stay h1.ok
    refine ⟨_, rfl, _, rfl, e, nw, QD.runS L ss, QD.runS L ss, rfl, se, hnw.mono sB, fun _ _ => rfl, fun H4 s5 => ⟨_, rfl, iteF ?_⟩⟩
    have sC := sB.trans s5
    refine ⟨_, rfl, e, rS, QD.runS L ss, t012, rfl, se.mono s5, .inr (hrS _), by decide, fun H5 g M s6 sg sm => ?_⟩
    have sD := sC.trans s6
    have em : ∀ w, w < 3 → M w = Z w := QD.SetTo.all h1.ok st hz sm
    refine ⟨_, rfl, g, hm, M, Z, rfl, sg, hhm.mono sD, em, fun H6 s7 => ⟨_, rfl, iteF ?_⟩⟩
    have sE := sD.trans s7
    refine ⟨_, rfl, e, rL, QD.runS L ss, t012, rfl, se.mono ((s5.trans s6).trans s7), .inr (hrL _), by decide, fun H7 M2 s8 sm2 => ?_⟩
    have em2 : ∀ w, w < 3 → M2 w = Z w := QD.SetTo.all h1.ok st hz sm2
    have sF := sE.trans s8
    have stZ := hz.stay h1.ok
    refine ⟨_, rfl, _, rfl, nw, hm, QD.runS L ss, Z, rfl, hnw.mono sF, hhm.mono sF, fun w hw => (stZ.perm h1.ok hw).trans (st.perm h1.ok hw).symm, fun H8 s9 => ?_⟩
    have sG := sF.trans s9
    refine ⟨_, _, rfl, .inl ⟨_, rfl, by rw [QD.apart_congr (fun _ _ => rfl) em2]⟩, _, rfl, iteF ?_⟩
    have s5G := (((s5.trans s6).trans s7).trans s8).trans s9
    refine ⟨_, rfl, _, rfl, e, nw, QD.runS L ss, QD.runS L ss, rfl, se.mono s5G, hnw.mono sG, fun _ _ => rfl, fun H9 sH => ⟨_, rfl, iteT ?_⟩⟩
    have ru9 := ru.mono ((s4.trans s5G).trans sH)
    obtain ⟨dx, l, hx, _⟩ := ru9.ex
    refine ⟨_, rfl, x, dx, _, rfl, hx, uf_no (by decide +kernel), x, ss, rfl, ru9, fun HA p sI tlp => ?_⟩
    exact ⟨_, rfl, _, _, rfl, like_tls tlp (tl.mono ((sG.trans sH).trans sI)) (by omega), k _ ((sG.trans sH).trans sI)⟩
end
end Qd

set_option Elab.async false
set_option linter.all false
set_option maxRecDepth 100000
set_option maxHeartbeats 4000000
/-! The law's helpers, ninth part: parts. -/
namespace QD
/-- partly home -/
def dueL (N Z : LS) (nn : List Nat) : LS := fun w => if w ∈ nn then Z w else N w
theorem dueL_put {N Z : LS} {nn : List Nat} {i w : Nat} (h : nn[i]? = some w) : setL (dueL N Z (nn.take i)) w (Z w) = dueL N Z (nn.take (i + 1)) := by
  have e : nn.take (i + 1) = nn.take i ++ [w] := by rw [List.take_succ, h]; rfl
  funext j
  unfold dueL
  rw [e]
  by_cases ej : j = w
  · subst ej
    rw [setL_same, if_pos (List.mem_append.mpr (.inr (List.mem_singleton.mpr rfl)))]
  · rw [setL_ne _ _ ej]
    by_cases m : j ∈ nn.take i
    · rw [if_pos m, if_pos (List.mem_append.mpr (.inl m))]
    · rw [if_neg m, if_neg]
      intro z
      rcases List.mem_append.mp z with z | z
      · exact m z
      · exact ej (List.mem_singleton.mp z)
end QD
namespace Qd
open PySem PySem.Spec PyProof.Rows L2
def tD (q : Nat × Nat) : PyData := .tuple [.int q.1, .int q.2]
theorem lay_tups : ∀ ss : List (Nat × Nat), PyData.canLayAll0 (ss.map tD) = true
  | [] => by simp [PyData.canLayAll0]
  | n :: t => by simp [PyData.canLayAll0, PyData.canLay0, tD, lay_tups t]
theorem depth_tups : ∀ ss : List (Nat × Nat), PyData.depthAll (ss.map tD) ≤ 2
  | [] => by simp [PyData.depthAll]
  | n :: t => by
    have ih := depth_tups t
    simp [PyData.depthAll, PyData.depth, tD]
    omega
theorem shaped_tups (ss : List (Nat × Nat)) : SeqAt.shaped (.list (ss.map tD)) = true := by
  unfold SeqAt.shaped
  have h := depth_tups ss
  rw [PyData.canLay0, lay_tups, PyData.depth, Bool.true_and]
  exact decide_eq_true (by omega)
theorem dp_tlsA {K : PySem.W.Frag} {H : Hp} : ∀ {ts : List Addr} {ss : List (Nat × Nat)}, ts.length = ss.length → (∀ (i : Nat) (t : Addr) (q : Nat × Nat), ts[i]? = some t → ss[i]? = some q → H t = some (.tup [.int (q.1 : Nat), .int (q.2 : Nat)])) → DpAll K H (ts.map V.ref) (ss.map tD)
  | [], [], _, _ => .nil
  | t :: ts, q :: ss, hl, h => .cons (.tup (SqT.of (h 0 t q rfl rfl)) (.cons (.int _) (.cons (.int _) .nil))) (dp_tlsA (Nat.succ.inj hl) fun i t q e1 e2 => h (i + 1) t q e1 e2)
theorem dp_tls {K : PySem.W.Frag} {H : Hp} {a : Addr} {ss : List (Nat × Nat)} (h : TLs K H a ss) : Dp K H (.ref a) (.list (ss.map tD)) := by
  obtain ⟨ts, h1, h2, h3⟩ := h.ex
  exact .lst h1 (dp_tlsA h2 h3)
theorem eqv_nil (ss : List (Nat × Nat)) : PyData.eqv (.list (ss.map tD)) (.list []) = decide (ss = []) := by
  cases ss with
  | nil => rfl
  | cons a t => rfl
section
variable {K : PySem.W.Frag} {H H' : Hp} {Du l : Addr} {A : Nat → Addr} {M : QD.LS} {w : Nat} {z : List Int}
theorem sq_off {a : Addr} {ns : List Int} {o : HO} {p : Addr} {xs : List V} (h : SqI K H a ns) (hd : H Du = some (.lst (.ref p :: xs))) : SqI K (upd H Du o) a ns := by
  rcases h with (h | ⟨ob, h⟩) | h
  · have n : a ≠ Du := fun e => by
      rw [e, hd] at h
      have e2 := HO.lst.inj (Option.some.inj h)
      cases ns with
      | nil => cases e2
      | cons x l =>
        have := (List.cons.inj e2).1
        cases this
    exact .inl (.inl (by rw [upd_ne n]; exact h))
  · have n : a ≠ Du := fun e => by
      rw [e, hd] at h
      cases h
    exact .inl (.inr ⟨ob, by rw [upd_ne n]; exact h⟩)
  · exact .inr h
theorem du_put (hd : H Du = some (.lst [.ref (A 0), .ref (A 1), .ref (A 2)])) (ha : ∀ w, w < 3 → SqI K H (A w) (M w)) (hl : H l = none) (hw : w < 3) :
    ∃ A' : Nat → Addr, upd (upd H l (.lst (iV z))) Du (.lst (([.ref (A 0), .ref (A 1), .ref (A 2)] : List V).set w (.ref l))) Du = some (.lst [.ref (A' 0), .ref (A' 1), .ref (A' 2)]) ∧
      ∀ j, j < 3 → SqI K (upd (upd H l (.lst (iV z))) Du (.lst (([.ref (A 0), .ref (A 1), .ref (A 2)] : List V).set w (.ref l)))) (A' j) (QD.setL M w z j) := by
  have s1 := Same.new (o := .lst (iV z)) hl
  have hd1 := s1 _ _ hd
  refine ⟨fun j => if j = w then l else A j, ?_, fun j hj => ?_⟩
  · rw [upd_same]
    match w, hw with
    | 0, _ => rfl
    | 1, _ => rfl
    | 2, _ => rfl
  · dsimp only
    by_cases e : j = w
    · subst e
      rw [if_pos rfl, QD.setL_same]
      exact SqL.of (by rw [upd_ne (Ne.symm (ne_of_none hd hl)), upd_same])
    · rw [if_neg e, QD.setL_ne _ _ e]
      exact sq_off (Same.seq s1 (ha j hj)) hd1
end
/-- what the law's parts keep in hand -/
structure EnvP (K : PySem.W.Frag) (b c CS nw hm a D Du : Addr) (N Z M : QD.LS) (xs : List Int) (H : Hp) : Prop where
  bx : Box K H b c
  nw : LLs K H nw N
  hm : LLs K H hm Z
  sa : StAt K H CS a N
  lot : SqI K H D xs
  due : LLs K H Du M
section
variable {P : Program} {w : World} {K : PySem.W.Frag} {mg : Str → Option Value} {base : Heap} {CS CR CU f rS rL : Addr} {fd : FuncData}
theorem EnvP.mv {b c nw hm a D Du : Addr} {N Z M : QD.LS} {xs : List Int} {H H' : Hp} (e : EnvP K b c CS nw hm a D Du N Z M xs H) (m : Mv K b c H H') : EnvP K b c CS nw hm a D Du N Z M xs H' :=
  ⟨m.bx, m.ob.lls e.nw, m.ob.lls e.hm, m.ob.st e.sa, m.ob.sq e.lot (nb_ints _), m.ob.lls e.due⟩
theorem EnvP.same {b c nw hm a D Du : Addr} {N Z M : QD.LS} {xs : List Int} {H H' : Hp} (e : EnvP K b c CS nw hm a D Du N Z M xs H) (s : Same H H') : EnvP K b c CS nw hm a D Du N Z M xs H' :=
  e.mv ((Mv.refl e.bx).same s)
def sp_partsL (K : PySem.W.Frag) : Sp := fun vs H Q _ => ∃ (b c nw hm : Addr) (L N Z : QD.LS), vs = [.ref b, .ref nw, .ref hm] ∧ Box K H b c ∧ LLs K H nw N ∧ LLs K H hm Z ∧ QD.StOk L ∧ QD.Stay L N ∧ QD.SetTo L [0, 1, 2] Z ∧ ∀ H', Mv K b c H H' → Q (.bl true) H'
abbrev N_partsL : List Str := ["_law_box_here", "_law_now", "_law_home", "_law_state_here", "_law_lot", "_law_due", "_law_who", "_law_handed_here", "_law_part", "_law_near_here", "_law_rest", "_law_k", "_law_order_here"]
abbrev P_partsL : List Str := ["_law_box_here", "_law_now", "_law_home"]
theorem sc_partsL : FnScope N_partsL P_partsL (defScope s_partsL) := ⟨rfl, rfl, rfl, by decide +kernel, rfl, by decide +kernel, by decide +kernel⟩
theorem ok_partsL (F : F_partsL K f fd) (T : Txt K mg CS CR CU) (hrS : ∀ H, SqT K H rS (iV (t012.map Int.ofNat))) (hrL : ∀ H, SqT K H rL (iV (t012.map Int.ofNat))) (c_takeL : Cal P w K mg base "_law_take" 1 P_takeL (sp_takeL K)) (c_stateL : Cal P w K mg base "_law_state" 5 P_stateL (sp_stateL K CS))
    (c_handedL : Cal P w K mg base "_law_handed" 2 P_handedL (sp_handedL K)) (c_settle_k : CalK P w K mg base "settle" 6 1 ["replicas"] P_settle (fun vs zs => vs ++ zs) (sp_settle K CS)) (c_settle_length_k : CalK P w K mg base "settle_length" 7 1 ["replicas"] P_settle_length (fun vs zs => vs ++ zs) (sp_settle_length K CS))
    (c_settle_d : CalD P w K mg base "settle" 6 P_settle [.ref rS] (sp_settle K CS)) (c_settle_length_d : CalD P w K mg base "settle_length" 7 P_settle_length [.ref rL] (sp_settle_length K CS)) (c_state_isL : Cal P w K mg base "_law_state_is" 4 P_state_isL (sp_state_isL K CS))
    (c_likeL : Cal P w K mg base "_law_like" 3 P_likeL (sp_likeL K 3)) (c_count_apartL : Cal P w K mg base "_law_count_apart" 2 P_count_apartL (sp_count_apartL K)) (c_nearL : Cal P w K mg base "_law_near" 2 P_nearL (sp_nearL K)) (c_homeward : Cal P w K mg base "homeward" 6 P_homeward (sp_homeward K CS))
    (c_is_settled : Cal P w K mg base "is_settled" 7 P_is_settled (sp_is_settled K CS)) : FnOk P w K mg base CX0 8 f fd P_partsL (sp_partsL K) := by
  refine FunD.ok F sc_partsL (fun vs H Q E h => ?_) (fun cdv A outer s H vs Q E hr h => ?_)
  · obtain ⟨b, c, nw, hm, L, N, Z, rfl, _⟩ := h
    rfl
  · obtain ⟨b, c, nw, hm, L, N, Z, rfl, hbx, hnw, hhm, ok, stN, hz, k⟩ := h
    have nd := sc_partsL.nd
    refine ⟨_, PSs.nox ((pss_cons (ps_set (i := 3) nd rfl (Or.inl rfl) (pe_cal c_stateL (hr.mono (by decide)) (pa_cons (pv 1) pa_nil)))
  (pss_cons (ps_set (i := 4) nd rfl (Or.inr rfl) (pe_lc (own := [("_law_k", 11)]) (g := gName 11) rfl nd (pi_range1 (by rfl) T.range (pa_cons (pe_cal c_takeL (hr.mono (by decide)) (pa_cons (pv 0) (pa_cons pe_int pa_nil))) pa_nil)) (blkOk_by (own := [("_law_k", 11)]) (N := N_partsL) (sc := defScope s_partsL) (by decide +kernel)) (fun _ _ _ _ _ => pg_name (i := 11) nd rfl (Or.inl rfl)) (fun _ _ _ _ _ => pts_nil) (fun _ _ _ _ _ => (pe_cal c_takeL (hr.mono (by decide)) (pa_cons (pv 0) (pa_cons pe_int pa_nil))))))
  (pss_cons (ps_setLc (i := 5) (own := [("_law_order_here", 12)]) (g := gName 12) rfl nd rfl rfl (sw_true rfl rfl rfl (by decide +kernel)) (ki_list (K := K) (pv 1)) (blkOk_by (own := [("_law_order_here", 12)]) (N := N_partsL) (sc := defScope s_partsL) (by decide +kernel)) (fun _ _ _ _ _ => pg_name (i := 12) nd rfl (Or.inl rfl)) (fun _ _ _ _ _ => pts_nil) (fun _ _ _ _ _ => (pe_callTy (k_list (K := K)) (by rfl) T.list bt_list (pa_cons (pv 12) pa_nil))))
  (pss_cons (ps_for PassesOwn.never rfl (ki_list (K := K) (pv 4)) (pg_name (i := 6) nd rfl (Or.inl rfl))
    (pss_one (ps_asg (pe_callTy (k_list (K := K)) (by rfl) T.list bt_list (pa_cons (pe_ix (k_ixL (K := K)) (pv 2) (pv 6) (fun _ _ => rfl)) pa_nil)) (pg_sub (pv 5) (pv 6) set_list))))
  (pss_cons (ps_set (i := 7) nd rfl (Or.inl rfl) (pe_cal c_handedL (hr.mono (by decide)) (pa_cons (pv 0) (pa_cons (pv 4) pa_nil))))
  (pss_cons (ps_set (i := 8) nd rfl (Or.inl rfl) (pe_calK c_settle_k (hr.mono (by decide)) (pa_cons (pv 3) pa_nil) (pk_cons (pv 7) pk_nil)))
  (pss_cons (ps_if (PW.pt (pw_or (pt_not (pt_val (pe_cal c_state_isL (hr.mono (by decide)) (pa_cons (pv 8) (pa_cons (pv 5) pa_nil))))) (pw_or (pt_cmpR (k_neD (K := K) hr.units) (pe_callTy (k_list (K := K)) (by rfl) T.list bt_list (pa_cons (pv 7) pa_nil)) (pv 4) (nomark _)) (pw_or1 (pt_not (pt_val (pe_cal c_state_isL (hr.mono (by decide)) (pa_cons (pv 3) (pa_cons (pv 1) pa_nil)))))))))
    (pss_one (ps_ret pe_bl))
    pss_nil)
  (pss_cons (ps_if (pt_not (pt_val (pe_cal c_likeL (hr.mono (by decide)) (pa_cons (pe_calK c_settle_length_k (hr.mono (by decide)) (pa_cons (pv 3) pa_nil) (pk_cons (pe_cal c_handedL (hr.mono (by decide)) (pa_cons (pv 0) (pa_cons (pv 4) pa_nil))) pk_nil)) (pa_cons (pe_cal c_count_apartL (hr.mono (by decide)) (pa_cons (pv 1) (pa_cons (pv 5) pa_nil))) pa_nil)))))
    (pss_one (ps_ret pe_bl))
    pss_nil)
  (pss_cons (ps_if (pt_not (pt_val (pe_cal c_likeL (hr.mono (by decide)) (pa_cons (pe_calD c_settle_length_d (hr.mono (by decide)) (pa_cons (pv 8) pa_nil)) (pa_cons (pe_cal c_count_apartL (hr.mono (by decide)) (pa_cons (pv 5) (pa_cons (pv 2) pa_nil))) pa_nil)))))
    (pss_one (ps_ret pe_bl))
    pss_nil)
  (pss_cons (ps_set (i := 9) nd rfl (Or.inl rfl) (pe_cal c_nearL (hr.mono (by decide)) (pa_cons (pv 5) (pa_cons (pe_lst (pa_cons pe_int (pa_cons pe_int (pa_cons pe_int pa_nil)))) pa_nil))))
  (pss_cons (ps_if (PW.pt (pw_or (pt_not (pt_val (pe_cal c_likeL (hr.mono (by decide)) (pa_cons (pe_cal c_homeward (hr.mono (by decide)) (pa_cons (pv 8) pa_nil)) (pa_cons (pv 9) pa_nil))))) (pw_or1 (pt_not (pt_val (pe_cal c_likeL (hr.mono (by decide)) (pa_cons (pe_cal c_is_settled (hr.mono (by decide)) (pa_cons (pv 8) pa_nil)) (pa_cons (pe_cmpR (k_eqD (K := K) hr.units) (pv 9) (pe_lst pa_nil) (nomark _)) pa_nil))))))))
    (pss_one (ps_ret pe_bl))
    pss_nil)
  (pss_cons (ps_setLc (i := 10) (own := [("_law_who", 6)]) (g := gName 6) rfl nd rfl rfl (sw_true rfl rfl rfl (by decide +kernel)) (pi_range1 (by rfl) T.range (pa_cons pe_int pa_nil)) (blkOk_by (own := [("_law_who", 6)]) (N := N_partsL) (sc := defScope s_partsL) (by decide +kernel)) (fun _ _ _ _ _ => pg_name (i := 6) nd rfl (Or.inl rfl)) (fun _ _ _ _ _ => (pts_one (pt_cmpR (k_nin (K := K)) (pv 6) (pv 4) (by rfl)))) (fun _ _ _ _ _ => (pv 6)))
  (pss_cons (ps_if (PW.pt (pw_or (pt_not (pt_val (pe_cal c_state_isL (hr.mono (by decide)) (pa_cons (pe_calK c_settle_k (hr.mono (by decide)) (pa_cons (pv 8) pa_nil) (pk_cons (pv 10) pk_nil)) (pa_cons (pv 2) pa_nil))))) (pw_or1 (pt_not (pt_val (pe_cal c_state_isL (hr.mono (by decide)) (pa_cons (pe_calD c_settle_d (hr.mono (by decide)) (pa_cons (pv 8) pa_nil)) (pa_cons (pv 2) pa_nil))))))))
    (pss_one (ps_ret pe_bl))
    pss_nil)
  (pss_one (ps_ret (pe_and (pe_cal c_state_isL (hr.mono (by decide)) (pa_cons (pe_calK c_settle_k (hr.mono (by decide)) (pa_cons (pv 8) pa_nil) (pk_cons (pv 4) pk_nil)) (pa_cons (pv 5) pa_nil))) (pe_one (pe_cal c_state_isL (hr.mono (by decide)) (pa_cons (pv 8) (pa_cons (pv 5) pa_nil))))))))))))))))))))), ?_⟩
    refine ⟨_, rfl, nw, N, rfl, hnw, stN.ok, fun H1 a s1 sa1 => ?_⟩
    refine ⟨_, rfl, b, c, 5, rfl, hbx.mono s1, by decide, by decide, fun H2 n mv2 hn => ?_⟩
    have mvA := ((Mv.refl hbx).same s1).trans mv2
    refine ⟨_, rfl, by omega, by omega, fun D hD => ?_⟩
    refine lc_range (lo := 0) (n := (n : Int).toNat) (fun i H => ∃ nn : List Nat, Mv K b c H2 H ∧ H D = some (.lst (iV (nn.map Int.ofNat))) ∧ nn.length = i ∧ ∀ n ∈ nn, n < 3) ⟨[], (Mv.refl mvA.bx).same (Same.new hD), upd_same, rfl, fun n h => by cases h⟩ (fun i H3 hi ⟨nn, mv3, hD3, hlen, hlt⟩ => ?_) fun H3 ⟨nn, mv3, hD3, hlen, hlt⟩ => ?_
    · rw [Int.toNat_natCast] at hi
      refine ⟨rfl, _, rfl, b, c, 3, rfl, mv3.bx, by decide, by decide, fun H5 v mv5 hv => ?_⟩
      have hD5 := mv5.ob.keep _ _ hD3 (nb_ints _)
      refine ⟨_, hD5, sz12' (by rw [iV_len, List.length_map]; omega), nn ++ [v], Mv.put mvA.bx (mv3.trans mv5) hD, ?_, by rw [List.length_append, hlen]; rfl, fun m hm => ?_⟩
      · rw [upd_same, List.map_append]
        show some (HO.lst (_ ++ [_])) = some (HO.lst (List.map V.int (_ ++ [_])))
        rw [List.map_append]
        rfl
      · rcases List.mem_append.mp hm with q | q
        · exact hlt m q
        · rw [List.mem_singleton.mp q]
          exact hv
    rw [Int.toNat_natCast] at hlen
    have mvB := mvA.trans mv3
    have nw3 := mvB.ob.lls hnw
    have hm3 := mvB.ob.lls hhm
    obtain ⟨B, hB, hBw, hBi⟩ := nw3.at_
    obtain ⟨C, hC, hCw, hCi⟩ := hm3.at_
    refine ⟨_, rfl, nw, rfl, ⟨_, hB⟩, fun Du hDu => ?_⟩
    refine lc_list (K := K) (a := nw) (fun i H2 => PvC H3 Du (lO N) i H2) (PvC.zero hDu) (fun i H2 _ q => Same.seq q.s hB) (fun i x H2 hx q => ?_) fun H4 q => ?_
    · obtain ⟨hi, rfl⟩ := three_of hx
      exact ⟨rfl, _, rfl, B i, _, rfl, .inl (Same.seq q.s (hBw i hi)), fun l hl => q.step hDu hl hi⟩
    obtain ⟨A0, fl⟩ := q.done hDu
    have hD4 := q.s _ _ hD3
    refine ⟨_, rfl, D, rfl, ⟨_, SqL.of hD4⟩, for_it (walk_list (K := K) (a := D) (xs := iV (nn.map Int.ofNat))) (fun i σ H => ∃ v6, σ = [some (.ref b), some (.ref nw), some (.ref hm), some (.ref a), some (.ref D), some (.ref Du), v6, none, none, none, none, none, none] ∧ Same H3 H ∧
        ∃ A : Nat → Addr, H Du = some (.lst [.ref (A 0), .ref (A 1), .ref (A 2)]) ∧ ∀ w, w < 3 → SqI K H (A w) (QD.dueL N Z (nn.take i) w))
      ⟨none, rfl, q.s, A0, fl.d, fun w hw => SqL.of (fl.at_ w hw)⟩ (fun i σ H _ ⟨_, _, s, _⟩ => SqL.of (s _ _ hD3)) ?_ ?_⟩
    · rintro i x0 σ H5 H6 hi ⟨v6, rfl, s5, A, hA, hAw⟩ ⟨rfl, e2⟩
      obtain ⟨w, hw0, rfl⟩ := natOf e2
      have hw := hlt w (List.mem_of_getElem? hw0)
      refine ⟨_, rfl, _, rfl, hm, _, _, _, rfl, rfl, Same.seq s5 hC, three_at hw, C w, _, rfl, .inl (Same.seq s5 (hCw w hw)), fun l hl => ?_⟩
      refine ⟨_, rfl, _, rfl, Du, _, _, w, rfl, rfl, Same.new hl _ _ hA, ixN_nat hw, ?_⟩
      obtain ⟨A', g1, g2⟩ := du_put (z := Z w) hA hAw hl hw
      rw [QD.dueL_put hw0] at g2
      exact ⟨_, rfl, Same.put (Same.put s5 (s5.free hl)) hDu, A', g1, g2⟩
    rintro σ H5 ⟨v6, rfl, s5, A, hA, hAw⟩
    rw [iV_len, List.length_map, List.take_length] at hAw
    have due5 : LLs K H5 Du (QD.dueL N Z nn) := ⟨A, SqL.of hA, hAw⟩
    have mv5 : Mv K b c H H5 := mvB.same s5
    have ev5 : EnvP K b c CS nw hm a D Du N Z (QD.dueL N Z nn) (nn.map Int.ofNat) H5 := ⟨mv5.bx, nw3.mono s5, hm3.mono s5, ((mv2.trans mv3).same s5).ob.st sa1, SqL.of (s5 _ _ hD3), due5⟩
    have len1000 : nn.length ≤ 100 := by omega
    refine ⟨_, rfl, _, rfl, b, c, D, _, rfl, ev5.bx, ev5.lot, fun H6 hd mv6 hhd => ?_⟩
    have ev6 := ev5.mv mv6
    refine ⟨_, rfl, _, rfl, rfl, rfl, a, hd, N, nn, rfl, ev6.sa, hhd, hlt, fun H7 pt M s7 sp7 sm => ?_⟩
    have stZ := hz.stay ok
    -- the part is the due one
    have eM : ∀ w, w < 3 → QD.dueL N Z nn w = M w := fun w hw => by
      rw [QD.SetTo.one ok stN hz sm hw]
      unfold QD.dueL
      by_cases m : w ∈ nn
      · rw [if_pos m, if_pos ((mem_selN hw).mpr m)]
      · rw [if_neg m, if_neg (fun z => m ((mem_selN hw).mp z))]
    have stM : QD.Stay L M := stN.trans (sm.stay stN.ok)
    have mv7 := (mv5.trans mv6).same s7
    have ev7 : EnvP K b c CS nw hm a D Du N Z M (nn.map Int.ofNat) H7 := by
      have e := ev6.same s7
      exact ⟨e.bx, e.nw, e.hm, e.sa, e.lot, e.due.congr eM⟩
    refine ⟨_, rfl, _, rfl, pt, Du, M, M, rfl, sp7, ev7.due, fun _ _ => rfl, fun H8 s8 => ⟨_, rfl, iteF ?_⟩⟩
    have hh8 : SqI K H8 hd (nn.map Int.ofNat) ∨ SqT K H8 hd (iV (nn.map Int.ofNat)) := hhd.elim (fun q => .inl (Same.seq (s7.trans s8) q)) fun q => .inr (Same.tup (s7.trans s8) q)
    refine ⟨_, rfl, hd, _, rfl, hh8, fun l hl => ?_⟩
    have sl := Same.new (o := .lst (iV (nn.map Int.ofNat))) hl
    have ev9 := (ev7.same s8).same sl
    refine ⟨_, rfl, dI (nn.map Int.ofNat), dI (nn.map Int.ofNat), dp_ints (SqL.of upd_same), dp_ints ev9.lot, shaped_ints _, shaped_ints _, _, rfl, ?_⟩
    rw [eqv_of _ (shaped_ints _)]
    refine iteF ?_
    refine ⟨_, rfl, _, rfl, a, nw, N, N, rfl, ev9.sa, ev9.nw, fun _ _ => rfl, fun H10 s10 => ⟨_, rfl, iteF ?_⟩⟩
    have ev10 := ev9.same s10
    have sp10 := ((sp7.mono s8).mono sl).mono s10
    have mv10 := ((mv7.same s8).same sl).same s10
    refine ⟨_, rfl, _, rfl, _, rfl, b, c, D, _, rfl, ev10.bx, ev10.lot, fun H11 h2 mv11 hh2 => ?_⟩
    have ev11 := ev10.mv mv11
    refine ⟨rfl, rfl, a, h2, N, nn, rfl, ev11.sa, hh2, hlt, fun H12 M8 s12 sm8 => ?_⟩
    have ev12 := ev11.same s12
    have e8 : ∀ w, w < 3 → M8 w = M w := fun w hw => (QD.SetTo.one ok stN hz sm8 hw).trans (QD.SetTo.one ok stN hz sm hw).symm
    refine ⟨_, rfl, _, rfl, nw, Du, N, M, rfl, ev12.nw, ev12.due, fun w hw => (stM.perm ok hw).trans (stN.perm ok hw).symm, fun H13 s13 => ?_⟩
    refine ⟨_, _, rfl, .inl ⟨_, rfl, by rw [QD.apart_congr (fun _ _ => rfl) e8]⟩, _, rfl, iteF ?_⟩
    have ev13 := ev12.same s13
    have mv13 := ((mv10.trans mv11).same s12).same s13
    have sp13 := ((mv11.ob.st sp10).mono s12).mono s13
    refine ⟨_, rfl, pt, rL, M, t012, rfl, sp13, .inr (hrL _), by decide, fun H14 M9 s14 sm9 => ?_⟩
    have e9 : ∀ w, w < 3 → M9 w = Z w := QD.SetTo.all ok stM hz sm9
    have ev14 := ev13.same s14
    refine ⟨_, rfl, _, rfl, Du, hm, M, Z, rfl, ev14.due, ev14.hm, fun w hw => (stZ.perm ok hw).trans (stM.perm ok hw).symm, fun H15 s15 => ?_⟩
    refine ⟨_, _, rfl, .inl ⟨_, rfl, by rw [QD.apart_congr (fun _ _ => rfl) e9]⟩, _, rfl, iteF ?_⟩
    have ev15 := ev14.same s15
    have sp15 := (sp13.mono s14).mono s15
    have mv15 := (mv13.same s14).same s15
    refine ⟨_, rfl, by show 3 ≤ sizeLine; decide, fun r hr0 => ?_⟩
    have sr := Same.new (o := .lst [.int 0, .int 1, .int 2]) hr0
    refine ⟨Du, r, M, [0, 1, 2], rfl, ev15.due.mono sr, stM.ok, three_list hr0, by decide, by decide, fun H16 np s16 nnp tm => ?_⟩
    have ev16 := (ev15.same sr).same s16
    have sp16 := (sp15.mono sr).mono s16
    have mv16 := (mv15.same sr).same s16
    have l30 : (QD.nearL (QD.rd M) M [0, 1, 2]).length ≤ 4096 := Nat.le_trans (QD.near_len (R := QD.rd M) (fun w hw => (stM.ok.kok hw).len) (nn := [0, 1, 2]) (by decide)) (by decide)
    refine ⟨_, rfl, pt, M, rfl, sp16, fun H17 hp s17 tl17 => ?_⟩
    have tm17 := tm.ob s17.ob
    refine ⟨_, rfl, _, _, rfl, like_tls tl17 tm17.tls l30, _, rfl, iteF ?_⟩
    refine ⟨_, rfl, pt, M, rfl, sp16.mono s17, fun H18 s18 => ?_⟩
    have tm18 := tm17.ob s18.ob
    refine ⟨_, rfl, by show 0 ≤ sizeLine; decide, fun e0 he0 => ?_⟩
    have se := Same.new (o := .lst []) he0
    refine ⟨_, .list [], dp_tls ((tm18.ob se.ob).tls), .lst (SqL.of upd_same) .nil, shaped_tups _, rfl, ?_⟩
    refine ⟨_, _, rfl, .inr (.inl ⟨_, rfl, by rw [eqv_nil]⟩), _, rfl, iteF ?_⟩
    have ev19 := ((ev16.same s17).same s18).same se
    have sp19 := ((sp16.mono s17).mono s18).mono se
    have mv19 := ((mv16.same s17).same s18).same se
    generalize upd H18 e0 (.lst []) = H19 at *
    -- the rest
    obtain ⟨rn, hrn⟩ : ∃ rn : List Nat, rn = (List.range 3).filter fun j => !nn.contains j := ⟨_, rfl⟩
    have cn : ∀ j : Nat, (nn.map Int.ofNat).contains (j : Int) = nn.contains j := fun r => by
      rw [Bool.eq_iff_iff, List.contains_iff_mem, List.contains_iff_mem, List.mem_map]
      exact ⟨fun ⟨z, hz, e⟩ => by rw [← Int.ofNat.inj e]; exact hz, fun h => ⟨r, h, rfl⟩⟩
    refine ⟨3, rfl, by decide, by decide, fun R hR => ?_⟩
    refine lc_range (lo := 0) (n := 3) (fun i H => Same H19 H ∧ H R = some (.lst (iV (((List.range i).filter fun j => !nn.contains j).map Int.ofNat)))) ⟨Same.new hR, upd_same⟩ (fun i H20 hi ⟨s20, hR20⟩ => ?_) fun H20 ⟨s20, hR20⟩ => ?_
    · have e0 : (0 + (i : Int)) = i := Int.zero_add _
      rw [e0]
      refine ⟨rfl, _, rfl, _, rfl, D, _, rfl, .inl (Same.seq s20 ev19.lot), rfl, iV_flat _, _, rfl, ?_⟩
      have e : (if true = true then !inV (V.int (i : Int)) (iV (nn.map Int.ofNat)) else inV (V.int (i : Int)) (iV (nn.map Int.ofNat))) = !nn.contains i := by
        rw [if_pos rfl, inV_iV, cn]
      rw [e, List.range_succ, List.filter_append, List.map_append]
      cases eb : nn.contains i with
      | true =>
        refine iteF ⟨s20, ?_⟩
        rw [List.filter_cons_of_neg (by rw [eb]; simp)]
        show _ = some (HO.lst (iV (_ ++ [])))
        rw [List.append_nil]
        exact hR20
      | false =>
        refine iteT ⟨_, rfl, _, hR20, sz12' ?_, Same.put s20 hR, ?_⟩
        · rw [iV_len, List.length_map]
          have := List.length_filter_le (fun j => !nn.contains j) (List.range i)
          rw [List.length_range] at this
          omega
        · rw [List.filter_cons_of_pos (by rw [eb]; rfl), upd_same]
          show some (HO.lst (_ ++ [_])) = some (HO.lst (List.map V.int (_ ++ [_])))
          rw [List.map_append]
          rfl
    rw [← hrn] at hR20
    have rlt : ∀ n ∈ rn, n < 3 := fun n hn => by
      rw [hrn] at hn
      exact List.mem_range.mp (List.mem_filter.mp hn).1
    have ev20 := ev19.same s20
    have sp20 := sp19.mono s20
    have mv20 := mv19.same s20
    have eZ : ∀ w, w < 3 → w ∈ nn → M w = Z w := fun w hw m => by
      rw [← eM w hw]
      exact if_pos m
    refine ⟨_, rfl, _, rfl, rfl, rfl, pt, R, M, rn, rfl, sp20, .inl (SqL.of hR20), rlt, fun H21 p1 M10 s21 sq1 sm10 => ?_⟩
    have e10 : ∀ w, w < 3 → M10 w = Z w := fun w hw => by
      rw [QD.SetTo.one ok stM hz sm10 hw]
      by_cases m : w ∈ selN rn
      · rw [if_pos m]
      · rw [if_neg m]
        refine eZ w hw ?_
        have m2 : w ∉ rn := fun z => m ((mem_selN hw).mpr z)
        rw [hrn, List.mem_filter] at m2
        cases eb : nn.contains w with
        | true => exact List.contains_iff_mem.mp eb
        | false => exact absurd ⟨List.mem_range.mpr hw, by rw [eb]; rfl⟩ m2
    have ev21 := ev20.same s21
    refine ⟨_, rfl, p1, hm, M10, Z, rfl, sq1, ev21.hm, e10, fun H22 s22 => ⟨_, rfl, iteF ?_⟩⟩
    have ev22 := ev21.same s22
    have sp22 := (sp20.mono s21).mono s22
    refine ⟨_, rfl, pt, rS, M, t012, rfl, sp22, .inr (hrS _), by decide, fun H23 p2 M11 s23 sq2 sm11 => ?_⟩
    have ev23 := ev22.same s23
    refine ⟨_, rfl, p2, hm, M11, Z, rfl, sq2, ev23.hm, QD.SetTo.all ok stM hz sm11, fun H24 s24 => ⟨_, rfl, iteF ?_⟩⟩
    have ev24 := ev23.same s24
    have sp24 := (sp22.mono s23).mono s24
    have mv24 := (((mv20.same s21).same s22).same s23).same s24
    refine ⟨_, rfl, _, rfl, rfl, rfl, pt, D, M, nn, rfl, sp24, .inl ev24.lot, hlt, fun H25 p3 M12 s25 sq3 sm12 => ?_⟩
    have e12 : ∀ w, w < 3 → M12 w = M w := fun w hw => by
      rw [QD.SetTo.one ok stM hz sm12 hw]
      by_cases m : w ∈ selN nn
      · rw [if_pos m]
        exact (eZ w hw ((mem_selN hw).mp m)).symm
      · rw [if_neg m]
    have ev25 := ev24.same s25
    refine ⟨_, rfl, p3, Du, M12, M, rfl, sq3, ev25.due, e12, fun H26 s26 => ⟨_, rfl, iteT ?_⟩⟩
    have ev26 := ev25.same s26
    refine ⟨_, rfl, _, rfl, pt, Du, M, M, rfl, (sp24.mono s25).mono s26, ev26.due, fun _ _ => rfl, fun H27 s27 => ?_⟩
    exact k _ (((mv24.same s25).same s26).same s27)
end
end Qd

set_option Elab.async false
set_option linter.all false
set_option maxRecDepth 100000
set_option maxHeartbeats 4000000
/-! The law's helpers, tenth part: one_by_one. -/
namespace QD
theorem apart_one {M M' Z : LS} {w : Nat} (hw : w < 3) (h : ∀ j, j < 3 → M' j = if j ∈ [w] then Z j else M j) : apart (M 0) (M' 0) + apart (M 1) (M' 1) + apart (M 2) (M' 2) = apart (M w) (Z w) := by
  rw [h 0 (by decide), h 1 (by decide), h 2 (by decide)]
  match w, hw with
  | 0, _ => simp [apart_self]
  | 1, _ => simp [apart_self]
  | 2, _ => simp [apart_self]
end QD
namespace Qd
open PySem PySem.Spec PyProof.Rows L2
theorem selN_one {w : Nat} (hw : w < 3) : selN [w] = [w] := by
  match w, hw with
  | 0, _ => rfl
  | 1, _ => rfl
  | 2, _ => rfl
/-- the state's own lists are not Du -/
def OffS (H : Hp) (CS p Du : Addr) : Prop := ∃ dx l q, H p = some (.ins CS dx [("_lists", .ref l), ("_places", .ref q)]) ∧ l ≠ Du ∧ q ≠ Du
theorem OffS.mv {H H' : Hp} {CS p Du : Addr} (h : OffS H CS p Du) (s : Ob H H') : OffS H' CS p Du := by
  obtain ⟨dx, l, q, h1, h2⟩ := h
  exact ⟨dx, l, q, s.keep _ _ h1 (by rintro ⟨c, r, t, e⟩; cases e), h2⟩
theorem NewSt.off {H0 H : Hp} {CS p Du : Addr} (h : NewSt H0 H CS p) (n : H Du = none) : OffS H CS p Du := by
  obtain ⟨dx, l, q, h1, _, _, ⟨u, h4⟩, v, h5⟩ := h
  exact ⟨dx, l, q, h1, ne_of_none h4 n, ne_of_none h5 n⟩
theorem NewSt.off2 {H0 H : Hp} {CS p Du : Addr} {o : HO} (h : NewSt H0 H CS p) (n : H0 Du = some o) : OffS H CS p Du := by
  obtain ⟨dx, l, q, h1, h2, h3, _⟩ := h
  exact ⟨dx, l, q, h1, Ne.symm (ne_of_none n h2), Ne.symm (ne_of_none n h3)⟩
theorem SqL.offA {K : PySem.W.Frag} {H : Hp} {l Du : Addr} {xs : List V} {o : HO} (h : SqL K H l xs) (n : l ≠ Du) : SqL K (upd H Du o) l xs := by
  rcases h with (h | ⟨ob, h⟩) | h
  · exact .inl (.inl (by rw [upd_ne n]; exact h))
  · exact .inl (.inr ⟨ob, by rw [upd_ne n]; exact h⟩)
  · exact .inr h
theorem StAt.off {K : PySem.W.Frag} {H : Hp} {CS p Du x : Addr} {M : QD.LS} {xs : List V} {o : HO} (h : StAt K H CS p M) (f : OffS H CS p Du) (hd : H Du = some (.lst (.ref x :: xs))) : StAt K (upd H Du o) CS p M := by
  obtain ⟨dx, l, q, h1, h2, h3⟩ := h.ex
  obtain ⟨dx', l', q', g1, n1, n2⟩ := f
  rw [h1] at g1
  cases g1
  obtain ⟨A, a1, a2⟩ := h2.ex
  obtain ⟨C, c1, c2⟩ := h3.ex
  refine ⟨h.ok, dx, l, q, by rw [upd_ne (ne_of h1 hd (by intro z; cases z))]; exact h1, ⟨A, SqL.offA a1 n1, fun w hw => sq_off (a2 w hw) hd⟩, C, SqL.offA c1 n2, fun w hw => ?_⟩
  rw [upd_ne (ne_of (c2 w hw) hd (by intro z; cases z))]
  exact c2 w hw
section
variable {P : Program} {w : World} {K : PySem.W.Frag} {mg : Str → Option Value} {base : Heap} {CS CR CU f rS rL : Addr} {fd : FuncData}
def sp_one_by_oneL (K : PySem.W.Frag) : Sp := fun vs H Q _ => ∃ (b c nw hm : Addr) (L N Z : QD.LS), vs = [.ref b, .ref nw, .ref hm] ∧ Box K H b c ∧ LLs K H nw N ∧ LLs K H hm Z ∧ QD.StOk L ∧ QD.Stay L N ∧ QD.SetTo L [0, 1, 2] Z ∧ ∀ H', Mv K b c H H' → Q (.bl true) H'
abbrev N_one_by_oneL : List Str := ["_law_box_here", "_law_now", "_law_home", "_law_state_here", "_law_due", "_law_who", "_law_count_here", "_law_order_here"]
abbrev P_one_by_oneL : List Str := ["_law_box_here", "_law_now", "_law_home"]
theorem sc_one_by_oneL : FnScope N_one_by_oneL P_one_by_oneL (defScope s_one_by_oneL) := ⟨rfl, rfl, rfl, by decide +kernel, rfl, by decide +kernel, by decide +kernel⟩
theorem ok_one_by_oneL (F : F_one_by_oneL K f fd) (T : Txt K mg CS CR CU) (c_stateL : Cal P w K mg base "_law_state" 5 P_stateL (sp_stateL2 K CS)) (c_orderL : Cal P w K mg base "_law_order" 2 P_orderL (sp_orderL K)) (c_apartL : Cal P w K mg base "_law_apart" 1 P_apartL (sp_apartL K))
    (c_likeL : Cal P w K mg base "_law_like" 3 P_likeL (sp_likeL K 3)) (c_settle_k : CalK P w K mg base "settle" 6 1 ["replicas"] P_settle (fun vs zs => vs ++ zs) (sp_settle2 K CS)) (c_settle_length_k : CalK P w K mg base "settle_length" 7 1 ["replicas"] P_settle_length (fun vs zs => vs ++ zs) (sp_settle_length K CS))
    (c_state_isL : Cal P w K mg base "_law_state_is" 4 P_state_isL (sp_state_isL K CS)) (c_homeward : Cal P w K mg base "homeward" 6 P_homeward (sp_homeward K CS)) (c_is_settled : Cal P w K mg base "is_settled" 7 P_is_settled (sp_is_settled K CS)) : FnOk P w K mg base CX0 8 f fd P_one_by_oneL (sp_one_by_oneL K) := by
  refine FunD.ok F sc_one_by_oneL (fun vs H Q E h => ?_) (fun cdv A outer s H vs Q E hr h => ?_)
  · obtain ⟨b, c, nw, hm, L, N, Z, rfl, _⟩ := h
    rfl
  · obtain ⟨b, c, nw, hm, L, N, Z, rfl, hbx, hnw, hhm, ok, stN, hz, k⟩ := h
    have nd := sc_one_by_oneL.nd
    refine ⟨_, PSs.nox ((pss_cons (ps_set (i := 3) nd rfl (Or.inl rfl) (pe_cal c_stateL (hr.mono (by decide)) (pa_cons (pv 1) pa_nil)))
  (pss_cons (ps_setLc (i := 4) (own := [("_law_order_here", 7)]) (g := gName 7) rfl nd rfl rfl (sw_true rfl rfl rfl (by decide +kernel)) (ki_list (K := K) (pv 1)) (blkOk_by (own := [("_law_order_here", 7)]) (N := N_one_by_oneL) (sc := defScope s_one_by_oneL) (by decide +kernel)) (fun _ _ _ _ _ => pg_name (i := 7) nd rfl (Or.inl rfl)) (fun _ _ _ _ _ => pts_nil) (fun _ _ _ _ _ => (pe_callTy (k_list (K := K)) (by rfl) T.list bt_list (pa_cons (pv 7) pa_nil))))
  (pss_cons (ps_for PassesOwn.never rfl (ki_list (K := K) (pe_cal c_orderL (hr.mono (by decide)) (pa_cons (pv 0) (pa_cons (pe_lst (pa_cons pe_int (pa_cons pe_int (pa_cons pe_int pa_nil)))) pa_nil)))) (pg_name (i := 5) nd rfl (Or.inl rfl))
    (pss_cons (ps_set (i := 6) nd rfl (Or.inl rfl) (pe_cal c_apartL (hr.mono (by decide)) (pa_cons (pv 4) (pa_cons (pv 2) (pa_cons (pv 5) pa_nil)))))
  (pss_cons (ps_if (pt_not (pt_val (pe_cal c_likeL (hr.mono (by decide)) (pa_cons (pe_calK c_settle_length_k (hr.mono (by decide)) (pa_cons (pv 3) pa_nil) (pk_cons (pe_lst (pa_cons (pv 5) pa_nil)) pk_nil)) (pa_cons (pv 6) pa_nil)))))
    (pss_one (ps_ret pe_bl))
    pss_nil)
  (pss_cons (ps_set (i := 3) nd rfl (Or.inl rfl) (pe_calK c_settle_k (hr.mono (by decide)) (pa_cons (pv 3) pa_nil) (pk_cons (pe_tup (pa_cons (pv 5) pa_nil)) pk_nil)))
  (pss_cons (ps_asg (pe_callTy (k_list (K := K)) (by rfl) T.list bt_list (pa_cons (pe_ix (k_ixL (K := K)) (pv 2) (pv 5) (fun _ _ => rfl)) pa_nil)) (pg_sub (pv 4) (pv 5) set_list))
  (pss_one (ps_if (pt_not (pt_val (pe_cal c_state_isL (hr.mono (by decide)) (pa_cons (pv 3) (pa_cons (pv 4) pa_nil)))))
    (pss_one (ps_ret pe_bl))
    pss_nil)))))))
  (pss_one (ps_ret (pe_and (pe_cal c_likeL (hr.mono (by decide)) (pa_cons (pe_cal c_is_settled (hr.mono (by decide)) (pa_cons (pv 3) pa_nil)) (pa_cons pe_bl pa_nil))) (pe_one (pe_cal c_likeL (hr.mono (by decide)) (pa_cons (pe_cal c_homeward (hr.mono (by decide)) (pa_cons (pv 3) pa_nil)) (pa_cons (pe_lst pa_nil) pa_nil))))))))))), ?_⟩
    refine ⟨_, rfl, nw, N, rfl, hnw, stN.ok, fun H3 a0 s1 sa1 nw1 => ?_⟩
    have bx3 := hbx.mono s1
    have nw3 := hnw.mono s1
    have hm3 := hhm.mono s1
    have stZ := hz.stay ok
    obtain ⟨B, hB, hBw, hBi⟩ := nw3.at_
    refine ⟨_, rfl, nw, rfl, ⟨_, hB⟩, fun Du hDu => ?_⟩
    refine lc_list (K := K) (a := nw) (fun i H2 => PvC H3 Du (lO N) i H2) (PvC.zero hDu) (fun i H2 _ q => Same.seq q.s hB) (fun i x H2 hx q => ?_) fun H4 q => ?_
    · obtain ⟨hi, rfl⟩ := three_of hx
      exact ⟨rfl, _, rfl, B i, _, rfl, .inl (Same.seq q.s (hBw i hi)), fun l hl => q.step hDu hl hi⟩
    obtain ⟨A0, fl⟩ := q.done hDu
    refine ⟨_, rfl, by show 3 ≤ sizeLine; decide, fun r hr0 => ?_⟩
    have sr := Same.new (o := .lst [.int 0, .int 1, .int 2]) hr0
    have mv4 := ((Mv.refl bx3).same q.s).same sr
    refine ⟨b, c, r, [0, 1, 2], rfl, mv4.bx, SqL.of upd_same, by decide, fun H5 od ms mv5 nod hod pm => ?_⟩
    have mvA := mv4.trans mv5
    have fl5 := FOs.obm (fl.mono sr) mv5.ob
    -- the order as numbers
    obtain ⟨nn, hnn⟩ : ∃ nn : List Nat, nn = ms.map Int.toNat := ⟨_, rfl⟩
    have mem3 : ∀ m ∈ ms, 0 ≤ m ∧ m < 3 := fun m hm => by
      have := pm.mem_iff.mp hm
      simp at this
      omega
    have ems : ms = nn.map Int.ofNat := by
      rw [hnn, List.map_map]
      conv => lhs; rw [← List.map_id ms]
      refine List.map_congr_left fun m hm => ?_
      have := (mem3 m hm).1
      show m = ((m.toNat : Nat) : Int)
      omega
    have hlt : ∀ n ∈ nn, n < 3 := fun n hn => by
      rw [hnn] at hn
      obtain ⟨m, hm, rfl⟩ := List.mem_map.mp hn
      have := mem3 m hm
      omega
    have hall : ∀ w, w < 3 → w ∈ nn := fun w hw => by
      rw [hnn]
      have : ((w : Nat) : Int) ∈ ms := pm.mem_iff.mpr (by simp; omega)
      exact List.mem_map.mpr ⟨_, this, Int.toNat_natCast w⟩
    rw [ems] at hod
    have hod3 : H3 od = none := mv4.ob.has _ nod
    refine ⟨od, rfl, ⟨_, SqL.of hod⟩, for_it (walk_list (K := K) (a := od) (xs := iV (nn.map Int.ofNat))) (fun i σ H => ∃ a v5 v6 M, σ = [some (.ref b), some (.ref nw), some (.ref hm), some (.ref a), some (.ref Du), v5, v6, none] ∧ Mv K b c H3 H ∧ H od = some (.lst (iV (nn.map Int.ofNat))) ∧ od ≠ Du ∧ StAt K H CS a M ∧ OffS H CS a Du ∧ QD.Stay L M ∧
        (∀ w, w < 3 → M w = QD.dueL N Z (nn.take i) w) ∧ ∃ A : Nat → Addr, H Du = some (.lst [.ref (A 0), .ref (A 1), .ref (A 2)]) ∧ ∀ w, w < 3 → SqI K H (A w) (QD.dueL N Z (nn.take i) w))
      ⟨a0, none, none, N, rfl, mvA, hod, (Ne.symm (ne_of_none ((fl.mono sr).d) nod)), mvA.ob.st sa1, (nw1.off hDu).mv mvA.ob, stN, fun _ _ => rfl, A0, fl5.d, fun w hw => SqL.of (fl5.at_ w hw)⟩ (fun i σ H _ ⟨_, _, _, _, _, _, q, _⟩ => SqL.of q) ?_ ?_⟩
    · rintro i x0 σ H6 H7 hi ⟨a, v5, v6, M, rfl, mv6, hod6, nodD, sa, ofS, stM, eM, A, hA, hAw⟩ ⟨rfl, e2⟩
      obtain ⟨w, hw0, rfl⟩ := natOf e2
      have hw := hlt w (List.mem_of_getElem? hw0)
      have hm6 := mv6.ob.lls hm3
      have due6 : LLs K H7 Du M := ⟨A, SqL.of hA, fun w hw => eM w hw ▸ hAw w hw⟩
      refine ⟨_, rfl, _, rfl, _, rfl, Du, hm, w, M, Z, rfl, due6, hm6, hw, (stZ.perm ok hw).trans (stM.perm ok hw).symm, ?_⟩
      refine ⟨_, rfl, _, rfl, by show 1 ≤ sizeLine; decide, fun p hp => ?_⟩
      have sp := Same.new (o := .lst [.int (w : Nat)]) hp
      refine ⟨rfl, rfl, a, p, M, [w], rfl, sa.mono sp, .inl (SqL.of upd_same), fun n hn => by rw [List.mem_singleton.mp hn]; exact hw, fun H8 M8 s8 sm8 => ?_⟩
      have e8 : ∀ j, j < 3 → M8 j = if j ∈ [w] then Z j else M j := fun j hj => by
        rw [selN_one hw] at sm8
        exact QD.SetTo.one ok stM hz sm8 hj
      refine ⟨_, rfl, _, _, rfl, .inl ⟨_, rfl, by rw [QD.apart_one hw e8]⟩, _, rfl, iteF ?_⟩
      have s68 := sp.trans s8
      refine ⟨_, rfl, _, rfl, by show 1 ≤ sizeLine; decide, fun p2 hp2 => ?_⟩
      have sp2 := Same.new (o := .tup [.int (w : Nat)]) hp2
      refine ⟨rfl, rfl, a, p2, M, [w], rfl, (sa.mono s68).mono sp2, .inr (SqT.of upd_same), fun n hn => by rw [List.mem_singleton.mp hn]; exact hw, fun H9 a2 M9 s9 sa9 sm9 hfr => ?_⟩
      have e9 : ∀ j, j < 3 → M9 j = if j ∈ [w] then Z j else M j := fun j hj => by
        rw [selN_one hw] at sm9
        exact QD.SetTo.one ok stM hz sm9 hj
      have s69 := (s68.trans sp2).trans s9
      obtain ⟨C, hC, hCw, hCi⟩ := (hm6.mono s69).at_
      refine ⟨_, rfl, _, rfl, hm, _, _, _, rfl, rfl, hC, three_at hw, C w, _, rfl, .inl (hCw w hw), fun l hl => ?_⟩
      have hA9 := s69 _ _ hA
      refine ⟨_, rfl, _, rfl, Du, _, _, w, rfl, rfl, Same.new hl _ _ hA9, ixN_nat hw, ?_⟩
      obtain ⟨A', g1, g2⟩ := du_put (z := Z w) hA9 (fun j hj => Same.seq s69 (hAw j hj)) hl hw
      rw [QD.dueL_put hw0] at g2
      have mv9 := mv6.same s69
      have mvB : Mv K b c H3 (upd (upd H9 l (.lst (iV (Z w)))) Du (.lst (([.ref (A 0), .ref (A 1), .ref (A 2)] : List V).set w (.ref l)))) := Mv.put bx3 (mv9.same (Same.new hl)) hDu
      have od9 : upd (upd H9 l (.lst (iV (Z w)))) Du (.lst (([.ref (A 0), .ref (A 1), .ref (A 2)] : List V).set w (.ref l))) od = some (.lst (iV (nn.map Int.ofNat))) := by
        rw [upd_ne nodD]
        exact Same.new hl _ _ (s69 _ _ hod6)
      have hAl := Same.new (o := .lst (iV (Z w))) hl _ _ hA9
      have of9 : OffS (upd H9 l (.lst (iV (Z w)))) CS a2 Du := by
        refine OffS.mv ?_ (Same.new hl).ob
        rcases hfr with e | nw
        · subst e
          exact ofS.mv s69.ob
        · exact nw.off2 (s68.trans sp2 _ _ hA)
      have saB : StAt K (upd (upd H9 l (.lst (iV (Z w)))) Du (.lst (([.ref (A 0), .ref (A 1), .ref (A 2)] : List V).set w (.ref l)))) CS a2 M9 := StAt.off (sa9.mono (Same.new hl)) of9 hAl
      have ofB : OffS (upd (upd H9 l (.lst (iV (Z w)))) Du (.lst (([.ref (A 0), .ref (A 1), .ref (A 2)] : List V).set w (.ref l)))) CS a2 Du := by
        obtain ⟨dx, l1, q1, o1, o2⟩ := of9
        exact ⟨dx, l1, q1, by rw [upd_ne (ne_of o1 hAl (by intro z; cases z))]; exact o1, o2⟩
      generalize upd (upd H9 l (.lst (iV (Z w)))) Du (.lst (([.ref (A 0), .ref (A 1), .ref (A 2)] : List V).set w (.ref l))) = HB at *
      have eM9 : ∀ j, j < 3 → M9 j = QD.dueL N Z (nn.take (i + 1)) j := fun j hj => by
        rw [e9 j hj, eM j hj, take_succ_at hw0]
        unfold QD.dueL
        by_cases m1 : j ∈ [w]
        · rw [if_pos m1, if_pos (List.mem_append.mpr (.inr m1))]
        · rw [if_neg m1]
          by_cases m2 : j ∈ nn.take i
          · rw [if_pos m2, if_pos (List.mem_append.mpr (.inl m2))]
          · rw [if_neg m2, if_neg]
            intro z
            rcases List.mem_append.mp z with z | z
            · exact m2 z
            · exact m1 z
      refine ⟨_, rfl, _, rfl, a2, Du, M9, QD.dueL N Z (nn.take (i + 1)), rfl, saB, ⟨A', SqL.of g1, g2⟩, eM9, fun HC sC => ⟨_, rfl, iteF ?_⟩⟩
      exact ⟨a2, _, _, M9, rfl, mvB.same sC, sC _ _ od9, nodD, saB.mono sC, ofB.mv sC.ob, stM.trans (sm9.stay stM.ok), eM9, A', sC _ _ g1, fun j hj => Same.seq sC (g2 j hj)⟩
    · rintro σ H6 ⟨a, v5, v6, M, rfl, mv6, hod6, nodD, sa, ofS, stM, eM, A, hA, hAw⟩
      rw [iV_len, List.length_map, List.take_length] at eM
      have eZ : ∀ w, w < 3 → M w = Z w := fun w hw => by
        rw [eM w hw]
        exact if_pos (hall w hw)
      have nz : QD.nearL (QD.rd M) M [0, 1, 2] = [] := QD.near_nil.mpr fun w hw => by
        have hw3 : w < 3 := by simp at hw; omega
        obtain ⟨n, _, q⟩ := hz.yes w hw3 hw
        rw [stM.rd, eZ w hw3]
        exact q
      refine ⟨_, rfl, a, M, rfl, sa, fun H7 s7 => ?_⟩
      refine ⟨_, _, rfl, .inr (.inl ⟨true, by rw [nz]; rfl, rfl⟩), _, rfl, iteT ?_⟩
      refine ⟨_, rfl, a, M, rfl, sa.mono s7, fun H8 p s8 tl => ⟨by show 0 ≤ sizeLine; decide, fun e0 he0 => ?_⟩⟩
      rw [nz] at tl
      obtain ⟨ts, hts, tlen, _⟩ := tl.ex
      have e0 : ts = [] := List.length_eq_zero_iff.mp tlen
      subst e0
      have se := Same.new (o := .lst []) he0
      exact ⟨_, _, rfl, .inr (.inr (.inl ⟨p, _, [], [], rfl, rfl, Same.seq se hts, SqL.of upd_same, rfl, Nat.zero_le _, fun i u v h => by cases h⟩)), k _ ((((Mv.refl hbx).same s1).trans ((mv6.same s7).same s8)).same se)⟩
end
end Qd

set_option Elab.async false
set_option linter.all false
set_option maxRecDepth 100000
set_option maxHeartbeats 4000000
/-! The law. -/
namespace Qd
open PySem PySem.Spec PyProof.Rows L2
/-- three lists off En, raw -/
structure RLs (H : Hp) (En D : Addr) (M : QD.LS) : Prop where
  ex : ∃ A : Nat → Addr, H D = some (.lst [.ref (A 0), .ref (A 1), .ref (A 2)]) ∧ (∀ w, w < 3 → H (A w) = some (.lst (iV (M w)))) ∧ D ≠ En ∧ ∀ w, w < 3 → A w ≠ En
theorem RLs.mono {H H' : Hp} {En D : Addr} {M : QD.LS} (h : RLs H En D M) (s : Same H H') : RLs H' En D M := by
  obtain ⟨A, h1, h2, h3⟩ := h.ex
  exact ⟨A, s _ _ h1, fun w hw => s _ _ (h2 w hw), h3⟩
theorem RLs.upd {H : Hp} {En D : Addr} {M : QD.LS} {o : HO} (h : RLs H En D M) : RLs (L2.upd H En o) En D M := by
  obtain ⟨A, h1, h2, h3, h4⟩ := h.ex
  exact ⟨A, by rw [upd_ne h3]; exact h1, fun w hw => by rw [upd_ne (h4 w hw)]; exact h2 w hw, h3, h4⟩
theorem RLs.lls {K : PySem.W.Frag} {H : Hp} {En D : Addr} {M : QD.LS} (h : RLs H En D M) : LLs K H D M := by
  obtain ⟨A, h1, h2, _⟩ := h.ex
  exact ⟨A, SqL.of h1, fun w hw => SqL.of (h2 w hw)⟩
theorem RLs.of {H0 H : Hp} {En D : Addr} {B : Nat → Addr} {M : QD.LS} {o : HO} (h : FLs H0 H D B M) (e : H0 En = some o) : RLs H En D M :=
  ⟨B, h.d, h.at_, Ne.symm (ne_of_none e h.nD), fun w hw => Ne.symm (ne_of_none e (h.nB w hw))⟩
/-- the ends so far -/
structure EndAt (H : Hp) (En : Addr) (X : Nat → QD.LS) (i : Nat) : Prop where
  ex : ∃ B : Nat → Addr, H En = some (.lst ((List.range i).map fun j => V.ref (B j))) ∧ ∀ j, j < i → RLs H En (B j) (X j)
theorem EndAt.mono {H H' : Hp} {En : Addr} {X : Nat → QD.LS} {i : Nat} (h : EndAt H En X i) (s : Same H H') : EndAt H' En X i := by
  obtain ⟨B, h1, h2⟩ := h.ex
  exact ⟨B, s _ _ h1, fun j hj => (h2 j hj).mono s⟩
theorem EndAt.app {H : Hp} {En D : Addr} {X : Nat → QD.LS} {i : Nat} (h : EndAt H En X i) (d : RLs H En D (X i)) : ∃ acc, H En = some (.lst acc) ∧ acc.length = i ∧ EndAt (L2.upd H En (.lst (acc ++ [V.ref D]))) En X (i + 1) := by
  obtain ⟨B, h1, h2⟩ := h.ex
  refine ⟨_, h1, by rw [List.length_map, List.length_range], fun j => if j = i then D else B j, ?_, fun j hj => ?_⟩
  · rw [upd_same, List.range_succ, List.map_append]
    have e : (List.range i).map (fun j => V.ref (if j = i then D else B j)) = (List.range i).map fun j => V.ref (B j) := List.map_congr_left fun j hj => by
      rw [if_neg (Nat.ne_of_lt (List.mem_range.mp hj))]
    rw [e]
    show _ = some (HO.lst (_ ++ [V.ref (if i = i then D else B i)]))
    rw [if_pos rfl]
  · dsimp only
    by_cases e : j = i
    · subst e
      rw [if_pos rfl]
      exact d.upd
    · rw [if_neg e]
      exact (h2 j (by omega)).upd
/-- what the law keeps in hand -/
structure EnvL (K : PySem.W.Frag) (b c CS ls hm sl a Cu En : Addr) (B : Nat → Addr) (L Z : QD.LS) (ss : List (Nat × Nat)) (cu : Nat → Nat) (H : Hp) : Prop where
  bx : Box K H b c
  ls : LLs K H ls L
  hm : LLs K H hm Z
  sl : TLs K H sl ss
  sa : StAt K H CS a L
  cus : SqI K H Cu [(cu 0 : Int), (cu 1 : Int), (cu 2 : Int)]
  en : SqL K H En [.ref (B 0), .ref (B 1), .ref (B 2)]
  at_ : ∀ j, j < 3 → LLs K H (B j) (QD.runS L (ss.take (cu j)))
section
variable {P : Program} {w : World} {K : PySem.W.Frag} {mg : Str → Option Value} {base : Heap} {CS CR CU f rS rL : Addr} {fd : FuncData}
theorem EnvL.mv {b c ls hm sl a Cu En : Addr} {B : Nat → Addr} {L Z : QD.LS} {ss : List (Nat × Nat)} {cu : Nat → Nat} {H H' : Hp} (e : EnvL K b c CS ls hm sl a Cu En B L Z ss cu H) (m : Mv K b c H H') : EnvL K b c CS ls hm sl a Cu En B L Z ss cu H' :=
  ⟨m.bx, m.ob.lls e.ls, m.ob.lls e.hm, m.ob.tls e.sl, m.ob.st e.sa, m.ob.sq e.cus (nb_ints _), m.ob.sq e.en (nb_refs [B 0, B 1, B 2]), fun j hj => m.ob.lls (e.at_ j hj)⟩
theorem EnvL.same {b c ls hm sl a Cu En : Addr} {B : Nat → Addr} {L Z : QD.LS} {ss : List (Nat × Nat)} {cu : Nat → Nat} {H H' : Hp} (e : EnvL K b c CS ls hm sl a Cu En B L Z ss cu H) (s : Same H H') : EnvL K b c CS ls hm sl a Cu En B L Z ss cu H' :=
  e.mv ((Mv.refl e.bx).same s)
theorem tls_take {H : Hp} {p : Addr} {ts : List Addr} {ss : List (Nat × Nat)} {n : Nat} (hp : SqL K H p ((ts.take n).map V.ref)) (hl : ts.length = ss.length)
    (h : ∀ (i : Nat) (t : Addr) (q : Nat × Nat), ts[i]? = some t → ss[i]? = some q → H t = some (.tup [.int (q.1 : Nat), .int (q.2 : Nat)])) : TLs K H p (ss.take n) := by
  refine ⟨ts.take n, hp, by rw [List.length_take, List.length_take, hl], fun i t q e1 e2 => ?_⟩
  rw [List.getElem?_take] at e1 e2
  split at e1
  · rename_i hi
    rw [if_pos hi] at e2
    exact h i t q e1 e2
  · cases e1
theorem cutR {ts : List Addr} {n : Nat} (h : n ≤ ts.length) : cutV (ts.map V.ref) none (some (n : Int)) = (ts.take n).map V.ref := by
  rw [cut_to (by rw [List.length_map]; exact h), List.map_take]
def sp_law (K : PySem.W.Frag) : Sp := fun vs H Q _ => ∃ (a : Addr) (ns : List Int), vs = [.ref a] ∧ SqI K H a ns ∧ ∀ H', Q (.bl true) H'
abbrev N_law : List Str := ["_law_script", "_law_box_here", "_law_most", "_law_lists_here", "_law_home", "_law_walk_here", "_law_steps", "_law_state_here", "_law_cuts", "_law_ends", "_law_cut_here", "_law_now", "_law_step", "_law_k", "_law_first", "_law_last", "_law_order_here"]
abbrev P_law : List Str := ["_law_script"]
theorem sc_law : FnScope N_law P_law (defScope s_law) := ⟨rfl, rfl, rfl, by decide +kernel, rfl, by decide +kernel, by decide +kernel⟩
theorem ok_law (F : F_law K f fd) (T : Txt K mg CS CR CU) (hrS : ∀ H, SqT K H rS (iV (t012.map Int.ofNat))) (c_boxL : Cal P w K mg base "_law_box" 1 P_boxL (sp_boxL K)) (c_takeL : Cal P w K mg base "_law_take" 1 P_takeL (sp_takeL K)) (c_looseL : Cal P w K mg base "_law_loose" 6 P_looseL (sp_looseL K))
    (c_homingL : Cal P w K mg base "_law_homing" 3 P_homingL (sp_homingL K)) (c_walkL : Cal P w K mg base "_law_walk" 3 P_walkL (sp_walkL K)) (c_stateL : Cal P w K mg base "_law_state" 5 P_stateL (sp_stateL K CS)) (c_swappedL : Cal P w K mg base "_law_swapped" 1 P_swappedL (sp_swappedL K))
    (c_cutL : Cal P w K mg base "_law_cut" 9 P_cutL (sp_cutL K CS)) (c_partsL : Cal P w K mg base "_law_parts" 8 P_partsL (sp_partsL K)) (c_one_by_oneL : Cal P w K mg base "_law_one_by_one" 8 P_one_by_oneL (sp_one_by_oneL K)) (c_settle_d : CalD P w K mg base "settle" 6 P_settle [.ref rS] (sp_settle K CS))
    (c_state_isL : Cal P w K mg base "_law_state_is" 4 P_state_isL (sp_state_isL K CS)) : FnOk P w K mg base CX0 10 f fd P_law (sp_law K) := by
  refine FunD.ok F sc_law (fun vs H Q E h => ?_) (fun cdv A outer s H vs Q E hr h => ?_)
  · obtain ⟨a, ns, rfl, _⟩ := h
    rfl
  · obtain ⟨scr, ns, rfl, h1, k⟩ := h
    have nd := sc_law.nd
    refine ⟨_, PSs.nox ((pss_cons (ps_set (i := 1) nd rfl (Or.inl rfl) (pe_cal c_boxL (hr.mono (by decide)) (pa_cons (pv 0) pa_nil)))
  (pss_cons (ps_set (i := 2) nd rfl (Or.inl rfl) pe_int)
  (pss_cons (ps_if (pt_cmpR op_eq (pe_cal c_takeL (hr.mono (by decide)) (pa_cons (pv 1) (pa_cons pe_int pa_nil))) pe_int (nomark _))
    (pss_one (ps_set (i := 2) nd rfl (Or.inl rfl) pe_int))
    pss_nil)
  (pss_cons (ps_set (i := 3) nd rfl (Or.inl rfl) (pe_cal c_looseL (hr.mono (by decide)) (pa_cons (pv 1) (pa_cons (pv 2) pa_nil))))
  (pss_cons (ps_set (i := 4) nd rfl (Or.inl rfl) (pe_ix (k_ixL (K := K)) (pe_cal c_homingL (hr.mono (by decide)) (pa_cons (pv 3) (pa_cons (pe_lst (pa_cons pe_int (pa_cons pe_int (pa_cons pe_int pa_nil)))) (pa_cons (pe_lst pa_nil) pa_nil)))) pe_int (fun _ _ => rfl)))
  (pss_cons (ps_set (i := 5) nd rfl (Or.inl rfl) (pe_cal c_walkL (hr.mono (by decide)) (pa_cons (pv 1) (pa_cons (pv 3) (pa_cons (pe_lst (pa_cons pe_int (pa_cons pe_int (pa_cons pe_int pa_nil)))) (pa_cons (pe_cal c_takeL (hr.mono (by decide)) (pa_cons (pv 1) (pa_cons pe_int pa_nil))) pa_nil))))))
  (pss_cons (ps_set (i := 6) nd rfl (Or.inl rfl) (pe_ix (k_ixL (K := K)) (pv 5) pe_int (fun _ _ => rfl)))
  (pss_cons (ps_set (i := 7) nd rfl (Or.inl rfl) (pe_cal c_stateL (hr.mono (by decide)) (pa_cons (pv 3) pa_nil)))
  (pss_cons (ps_set (i := 8) nd rfl (Or.inl rfl) (pe_lst (pa_cons pe_int (pa_cons (pe_callB (k_len (K := K)) (by rfl) T.len bt_len (pa_cons (pv 6) pa_nil)) (pa_cons (pe_cal c_takeL (hr.mono (by decide)) (pa_cons (pv 1) (pa_cons (pe_op op_add (pe_callB (k_len (K := K)) (by rfl) T.len bt_len (pa_cons (pv 6) pa_nil)) pe_int) pa_nil))) pa_nil)))))
  (pss_cons (ps_set (i := 9) nd rfl (Or.inl rfl) (pe_lst pa_nil))
  (pss_cons (ps_for PassesOwn.never rfl (ki_list (K := K) (pv 8)) (pg_name (i := 10) nd rfl (Or.inl rfl))
    (pss_cons (ps_setLc (i := 11) (own := [("_law_order_here", 16)]) (g := gName 16) rfl nd rfl rfl (sw_true rfl rfl rfl (by decide +kernel)) (ki_list (K := K) (pv 3)) (blkOk_by (own := [("_law_order_here", 16)]) (N := N_law) (sc := defScope s_law) (by decide +kernel)) (fun _ _ _ _ _ => pg_name (i := 16) nd rfl (Or.inl rfl)) (fun _ _ _ _ _ => pts_nil) (fun _ _ _ _ _ => (pe_callTy (k_list (K := K)) (by rfl) T.list bt_list (pa_cons (pv 16) pa_nil))))
  (pss_cons (ps_for PassesOwn.never rfl (ki_list (K := K) (pe_slice (k_slL (K := K)) (pv 6) po_none (po_some (pv 10)))) (pg_name (i := 12) nd rfl (Or.inl rfl))
    (pss_one (ps_set (i := 11) nd rfl (Or.inl rfl) (pe_cal c_swappedL (hr.mono (by decide)) (pa_cons (pv 11) (pa_cons (pe_ix (k_ixT (K := K)) (pv 12) pe_int (fun _ _ => rfl)) (pa_cons (pe_ix (k_ixT (K := K)) (pv 12) pe_int (fun _ _ => rfl)) pa_nil)))))))
  (pss_one (ps_expr (k_bm (K := K) PySem.F.plainAttrs_list PySem.F.slot_list_append PySem.F.type_list_append mt_append (pv 9) (pa_cons (pv 11) pa_nil)))))))
  (pss_cons (ps_for PassesOwn.never rfl (pi_range1 (by rfl) T.range (pa_cons pe_int pa_nil)) (pg_name (i := 13) nd rfl (Or.inl rfl))
    (pss_one (ps_if (pt_not (pt_val (pe_cal c_cutL (hr.mono (by decide)) (pa_cons (pv 7) (pa_cons (pe_slice (k_slL (K := K)) (pv 6) po_none (po_some (pe_ix (k_ixL (K := K)) (pv 8) (pv 13) (fun _ _ => rfl)))) (pa_cons (pe_ix (k_ixL (K := K)) (pv 9) (pv 13) (fun _ _ => rfl)) (pa_cons (pv 4) pa_nil)))))))
    (pss_one (ps_ret pe_bl))
    pss_nil)))
  (pss_cons (ps_if (PW.pt (pw_or (pt_not (pt_val (pe_cal c_partsL (hr.mono (by decide)) (pa_cons (pv 1) (pa_cons (pe_ix (k_ixL (K := K)) (pv 9) pe_int (fun _ _ => rfl)) (pa_cons (pv 4) pa_nil)))))) (pw_or1 (pt_not (pt_val (pe_cal c_partsL (hr.mono (by decide)) (pa_cons (pv 1) (pa_cons (pe_ix (k_ixL (K := K)) (pv 9) pe_int (fun _ _ => rfl)) (pa_cons (pv 4) pa_nil)))))))))
    (pss_one (ps_ret pe_bl))
    pss_nil)
  (pss_cons (ps_if (pt_not (pt_val (pe_cal c_one_by_oneL (hr.mono (by decide)) (pa_cons (pv 1) (pa_cons (pe_ix (k_ixL (K := K)) (pv 9) (pe_cal c_takeL (hr.mono (by decide)) (pa_cons (pv 1) (pa_cons pe_int pa_nil))) (fun _ _ => rfl)) (pa_cons (pv 4) pa_nil))))))
    (pss_one (ps_ret pe_bl))
    pss_nil)
  (pss_cons (ps_set (i := 14) nd rfl (Or.inl rfl) (pe_cal c_stateL (hr.mono (by decide)) (pa_cons (pe_ix (k_ixL (K := K)) (pv 9) pe_int (fun _ _ => rfl)) pa_nil)))
  (pss_cons (ps_set (i := 15) nd rfl (Or.inl rfl) (pe_cal c_stateL (hr.mono (by decide)) (pa_cons (pe_ix (k_ixL (K := K)) (pv 9) pe_int (fun _ _ => rfl)) pa_nil)))
  (pss_cons (ps_if (PW.pt (pw_or (pt_not (pt_val (pe_cal c_state_isL (hr.mono (by decide)) (pa_cons (pe_calD c_settle_d (hr.mono (by decide)) (pa_cons (pv 15) pa_nil)) (pa_cons (pv 4) pa_nil))))) (pw_or1 (pt_not (pt_val (pe_cal c_state_isL (hr.mono (by decide)) (pa_cons (pe_calD c_settle_d (hr.mono (by decide)) (pa_cons (pv 14) pa_nil)) (pa_cons (pv 4) pa_nil))))))))
    (pss_one (ps_ret pe_bl))
    pss_nil)
  (pss_one (ps_ret (pe_and (pe_cal c_state_isL (hr.mono (by decide)) (pa_cons (pv 15) (pa_cons (pe_ix (k_ixL (K := K)) (pv 9) pe_int (fun _ _ => rfl)) pa_nil))) (pe_and (pe_cal c_state_isL (hr.mono (by decide)) (pa_cons (pv 14) (pa_cons (pe_ix (k_ixL (K := K)) (pv 9) pe_int (fun _ _ => rfl)) pa_nil))) (pe_one (pe_cal c_state_isL (hr.mono (by decide)) (pa_cons (pv 7) (pa_cons (pv 3) pa_nil)))))))))))))))))))))))))), ?_⟩
    refine ⟨_, rfl, scr, ns, rfl, h1, fun H1 b c s1 bx1 => ?_⟩
    refine ⟨_, rfl, b, c, 16, rfl, bx1, by decide, by decide, fun H2 v0 mv2 hv0 => ⟨rfl, _, rfl, ?_⟩⟩
    by_cases e : V.int (v0 : Int) = V.int 15
    · refine iteDT e ?_
      obtain ⟨m, hm, hm6⟩ : ∃ m : Nat, m = 10 ∧ (m = 6 ∨ m = 10) := ⟨10, rfl, .inr rfl⟩
      have em : (V.int 10) = V.int ((m : Nat) : Int) := by rw [hm]; rfl
      show tSeq _ _ _ [some (.ref scr), some (.ref b), some (V.int 10), none, none, none, none, none, none, none, none, none, none, none, none, none, none] H2
      rw [em]
      refine ⟨_, rfl, _, rfl, b, c, m, rfl, mv2.bx, hm6, fun H3 ls L mv3 hls ok => ?_⟩
      refine ⟨_, rfl, by show 3 ≤ sizeLine; decide, fun r hr0 => ?_⟩
      have sr := Same.new (o := .lst [.int 0, .int 1, .int 2]) hr0
      refine ⟨by show 0 ≤ sizeLine; decide, fun wi hwi => ?_⟩
      have swi := Same.new (o := .lst []) hwi
      refine ⟨ls, r, wi, L, [0, 1, 2], rfl, (hls.mono sr).mono swi, ok, Same.seq swi (three_list hr0), by decide, by decide, SqL.of upd_same, fun H4 hp hm S0 Z s4 hhp hhm hz => ?_⟩
      refine ⟨hp, _, _, _, rfl, rfl, SqL.of hhp, atI_nat (j := 0) rfl, ?_⟩
      have s34 := (sr.trans swi).trans s4
      have mv4 := mv3.same s34
      have hls4 := hls.mono s34
      generalize upd (upd H3 r (.lst [.int 0, .int 1, .int 2])) wi (.lst []) = HX at *
      refine ⟨_, rfl, _, rfl, by show 3 ≤ sizeLine; decide, fun r2 hr2 => ?_⟩
      have sr2 := Same.new (o := .lst [.int 0, .int 1, .int 2]) hr2
      have mv5 := mv4.same sr2
      refine ⟨_, rfl, b, c, 21, rfl, mv5.bx, by decide, by decide, fun H6 v mv6 hv => ?_⟩
      have ob46 := sr2.ob.trans mv6.ob
      refine ⟨b, c, ls, r2, v, L, [0, 1, 2], rfl, mv6.bx, ob46.lls hls4, ok, mv6.ob.sq (three_list hr2) (nb_ints _), by decide, by decide, by omega, fun H7 wp D0 sl ss mv7 hwp hD0 htl path hlen => ?_⟩
      have ob47 := ob46.trans mv7.ob
      refine ⟨_, rfl, wp, _, _, _, rfl, rfl, SqL.of hwp, atI_nat (j := 1) rfl, ?_⟩
      refine ⟨_, rfl, ls, L, rfl, ob47.lls hls4, ok, fun H8 a s8 sa => ?_⟩
      have mv8 := mv7.same s8
      have ob48 := ob47.trans s8.ob
      have tl8 := htl.mono s8
      obtain ⟨ts8, hts8, tlen, tat8⟩ := tl8.ex
      refine ⟨_, rfl, sl, _, rfl, .inl hts8, ?_⟩
      refine ⟨_, rfl, _, rfl, sl, _, rfl, .inl hts8, _, _, rfl, rfl, ?_⟩
      rw [List.length_map, tlen]
      refine ⟨b, c, ss.length + 1, rfl, mv8.bx, by omega, by omega, fun H9 t mv9 ht => ⟨by show 3 ≤ sizeLine; decide, fun Cu hCu => ?_⟩⟩
      have ob89 := mv9.ob
      obtain ⟨cu, hcu⟩ : ∃ cu : Nat → Nat, cu = QD.tri 0 ss.length t := ⟨_, rfl⟩
      have cle : ∀ j, j < 3 → cu j ≤ ss.length := fun j hj => by
        rw [hcu]
        match j, hj with
        | 0, _ => exact Nat.zero_le _
        | 1, _ => exact Nat.le_refl _
        | 2, _ => exact Nat.le_of_lt_succ ht
      have eCu : ([.int 0, .int (ss.length : Nat), .int (t : Nat)] : List V) = iV [(cu 0 : Int), (cu 1 : Int), (cu 2 : Int)] := by rw [hcu]; rfl
      rw [eCu]
      have sCu := Same.new (o := .lst (iV [(cu 0 : Int), (cu 1 : Int), (cu 2 : Int)])) hCu
      have cu9 : upd H9 Cu (.lst (iV [(cu 0 : Int), (cu 1 : Int), (cu 2 : Int)])) Cu = some (.lst (iV [(cu 0 : Int), (cu 1 : Int), (cu 2 : Int)])) := upd_same
      have bxC : Box K (upd H9 Cu (.lst (iV [(cu 0 : Int), (cu 1 : Int), (cu 2 : Int)]))) b c := mv9.bx.mono sCu
      generalize upd H9 Cu (.lst (iV [(cu 0 : Int), (cu 1 : Int), (cu 2 : Int)])) = HC at *
      have obC := ob89.trans sCu.ob
      have lsC := (ob48.trans obC).lls hls4
      have hmC := (ob48.trans obC).lls hhm
      have tlC := obC.tls tl8
      have saC := obC.st sa
      obtain ⟨ts, hts, tslen, tat⟩ := tlC.ex
      refine ⟨by show 0 ≤ sizeLine; decide, fun En hEn => ?_⟩
      have sEn := Same.new (o := .lst []) hEn
      obtain ⟨A, hA, hAw, hAi⟩ := lsC.at_
      obtain ⟨X, hX⟩ : ∃ X : Nat → QD.LS, X = fun j => QD.runS L (ss.take (cu j)) := ⟨_, rfl⟩
      refine ⟨_, rfl, Cu, rfl, ⟨_, SqL.of (sEn _ _ cu9)⟩, for_it (walk_list (K := K) (a := Cu) (xs := iV [(cu 0 : Int), (cu 1 : Int), (cu 2 : Int)])) (fun i σ H => ∃ v10 v11 v12, σ = [some (.ref scr), some (.ref b), some (.int m), some (.ref ls), some (.ref hm), some (.ref wp), some (.ref sl), some (.ref a), some (.ref Cu), some (.ref En), v10, v11, v12, none, none, none, none] ∧ Same HC H ∧ EndAt H En X i)
        ⟨none, none, none, rfl, sEn, fun _ => En, upd_same, fun j h => by omega⟩ (fun i σ H _ ⟨_, _, _, _, s, _⟩ => SqL.of (s _ _ cu9)) ?_ ?_⟩
      · rintro i x0 σ H10 H11 hi ⟨v10, v11, v12, rfl, s10, ea⟩ ⟨rfl, e2⟩
        have hi3 : i < 3 := hi
        have e2' : x0 = .int (cu i : Nat) := by
          match i, hi3, e2 with
          | 0, _, e2 => exact (Option.some.inj e2).symm
          | 1, _, e2 => exact (Option.some.inj e2).symm
          | 2, _, e2 => exact (Option.some.inj e2).symm
        subst e2'
        refine ⟨_, rfl, ls, rfl, ⟨_, Same.seq s10 hA⟩, fun Dn hDn => ?_⟩
        refine lc_list (K := K) (a := ls) (fun i H2 => PvC H11 Dn (lO L) i H2) (PvC.zero hDn) (fun i H2 _ q => Same.seq (s10.trans q.s) hA) (fun i x H2 hx q => ?_) fun H12 q => ?_
        · obtain ⟨hi, rfl⟩ := three_of hx
          exact ⟨rfl, _, rfl, A i, _, rfl, .inl (Same.seq (s10.trans q.s) (hAw i hi)), fun l hl => q.step hDn hl hi⟩
        obtain ⟨B0, fl0⟩ := q.done hDn
        obtain ⟨Bx, hEnx, _⟩ := ea.ex
        have rl0 := RLs.of fl0 hEnx
        have s12 := s10.trans q.s
        refine ⟨_, rfl, _, rfl, _, rfl, sl, _, rfl, Same.seq s12 hts, ?_⟩
        rw [cutR (by rw [tslen]; exact cle i hi3)]
        intro q2 hq2
        have sq2 := Same.new (o := .lst ((ts.take (cu i)).map V.ref)) hq2
        have s13 := s12.trans sq2
        refine ⟨q2, rfl, ⟨_, SqL.of upd_same⟩, ?_⟩
        have q2h : upd H12 q2 (.lst ((ts.take (cu i)).map V.ref)) q2 = some (.lst ((ts.take (cu i)).map V.ref)) := upd_same
        have ea13 := (ea.mono q.s).mono sq2
        have rl13 := rl0.mono sq2
        generalize upd H12 q2 (.lst ((ts.take (cu i)).map V.ref)) = H13 at *
        refine for_it (walk_list (K := K) (a := q2) (xs := (ts.take (cu i)).map V.ref)) (fun j σ H => ∃ D v12, σ = [some (.ref scr), some (.ref b), some (.int m), some (.ref ls), some (.ref hm), some (.ref wp), some (.ref sl), some (.ref a), some (.ref Cu), some (.ref En), some (.int (cu i : Nat)), some (.ref D), v12, none, none, none, none] ∧ Same H13 H ∧ RLs H En D (QD.runS L (ss.take j)))
          ⟨Dn, v12, rfl, .refl _, rl13⟩ (fun j σ H _ ⟨_, _, _, s, _⟩ => SqL.of (s _ _ q2h)) ?_ ?_
        · rintro j x1 σ H14 H15 hj ⟨D, v12, rfl, s14, rl⟩ ⟨rfl, e3⟩
          have e3 : ((ts.take (cu i)).map V.ref)[j]? = some x1 := e3
          rw [List.length_map, List.length_take] at hj
          have hj1 : j < ts.length := by omega
          rw [List.getElem?_map, List.getElem?_take, if_pos (by omega), List.getElem?_eq_getElem hj1] at e3
          cases e3
          have hq : ss[j]? = some (ss[j]'(by omega)) := List.getElem?_eq_getElem (by omega)
          have htj := (s13.trans s14) _ _ (tat j _ _ (List.getElem?_eq_getElem hj1) hq)
          have val := path.at_ hq
          obtain ⟨A1, r1, r2, r3, r4⟩ := rl.ex
          have hEn15 : ∃ o, H15 En = some o := by
            obtain ⟨B3, z, _⟩ := (ea13.mono s14).ex
            exact ⟨_, z⟩
          obtain ⟨oE, hoE⟩ := hEn15
          refine ⟨_, rfl, _, rfl, ts[j], _, _, _, rfl, rfl, SqT.of htj, atI_nat (j := 0) rfl, _, rfl, ts[j], _, _, _, rfl, rfl, SqT.of htj, atI_nat (j := 1) rfl, D, QD.runS L (ss.take j), (ss[j]'(by omega)).1, (ss[j]'(by omega)).2, rfl, rl.lls, val.w, val.i, fun H16 D2 B2 s16 fl2 => ?_⟩
          refine ⟨D2, _, rfl, s14.trans s16, ?_⟩
          rw [take_succ_at hq, QD.runS_snoc]
          exact RLs.of fl2 hoE
        · rintro σ H14 ⟨D, v12, rfl, s14, rl⟩
          rw [List.length_map, List.length_take, Nat.min_eq_left (by rw [tslen]; exact cle i hi3)] at rl
          have rl : RLs H14 En D (X i) := by rw [hX]; exact rl
          obtain ⟨acc, g1, g2, g3⟩ := (ea13.mono s14).app rl
          refine ⟨_, rfl, .inl ⟨rfl, _, SqL.of g1⟩, _, rfl, En, acc, _, rfl, rfl, g1, sz12' (by omega), ?_⟩
          exact ⟨_, _, _, rfl, Same.put (s13.trans s14) hEn, g3⟩
      rintro σ H10 ⟨v10, v11, v12, rfl, s10, ea⟩
      obtain ⟨B, hEnB, hB⟩ := ea.ex
      have env0 : EnvL K b c CS ls hm sl a Cu En B L Z ss cu H10 := ⟨bxC.mono s10, lsC.mono s10, hmC.mono s10, tlC.mono s10, saC.mono s10, SqL.of (s10 _ _ cu9), SqL.of hEnB, fun j hj => by
        have z := (hB j hj).lls (K := K)
        rw [hX] at z
        exact z⟩
      refine ⟨3, rfl, by decide, by decide, ?_⟩
      refine for_range (lo := 0) (n := 3) (fun i σ H => ∃ v10 v11 v12 v13, σ = [some (.ref scr), some (.ref b), some (.int m), some (.ref ls), some (.ref hm), some (.ref wp), some (.ref sl), some (.ref a), some (.ref Cu), some (.ref En), v10, v11, v12, v13, none, none, none] ∧ EnvL K b c CS ls hm sl a Cu En B L Z ss cu H)
        ⟨_, _, _, none, rfl, env0⟩ ?_ ?_
      · rintro i σ H11 hi ⟨v10, v11, v12, v13, rfl, ev⟩
        have e0 : (0 + (i : Int)) = i := Int.zero_add _
        rw [e0]
        obtain ⟨ts2, hts2, tlen2, tat2⟩ := ev.sl.ex
        have ecu : atI (iV [(cu 0 : Int), (cu 1 : Int), (cu 2 : Int)]) (i : Int) = some (.int (cu i : Nat)) := atI_nat (by
          match i, hi with
          | 0, _ => rfl
          | 1, _ => rfl
          | 2, _ => rfl)
        refine ⟨_, rfl, _, rfl, _, rfl, _, rfl, Cu, _, _, _, rfl, rfl, ev.cus, ecu, _, rfl, sl, _, rfl, hts2, ?_⟩
        rw [cutR (by rw [tlen2]; exact cle i hi)]
        intro q2 hq2
        have sq2 := Same.new (o := .lst ((ts2.take (cu i)).map V.ref)) hq2
        have ev2 := ev.same sq2
        have tq : TLs K (upd H11 q2 (.lst ((ts2.take (cu i)).map V.ref))) q2 (ss.take (cu i)) := tls_take (SqL.of upd_same) tlen2 fun i t q e1 e2 => sq2 _ _ (tat2 i t q e1 e2)
        generalize upd H11 q2 (.lst ((ts2.take (cu i)).map V.ref)) = H12 at *
        refine ⟨_, rfl, _, rfl, En, _, _, _, rfl, rfl, ev2.en, three_at hi, _, rfl, a, q2, B i, hm, L, Z, ss.take (cu i), rfl, ev2.sa, tq, path.take _, ?_, ev2.at_ i hi, ev2.hm, hz, fun H13 s13 => ⟨_, rfl, iteF ?_⟩⟩
        · rw [List.length_take]
          omega
        · exact ⟨_, _, _, _, rfl, ev2.same s13⟩
      rintro σ H11 ⟨v10, v11, v12, v13, rfl, ev⟩
      have stJ : ∀ j, QD.Stay L (QD.runS L (ss.take (cu j))) := fun j => (path.take _).stay ok
      refine ⟨_, rfl, _, rfl, En, _, _, _, rfl, rfl, ev.en, three_at (w := 1) (by decide), _, rfl, b, c, B 1, hm, L, _, Z, rfl, ev.bx, ev.at_ 1 (by decide), ev.hm, ok, stJ 1, hz, fun H12 mv12 => ⟨_, rfl, iteF ?_⟩⟩
      have ev12 := ev.mv mv12
      refine ⟨_, rfl, _, rfl, En, _, _, _, rfl, rfl, ev12.en, three_at (w := 2) (by decide), _, rfl, b, c, B 2, hm, L, _, Z, rfl, ev12.bx, ev12.at_ 2 (by decide), ev12.hm, ok, stJ 2, hz, fun H13 mv13 => ⟨_, rfl, iteF ?_⟩⟩
      have ev13 := ev12.mv mv13
      refine ⟨_, rfl, _, rfl, _, rfl, b, c, 3, rfl, ev13.bx, by decide, by decide, fun H14 u mv14 hu => ?_⟩
      have ev14 := ev13.mv mv14
      refine ⟨En, _, _, _, rfl, rfl, ev14.en, three_at hu, _, rfl, b, c, B u, hm, L, _, Z, rfl, ev14.bx, ev14.at_ u hu, ev14.hm, ok, stJ u, hz, fun H15 mv15 => ⟨_, rfl, iteF ?_⟩⟩
      have ev15 := ev14.mv mv15
      refine ⟨_, rfl, En, _, _, _, rfl, rfl, ev15.en, three_at (w := 1) (by decide), B 1, _, rfl, ev15.at_ 1 (by decide), (stJ 1).ok, fun H16 f1 s16 sf1 => ?_⟩
      have ev16 := ev15.same s16
      refine ⟨_, rfl, En, _, _, _, rfl, rfl, ev16.en, three_at (w := 2) (by decide), B 2, _, rfl, ev16.at_ 2 (by decide), (stJ 2).ok, fun H17 f2 s17 sf2 => ?_⟩
      have ev17 := ev16.same s17
      have sf1 := sf1.mono s17
      refine ⟨_, rfl, f2, rS, _, t012, rfl, sf2, .inr (hrS _), by decide, fun H18 g1 M1 s18 sg1 sm1 => ?_⟩
      have ev18 := ev17.same s18
      refine ⟨_, rfl, g1, hm, M1, Z, rfl, sg1, ev18.hm, QD.SetTo.all ok (stJ 2) hz sm1, fun H19 s19 => ⟨_, rfl, iteF ?_⟩⟩
      have ev19 := ev18.same s19
      refine ⟨_, rfl, f1, rS, _, t012, rfl, (sf1.mono s18).mono s19, .inr (hrS _), by decide, fun H20 g2 M2 s20 sg2 sm2 => ?_⟩
      have ev20 := ev19.same s20
      refine ⟨_, rfl, g2, hm, M2, Z, rfl, sg2, ev20.hm, QD.SetTo.all ok (stJ 1) hz sm2, fun H21 s21 => ⟨_, rfl, iteF ?_⟩⟩
      have ev21 := ev20.same s21
      have s1721 := ((s18.trans s19).trans s20).trans s21
      refine ⟨_, rfl, _, rfl, En, _, _, _, rfl, rfl, ev21.en, three_at (w := 2) (by decide), f2, B 2, _, _, rfl, sf2.mono s1721, ev21.at_ 2 (by decide), fun _ _ => rfl, fun H22 s22 => ⟨_, rfl, iteT ?_⟩⟩
      have ev22 := ev21.same s22
      refine ⟨_, rfl, _, rfl, En, _, _, _, rfl, rfl, ev22.en, three_at (w := 1) (by decide), f1, B 1, _, _, rfl, (sf1.mono s1721).mono s22, ev22.at_ 1 (by decide), fun _ _ => rfl, fun H23 s23 => ⟨_, rfl, iteT ?_⟩⟩
      have ev23 := ev22.same s23
      exact ⟨_, rfl, _, rfl, a, ls, L, L, rfl, ev23.sa, ev23.ls, fun _ _ => rfl, fun H24 s24 => k _⟩
    · refine iteDF e ?_
      obtain ⟨m, hm, hm6⟩ : ∃ m : Nat, m = 6 ∧ (m = 6 ∨ m = 10) := ⟨6, rfl, .inl rfl⟩
      have em : (V.int 6) = V.int ((m : Nat) : Int) := by rw [hm]; rfl
      show tSeq _ _ _ [some (.ref scr), some (.ref b), some (V.int 6), none, none, none, none, none, none, none, none, none, none, none, none, none, none] H2
      rw [em]
      refine ⟨_, rfl, _, rfl, b, c, m, rfl, mv2.bx, hm6, fun H3 ls L mv3 hls ok => ?_⟩
      refine ⟨_, rfl, by show 3 ≤ sizeLine; decide, fun r hr0 => ?_⟩
      have sr := Same.new (o := .lst [.int 0, .int 1, .int 2]) hr0
      refine ⟨by show 0 ≤ sizeLine; decide, fun wi hwi => ?_⟩
      have swi := Same.new (o := .lst []) hwi
      refine ⟨ls, r, wi, L, [0, 1, 2], rfl, (hls.mono sr).mono swi, ok, Same.seq swi (three_list hr0), by decide, by decide, SqL.of upd_same, fun H4 hp hm S0 Z s4 hhp hhm hz => ?_⟩
      refine ⟨hp, _, _, _, rfl, rfl, SqL.of hhp, atI_nat (j := 0) rfl, ?_⟩
      have s34 := (sr.trans swi).trans s4
      have mv4 := mv3.same s34
      have hls4 := hls.mono s34
      generalize upd (upd H3 r (.lst [.int 0, .int 1, .int 2])) wi (.lst []) = HX at *
      refine ⟨_, rfl, _, rfl, by show 3 ≤ sizeLine; decide, fun r2 hr2 => ?_⟩
      have sr2 := Same.new (o := .lst [.int 0, .int 1, .int 2]) hr2
      have mv5 := mv4.same sr2
      refine ⟨_, rfl, b, c, 21, rfl, mv5.bx, by decide, by decide, fun H6 v mv6 hv => ?_⟩
      have ob46 := sr2.ob.trans mv6.ob
      refine ⟨b, c, ls, r2, v, L, [0, 1, 2], rfl, mv6.bx, ob46.lls hls4, ok, mv6.ob.sq (three_list hr2) (nb_ints _), by decide, by decide, by omega, fun H7 wp D0 sl ss mv7 hwp hD0 htl path hlen => ?_⟩
      have ob47 := ob46.trans mv7.ob
      refine ⟨_, rfl, wp, _, _, _, rfl, rfl, SqL.of hwp, atI_nat (j := 1) rfl, ?_⟩
      refine ⟨_, rfl, ls, L, rfl, ob47.lls hls4, ok, fun H8 a s8 sa => ?_⟩
      have mv8 := mv7.same s8
      have ob48 := ob47.trans s8.ob
      have tl8 := htl.mono s8
      obtain ⟨ts8, hts8, tlen, tat8⟩ := tl8.ex
      refine ⟨_, rfl, sl, _, rfl, .inl hts8, ?_⟩
      refine ⟨_, rfl, _, rfl, sl, _, rfl, .inl hts8, _, _, rfl, rfl, ?_⟩
      rw [List.length_map, tlen]
      refine ⟨b, c, ss.length + 1, rfl, mv8.bx, by omega, by omega, fun H9 t mv9 ht => ⟨by show 3 ≤ sizeLine; decide, fun Cu hCu => ?_⟩⟩
      have ob89 := mv9.ob
      obtain ⟨cu, hcu⟩ : ∃ cu : Nat → Nat, cu = QD.tri 0 ss.length t := ⟨_, rfl⟩
      have cle : ∀ j, j < 3 → cu j ≤ ss.length := fun j hj => by
        rw [hcu]
        match j, hj with
        | 0, _ => exact Nat.zero_le _
        | 1, _ => exact Nat.le_refl _
        | 2, _ => exact Nat.le_of_lt_succ ht
      have eCu : ([.int 0, .int (ss.length : Nat), .int (t : Nat)] : List V) = iV [(cu 0 : Int), (cu 1 : Int), (cu 2 : Int)] := by rw [hcu]; rfl
      rw [eCu]
      have sCu := Same.new (o := .lst (iV [(cu 0 : Int), (cu 1 : Int), (cu 2 : Int)])) hCu
      have cu9 : upd H9 Cu (.lst (iV [(cu 0 : Int), (cu 1 : Int), (cu 2 : Int)])) Cu = some (.lst (iV [(cu 0 : Int), (cu 1 : Int), (cu 2 : Int)])) := upd_same
      have bxC : Box K (upd H9 Cu (.lst (iV [(cu 0 : Int), (cu 1 : Int), (cu 2 : Int)]))) b c := mv9.bx.mono sCu
      generalize upd H9 Cu (.lst (iV [(cu 0 : Int), (cu 1 : Int), (cu 2 : Int)])) = HC at *
      have obC := ob89.trans sCu.ob
      have lsC := (ob48.trans obC).lls hls4
      have hmC := (ob48.trans obC).lls hhm
      have tlC := obC.tls tl8
      have saC := obC.st sa
      obtain ⟨ts, hts, tslen, tat⟩ := tlC.ex
      refine ⟨by show 0 ≤ sizeLine; decide, fun En hEn => ?_⟩
      have sEn := Same.new (o := .lst []) hEn
      obtain ⟨A, hA, hAw, hAi⟩ := lsC.at_
      obtain ⟨X, hX⟩ : ∃ X : Nat → QD.LS, X = fun j => QD.runS L (ss.take (cu j)) := ⟨_, rfl⟩
      refine ⟨_, rfl, Cu, rfl, ⟨_, SqL.of (sEn _ _ cu9)⟩, for_it (walk_list (K := K) (a := Cu) (xs := iV [(cu 0 : Int), (cu 1 : Int), (cu 2 : Int)])) (fun i σ H => ∃ v10 v11 v12, σ = [some (.ref scr), some (.ref b), some (.int m), some (.ref ls), some (.ref hm), some (.ref wp), some (.ref sl), some (.ref a), some (.ref Cu), some (.ref En), v10, v11, v12, none, none, none, none] ∧ Same HC H ∧ EndAt H En X i)
        ⟨none, none, none, rfl, sEn, fun _ => En, upd_same, fun j h => by omega⟩ (fun i σ H _ ⟨_, _, _, _, s, _⟩ => SqL.of (s _ _ cu9)) ?_ ?_⟩
      · rintro i x0 σ H10 H11 hi ⟨v10, v11, v12, rfl, s10, ea⟩ ⟨rfl, e2⟩
        have hi3 : i < 3 := hi
        have e2' : x0 = .int (cu i : Nat) := by
          match i, hi3, e2 with
          | 0, _, e2 => exact (Option.some.inj e2).symm
          | 1, _, e2 => exact (Option.some.inj e2).symm
          | 2, _, e2 => exact (Option.some.inj e2).symm
        subst e2'
        refine ⟨_, rfl, ls, rfl, ⟨_, Same.seq s10 hA⟩, fun Dn hDn => ?_⟩
        refine lc_list (K := K) (a := ls) (fun i H2 => PvC H11 Dn (lO L) i H2) (PvC.zero hDn) (fun i H2 _ q => Same.seq (s10.trans q.s) hA) (fun i x H2 hx q => ?_) fun H12 q => ?_
        · obtain ⟨hi, rfl⟩ := three_of hx
          exact ⟨rfl, _, rfl, A i, _, rfl, .inl (Same.seq (s10.trans q.s) (hAw i hi)), fun l hl => q.step hDn hl hi⟩
        obtain ⟨B0, fl0⟩ := q.done hDn
        obtain ⟨Bx, hEnx, _⟩ := ea.ex
        have rl0 := RLs.of fl0 hEnx
        have s12 := s10.trans q.s
        refine ⟨_, rfl, _, rfl, _, rfl, sl, _, rfl, Same.seq s12 hts, ?_⟩
        rw [cutR (by rw [tslen]; exact cle i hi3)]
        intro q2 hq2
        have sq2 := Same.new (o := .lst ((ts.take (cu i)).map V.ref)) hq2
        have s13 := s12.trans sq2
        refine ⟨q2, rfl, ⟨_, SqL.of upd_same⟩, ?_⟩
        have q2h : upd H12 q2 (.lst ((ts.take (cu i)).map V.ref)) q2 = some (.lst ((ts.take (cu i)).map V.ref)) := upd_same
        have ea13 := (ea.mono q.s).mono sq2
        have rl13 := rl0.mono sq2
        generalize upd H12 q2 (.lst ((ts.take (cu i)).map V.ref)) = H13 at *
        refine for_it (walk_list (K := K) (a := q2) (xs := (ts.take (cu i)).map V.ref)) (fun j σ H => ∃ D v12, σ = [some (.ref scr), some (.ref b), some (.int m), some (.ref ls), some (.ref hm), some (.ref wp), some (.ref sl), some (.ref a), some (.ref Cu), some (.ref En), some (.int (cu i : Nat)), some (.ref D), v12, none, none, none, none] ∧ Same H13 H ∧ RLs H En D (QD.runS L (ss.take j)))
          ⟨Dn, v12, rfl, .refl _, rl13⟩ (fun j σ H _ ⟨_, _, _, s, _⟩ => SqL.of (s _ _ q2h)) ?_ ?_
        · rintro j x1 σ H14 H15 hj ⟨D, v12, rfl, s14, rl⟩ ⟨rfl, e3⟩
          have e3 : ((ts.take (cu i)).map V.ref)[j]? = some x1 := e3
          rw [List.length_map, List.length_take] at hj
          have hj1 : j < ts.length := by omega
          rw [List.getElem?_map, List.getElem?_take, if_pos (by omega), List.getElem?_eq_getElem hj1] at e3
          cases e3
          have hq : ss[j]? = some (ss[j]'(by omega)) := List.getElem?_eq_getElem (by omega)
          have htj := (s13.trans s14) _ _ (tat j _ _ (List.getElem?_eq_getElem hj1) hq)
          have val := path.at_ hq
          obtain ⟨A1, r1, r2, r3, r4⟩ := rl.ex
          have hEn15 : ∃ o, H15 En = some o := by
            obtain ⟨B3, z, _⟩ := (ea13.mono s14).ex
            exact ⟨_, z⟩
          obtain ⟨oE, hoE⟩ := hEn15
          refine ⟨_, rfl, _, rfl, ts[j], _, _, _, rfl, rfl, SqT.of htj, atI_nat (j := 0) rfl, _, rfl, ts[j], _, _, _, rfl, rfl, SqT.of htj, atI_nat (j := 1) rfl, D, QD.runS L (ss.take j), (ss[j]'(by omega)).1, (ss[j]'(by omega)).2, rfl, rl.lls, val.w, val.i, fun H16 D2 B2 s16 fl2 => ?_⟩
          refine ⟨D2, _, rfl, s14.trans s16, ?_⟩
          rw [take_succ_at hq, QD.runS_snoc]
          exact RLs.of fl2 hoE
        · rintro σ H14 ⟨D, v12, rfl, s14, rl⟩
          rw [List.length_map, List.length_take, Nat.min_eq_left (by rw [tslen]; exact cle i hi3)] at rl
          have rl : RLs H14 En D (X i) := by rw [hX]; exact rl
          obtain ⟨acc, g1, g2, g3⟩ := (ea13.mono s14).app rl
          refine ⟨_, rfl, .inl ⟨rfl, _, SqL.of g1⟩, _, rfl, En, acc, _, rfl, rfl, g1, sz12' (by omega), ?_⟩
          exact ⟨_, _, _, rfl, Same.put (s13.trans s14) hEn, g3⟩
      rintro σ H10 ⟨v10, v11, v12, rfl, s10, ea⟩
      obtain ⟨B, hEnB, hB⟩ := ea.ex
      have env0 : EnvL K b c CS ls hm sl a Cu En B L Z ss cu H10 := ⟨bxC.mono s10, lsC.mono s10, hmC.mono s10, tlC.mono s10, saC.mono s10, SqL.of (s10 _ _ cu9), SqL.of hEnB, fun j hj => by
        have z := (hB j hj).lls (K := K)
        rw [hX] at z
        exact z⟩
      refine ⟨3, rfl, by decide, by decide, ?_⟩
      refine for_range (lo := 0) (n := 3) (fun i σ H => ∃ v10 v11 v12 v13, σ = [some (.ref scr), some (.ref b), some (.int m), some (.ref ls), some (.ref hm), some (.ref wp), some (.ref sl), some (.ref a), some (.ref Cu), some (.ref En), v10, v11, v12, v13, none, none, none] ∧ EnvL K b c CS ls hm sl a Cu En B L Z ss cu H)
        ⟨_, _, _, none, rfl, env0⟩ ?_ ?_
      · rintro i σ H11 hi ⟨v10, v11, v12, v13, rfl, ev⟩
        have e0 : (0 + (i : Int)) = i := Int.zero_add _
        rw [e0]
        obtain ⟨ts2, hts2, tlen2, tat2⟩ := ev.sl.ex
        have ecu : atI (iV [(cu 0 : Int), (cu 1 : Int), (cu 2 : Int)]) (i : Int) = some (.int (cu i : Nat)) := atI_nat (by
          match i, hi with
          | 0, _ => rfl
          | 1, _ => rfl
          | 2, _ => rfl)
        refine ⟨_, rfl, _, rfl, _, rfl, _, rfl, Cu, _, _, _, rfl, rfl, ev.cus, ecu, _, rfl, sl, _, rfl, hts2, ?_⟩
        rw [cutR (by rw [tlen2]; exact cle i hi)]
        intro q2 hq2
        have sq2 := Same.new (o := .lst ((ts2.take (cu i)).map V.ref)) hq2
        have ev2 := ev.same sq2
        have tq : TLs K (upd H11 q2 (.lst ((ts2.take (cu i)).map V.ref))) q2 (ss.take (cu i)) := tls_take (SqL.of upd_same) tlen2 fun i t q e1 e2 => sq2 _ _ (tat2 i t q e1 e2)
        generalize upd H11 q2 (.lst ((ts2.take (cu i)).map V.ref)) = H12 at *
        refine ⟨_, rfl, _, rfl, En, _, _, _, rfl, rfl, ev2.en, three_at hi, _, rfl, a, q2, B i, hm, L, Z, ss.take (cu i), rfl, ev2.sa, tq, path.take _, ?_, ev2.at_ i hi, ev2.hm, hz, fun H13 s13 => ⟨_, rfl, iteF ?_⟩⟩
        · rw [List.length_take]
          omega
        · exact ⟨_, _, _, _, rfl, ev2.same s13⟩
      rintro σ H11 ⟨v10, v11, v12, v13, rfl, ev⟩
      have stJ : ∀ j, QD.Stay L (QD.runS L (ss.take (cu j))) := fun j => (path.take _).stay ok
      refine ⟨_, rfl, _, rfl, En, _, _, _, rfl, rfl, ev.en, three_at (w := 1) (by decide), _, rfl, b, c, B 1, hm, L, _, Z, rfl, ev.bx, ev.at_ 1 (by decide), ev.hm, ok, stJ 1, hz, fun H12 mv12 => ⟨_, rfl, iteF ?_⟩⟩
      have ev12 := ev.mv mv12
      refine ⟨_, rfl, _, rfl, En, _, _, _, rfl, rfl, ev12.en, three_at (w := 2) (by decide), _, rfl, b, c, B 2, hm, L, _, Z, rfl, ev12.bx, ev12.at_ 2 (by decide), ev12.hm, ok, stJ 2, hz, fun H13 mv13 => ⟨_, rfl, iteF ?_⟩⟩
      have ev13 := ev12.mv mv13
      refine ⟨_, rfl, _, rfl, _, rfl, b, c, 3, rfl, ev13.bx, by decide, by decide, fun H14 u mv14 hu => ?_⟩
      have ev14 := ev13.mv mv14
      refine ⟨En, _, _, _, rfl, rfl, ev14.en, three_at hu, _, rfl, b, c, B u, hm, L, _, Z, rfl, ev14.bx, ev14.at_ u hu, ev14.hm, ok, stJ u, hz, fun H15 mv15 => ⟨_, rfl, iteF ?_⟩⟩
      have ev15 := ev14.mv mv15
      refine ⟨_, rfl, En, _, _, _, rfl, rfl, ev15.en, three_at (w := 1) (by decide), B 1, _, rfl, ev15.at_ 1 (by decide), (stJ 1).ok, fun H16 f1 s16 sf1 => ?_⟩
      have ev16 := ev15.same s16
      refine ⟨_, rfl, En, _, _, _, rfl, rfl, ev16.en, three_at (w := 2) (by decide), B 2, _, rfl, ev16.at_ 2 (by decide), (stJ 2).ok, fun H17 f2 s17 sf2 => ?_⟩
      have ev17 := ev16.same s17
      have sf1 := sf1.mono s17
      refine ⟨_, rfl, f2, rS, _, t012, rfl, sf2, .inr (hrS _), by decide, fun H18 g1 M1 s18 sg1 sm1 => ?_⟩
      have ev18 := ev17.same s18
      refine ⟨_, rfl, g1, hm, M1, Z, rfl, sg1, ev18.hm, QD.SetTo.all ok (stJ 2) hz sm1, fun H19 s19 => ⟨_, rfl, iteF ?_⟩⟩
      have ev19 := ev18.same s19
      refine ⟨_, rfl, f1, rS, _, t012, rfl, (sf1.mono s18).mono s19, .inr (hrS _), by decide, fun H20 g2 M2 s20 sg2 sm2 => ?_⟩
      have ev20 := ev19.same s20
      refine ⟨_, rfl, g2, hm, M2, Z, rfl, sg2, ev20.hm, QD.SetTo.all ok (stJ 1) hz sm2, fun H21 s21 => ⟨_, rfl, iteF ?_⟩⟩
      have ev21 := ev20.same s21
      have s1721 := ((s18.trans s19).trans s20).trans s21
      refine ⟨_, rfl, _, rfl, En, _, _, _, rfl, rfl, ev21.en, three_at (w := 2) (by decide), f2, B 2, _, _, rfl, sf2.mono s1721, ev21.at_ 2 (by decide), fun _ _ => rfl, fun H22 s22 => ⟨_, rfl, iteT ?_⟩⟩
      have ev22 := ev21.same s22
      refine ⟨_, rfl, _, rfl, En, _, _, _, rfl, rfl, ev22.en, three_at (w := 1) (by decide), f1, B 1, _, _, rfl, (sf1.mono s1721).mono s22, ev22.at_ 1 (by decide), fun _ _ => rfl, fun H23 s23 => ⟨_, rfl, iteT ?_⟩⟩
      have ev23 := ev22.same s23
      exact ⟨_, rfl, _, rfl, a, ls, L, L, rfl, ev23.sa, ev23.ls, fun _ _ => rfl, fun H24 s24 => k _⟩
end
end Qd

set_option Elab.async false
set_option linter.all false
set_option maxRecDepth 100000
set_option maxHeartbeats 4000000
/-! The law's helper bound. -/
namespace QD
def shp : Nat → LS
  | 0 => QD.tri [0, 1, 2, 3] [3, 1, 2, 0] [2, 3, 0, 1]
  | 1 => QD.tri [0, 3, 4, 2, 1] [1, 4, 2, 0, 3] [3, 2, 0, 1, 4]
  | 2 => QD.tri [5, 1, 0, 3, 4, 2] [4, 2, 0, 3, 5, 1] [2, 3, 4, 5, 1, 0]
  | 3 => QD.tri [0, 1, 2, 3, 4, 5] [5, 3, 4, 1, 2, 0] [4, 5, 2, 3, 0, 1]
  | 4 => QD.tri [0, 1, 2, 3, 4, 5, 6, 7] [7, 5, 6, 3, 4, 1, 2, 0] [6, 7, 4, 5, 2, 3, 0, 1]
  | _ => fun _ => []
def mny (v : Nat) : Nat := (shp v 0).length
theorem shp_perm {v w : Nat} (hv : v < 5) (hw : w < 3) : (shp v w).Perm ((List.range (mny v)).map Int.ofNat) := by
  match v, hv, w, hw with
  | 0, _, 0, _ => exact List.isPerm_iff.mp (by decide)
  | 0, _, 1, _ => exact List.isPerm_iff.mp (by decide)
  | 0, _, 2, _ => exact List.isPerm_iff.mp (by decide)
  | 1, _, 0, _ => exact List.isPerm_iff.mp (by decide)
  | 1, _, 1, _ => exact List.isPerm_iff.mp (by decide)
  | 1, _, 2, _ => exact List.isPerm_iff.mp (by decide)
  | 2, _, 0, _ => exact List.isPerm_iff.mp (by decide)
  | 2, _, 1, _ => exact List.isPerm_iff.mp (by decide)
  | 2, _, 2, _ => exact List.isPerm_iff.mp (by decide)
  | 3, _, 0, _ => exact List.isPerm_iff.mp (by decide)
  | 3, _, 1, _ => exact List.isPerm_iff.mp (by decide)
  | 3, _, 2, _ => exact List.isPerm_iff.mp (by decide)
  | 4, _, 0, _ => exact List.isPerm_iff.mp (by decide)
  | 4, _, 1, _ => exact List.isPerm_iff.mp (by decide)
  | 4, _, 2, _ => exact List.isPerm_iff.mp (by decide)
theorem shp_lt {v w : Nat} (hv : v < 5) (hw : w < 3) : ∀ k ∈ shp v w, 0 ≤ k ∧ k < (mny v : Int) := fun k hk => by
  have h := (shp_perm hv hw).mem_iff.mp hk
  obtain ⟨j, hj, rfl⟩ := List.mem_map.mp h
  have := List.mem_range.mp hj
  show 0 ≤ (j : Int) ∧ (j : Int) < _
  omega
theorem map_keys {ms : List Int} {n : Nat} (h : n ≤ ms.length) : ((List.range n).map Int.ofNat).map (fun k => ms.getD k.toNat 0) = ms.take n := by
  rw [List.map_map]
  induction n with
  | zero => rfl
  | succ n ih =>
    rw [List.range_succ, List.map_append, ih (by omega)]
    have e := getD_at (l := ms) (i := n) (by omega)
    rw [List.take_succ, e]
    rfl
end QD
namespace Qd
open PySem PySem.Spec PyProof.Rows L2
def tInts : List Int → TA
  | [] => tNil
  | i :: r => tCons (tC (.int i)) (tInts r)
theorem tInts_run : ∀ {l : List Int} {σ : L2.St} {H : Hp} {Q : List V → Hp → Prop}, Q (iV l) H → tInts l σ H Q
  | [], _, _, _, h => h
  | i :: r, σ, H, Q, h => tInts_run (l := r) (Q := fun xs H => Q (.int i :: xs) H) h
def tShp (L : QD.LS) : TE := fun _ H Q => ∀ H' p B, Same H H' → FLs H H' p B L → Q (.ref p) H'
theorem pe_shp {X : Cx} {e : Expr} {l0 l1 l2 : List Int} (h : PE X e (tLst (tCons (tLst (tInts l0)) (tCons (tLst (tInts l1)) (tCons (tLst (tInts l2)) tNil))))) (h0 : l0.length ≤ 100 := by decide) (h1 : l1.length ≤ 100 := by decide) (h2 : l2.length ≤ 100 := by decide) : PE X e (tShp (QD.tri l0 l1 l2)) := by
  refine ⟨fun pins s σ H Q I q => h.run pins s σ H Q I ?_⟩
  refine tInts_run (l := l0) ⟨sz12 (by rw [iV_len]; omega), fun r0 n0 => ?_⟩
  refine tInts_run (l := l1) ⟨sz12 (by rw [iV_len]; omega), fun r1 n1 => ?_⟩
  refine tInts_run (l := l2) ⟨sz12 (by rw [iV_len]; omega), fun r2 n2 => ⟨by show 3 ≤ sizeLine; decide, fun D nD => ?_⟩⟩
  have s0 := Same.new (o := .lst (iV l0)) n0
  have a0 : upd H r0 (.lst (iV l0)) r0 = some (.lst (iV l0)) := upd_same
  generalize upd H r0 (.lst (iV l0)) = H1 at *
  have s1 := Same.new (o := .lst (iV l1)) n1
  have a1 : upd H1 r1 (.lst (iV l1)) r1 = some (.lst (iV l1)) := upd_same
  generalize upd H1 r1 (.lst (iV l1)) = H2 at *
  have s2 := Same.new (o := .lst (iV l2)) n2
  have a2 : upd H2 r2 (.lst (iV l2)) r2 = some (.lst (iV l2)) := upd_same
  generalize upd H2 r2 (.lst (iV l2)) = H3 at *
  have s3 := Same.new (o := .lst [.ref r0, .ref r1, .ref r2]) nD
  have b0 := s2 _ _ (s1 _ _ a0)
  have b1 := s2 _ _ a1
  exact q _ D (QD.tri r0 r1 r2) (((s0.trans s1).trans s2).trans s3) (mkFL (((s0.trans s1).trans s2).free nD) n0 (s0.free n1) ((s0.trans s1).free n2) upd_same (s3 _ _ b0) (s3 _ _ b1) (s3 _ _ a2)
    (ne_of_none b0 nD) (ne_of_none b1 nD) (ne_of_none a2 nD) (ne_of_none a0 n1) (ne_of_none (s1 _ _ a0) n2) (ne_of_none a1 n2))
section
variable {P : Program} {w : World} {K : PySem.W.Frag} {mg : Str → Option Value} {base : Heap} {CS CR CU f : Addr} {fd : FuncData}
abbrev SC_boundL : Scope := ⟨.function, [(".0", .local), ("_law_row", .local), ("_law_keys_here", .cell)], false, false, []⟩
theorem pick_of {m : Nat} (hm : m = 6 ∨ m = 10) : ∃ jx sz : Nat, ((if (8 : Int) < (m : Int) then (8 : Int) else (m : Int)) - 4 = (jx : Int)) ∧ ([.int 1, .int 2, .int 4, .int 4, .int 5] : List V)[jx]? = some (.int (sz : Nat)) ∧ 1 ≤ sz ∧ sz ≤ 5 ∧ ∀ v, v < sz → 4 ≤ QD.mny v ∧ QD.mny v ≤ m := by
  rcases hm with rfl | rfl
  · refine ⟨2, 4, by decide, rfl, by decide, by decide, fun v hv => ?_⟩
    match v, hv with
    | 0, _ => decide
    | 1, _ => decide
    | 2, _ => decide
    | 3, _ => decide
  · refine ⟨4, 5, by decide, rfl, by decide, by decide, fun v hv => ?_⟩
    match v, hv with
    | 0, _ => decide
    | 1, _ => decide
    | 2, _ => decide
    | 3, _ => decide
    | 4, _ => decide
abbrev N_boundL : List Str := ["_law_box_here", "_law_most", "_law_shapes", "_law_shape", "_law_many", "_law_keys_here", "_law_by", "_law_now", "_law_one", "_law_place", "_law_row", "_law_k"]
abbrev P_boundL : List Str := ["_law_box_here", "_law_most"]
theorem sc_boundL : FnScope N_boundL P_boundL (defScope s_boundL) := ⟨rfl, rfl, rfl, by decide +kernel, rfl, by decide +kernel, by decide +kernel⟩
theorem ok_boundL (F : F_boundL K f fd) (T : Txt K mg CS CR CU) (c_takeL : Cal P w K mg base "_law_take" 1 P_takeL (sp_takeL K)) (c_keysL : Cal P w K mg base "_law_keys" 3 P_keysL (sp_keysL K)) : FnOk P w K mg base CX0 4 f fd P_boundL (sp_boundL K) := by
  refine FunD.ok F sc_boundL (fun vs H Q E h => ?_) (fun cdv A outer s H vs Q E hr h => ?_)
  · obtain ⟨b, c, m, rfl, _⟩ := h
    rfl
  · obtain ⟨b, c, m, rfl, hbx, hm, k⟩ := h
    have nd := sc_boundL.nd
    refine ⟨_, PSs.nox ((pss_cons (ps_set (i := 2) nd rfl (Or.inl rfl) (pe_lst (pa_cons (pe_shp (l0 := [0, 1, 2, 3]) (l1 := [3, 1, 2, 0]) (l2 := [2, 3, 0, 1]) (pe_lst (pa_cons (pe_lst (pa_cons pe_int (pa_cons pe_int (pa_cons pe_int (pa_cons pe_int pa_nil))))) (pa_cons (pe_lst (pa_cons pe_int (pa_cons pe_int (pa_cons pe_int (pa_cons pe_int pa_nil))))) (pa_cons (pe_lst (pa_cons pe_int (pa_cons pe_int (pa_cons pe_int (pa_cons pe_int pa_nil))))) pa_nil))))) pa_nil)))
  (pss_cons (ps_expr (k_bm (K := K) PySem.F.plainAttrs_list PySem.F.slot_list_append PySem.F.type_list_append mt_append (pv 2) (pa_cons (pe_shp (l0 := [0, 3, 4, 2, 1]) (l1 := [1, 4, 2, 0, 3]) (l2 := [3, 2, 0, 1, 4]) (pe_lst (pa_cons (pe_lst (pa_cons pe_int (pa_cons pe_int (pa_cons pe_int (pa_cons pe_int (pa_cons pe_int pa_nil)))))) (pa_cons (pe_lst (pa_cons pe_int (pa_cons pe_int (pa_cons pe_int (pa_cons pe_int (pa_cons pe_int pa_nil)))))) (pa_cons (pe_lst (pa_cons pe_int (pa_cons pe_int (pa_cons pe_int (pa_cons pe_int (pa_cons pe_int pa_nil)))))) pa_nil))))) pa_nil)))
  (pss_cons (ps_expr (k_bm (K := K) PySem.F.plainAttrs_list PySem.F.slot_list_append PySem.F.type_list_append mt_append (pv 2) (pa_cons (pe_shp (l0 := [5, 1, 0, 3, 4, 2]) (l1 := [4, 2, 0, 3, 5, 1]) (l2 := [2, 3, 4, 5, 1, 0]) (pe_lst (pa_cons (pe_lst (pa_cons pe_int (pa_cons pe_int (pa_cons pe_int (pa_cons pe_int (pa_cons pe_int (pa_cons pe_int pa_nil))))))) (pa_cons (pe_lst (pa_cons pe_int (pa_cons pe_int (pa_cons pe_int (pa_cons pe_int (pa_cons pe_int (pa_cons pe_int pa_nil))))))) (pa_cons (pe_lst (pa_cons pe_int (pa_cons pe_int (pa_cons pe_int (pa_cons pe_int (pa_cons pe_int (pa_cons pe_int pa_nil))))))) pa_nil))))) pa_nil)))
  (pss_cons (ps_expr (k_bm (K := K) PySem.F.plainAttrs_list PySem.F.slot_list_append PySem.F.type_list_append mt_append (pv 2) (pa_cons (pe_shp (l0 := [0, 1, 2, 3, 4, 5]) (l1 := [5, 3, 4, 1, 2, 0]) (l2 := [4, 5, 2, 3, 0, 1]) (pe_lst (pa_cons (pe_lst (pa_cons pe_int (pa_cons pe_int (pa_cons pe_int (pa_cons pe_int (pa_cons pe_int (pa_cons pe_int pa_nil))))))) (pa_cons (pe_lst (pa_cons pe_int (pa_cons pe_int (pa_cons pe_int (pa_cons pe_int (pa_cons pe_int (pa_cons pe_int pa_nil))))))) (pa_cons (pe_lst (pa_cons pe_int (pa_cons pe_int (pa_cons pe_int (pa_cons pe_int (pa_cons pe_int (pa_cons pe_int pa_nil))))))) pa_nil))))) pa_nil)))
  (pss_cons (ps_expr (k_bm (K := K) PySem.F.plainAttrs_list PySem.F.slot_list_append PySem.F.type_list_append mt_append (pv 2) (pa_cons (pe_shp (l0 := [0, 1, 2, 3, 4, 5, 6, 7]) (l1 := [7, 5, 6, 3, 4, 1, 2, 0]) (l2 := [6, 7, 4, 5, 2, 3, 0, 1]) (pe_lst (pa_cons (pe_lst (pa_cons pe_int (pa_cons pe_int (pa_cons pe_int (pa_cons pe_int (pa_cons pe_int (pa_cons pe_int (pa_cons pe_int (pa_cons pe_int pa_nil))))))))) (pa_cons (pe_lst (pa_cons pe_int (pa_cons pe_int (pa_cons pe_int (pa_cons pe_int (pa_cons pe_int (pa_cons pe_int (pa_cons pe_int (pa_cons pe_int pa_nil))))))))) (pa_cons (pe_lst (pa_cons pe_int (pa_cons pe_int (pa_cons pe_int (pa_cons pe_int (pa_cons pe_int (pa_cons pe_int (pa_cons pe_int (pa_cons pe_int pa_nil))))))))) pa_nil))))) pa_nil)))
  (pss_cons (ps_set (i := 3) nd rfl (Or.inl rfl) (pe_ix (k_ixL (K := K)) (pv 2) (pe_cal c_takeL (hr.mono (by decide)) (pa_cons (pv 0) (pa_cons (pe_ix (k_ixL (K := K)) (pe_lst (pa_cons pe_int (pa_cons pe_int (pa_cons pe_int (pa_cons pe_int (pa_cons pe_int pa_nil)))))) (pe_op op_sub (pe_callB (call_min2 rfl) (by rfl) T.min bt_min (pa_cons (pv 1) (pa_cons pe_int pa_nil))) pe_int) (fun _ _ => rfl)) pa_nil))) (fun _ _ => rfl)))
  (pss_cons (ps_set (i := 4) nd rfl (Or.inl rfl) (pe_callB (k_len (K := K)) (by rfl) T.len bt_len (pa_cons (pe_ix (k_ixL (K := K)) (pv 3) pe_int (fun _ _ => rfl)) pa_nil)))
  (pss_cons (ps_set (i := 5) nd rfl (Or.inr rfl) (pe_cal c_keysL (hr.mono (by decide)) (pa_cons (pv 0) (pa_cons (pe_op op_add (pv 4) (pe_cal c_takeL (hr.mono (by decide)) (pa_cons (pv 0) (pa_cons (pe_callB (call_min2 rfl) (by rfl) T.min bt_min (pa_cons pe_int (pa_cons (pe_op op_add (pe_op op_sub (pv 1) (pv 4)) pe_int) pa_nil))) pa_nil)))) pa_nil))))
  (pss_cons (ps_set (i := 6) nd rfl (Or.inl rfl) (pe_cal c_takeL (hr.mono (by decide)) (pa_cons (pv 0) (pa_cons pe_int pa_nil))))
  (pss_cons (ps_setLc (i := 7) (own := [("_law_row", 10)]) (g := gName 10) rfl nd rfl rfl (sw_true rfl rfl rfl (by decide +kernel)) (ki_list (K := K) (pe_op op_cat (pe_slice (k_slL (K := K)) (pv 3) (po_some (pv 6)) po_none) (pe_slice (k_slL (K := K)) (pv 3) po_none (po_some (pv 6))))) (blkOk_by (own := [("_law_row", 10)]) (N := N_boundL) (sc := defScope s_boundL) (by decide +kernel)) (fun _ _ _ _ _ => pg_name (i := 10) nd rfl (Or.inl rfl)) (fun _ _ _ _ _ => pts_nil) (fun _ _ _ _ _ => (pe_lc (own := [("_law_k", 11)]) (g := gName 11) rfl nd (ki_list (K := K) (pv 10)) (blkOk_by (own := [("_law_k", 11)]) (N := N_boundL) (sc := SC_boundL) (by decide +kernel)) (fun _ _ _ _ _ => pg_name (i := 11) nd rfl (Or.inl rfl)) (fun _ _ _ _ _ => pts_nil) (fun _ _ _ _ _ => (pe_ix (k_ixL (K := K)) (pv 5) (pv 11) (fun _ _ => rfl))))))
  (pss_cons (ps_if (pt_cmpR op_eq (pe_cal c_takeL (hr.mono (by decide)) (pa_cons (pv 0) (pa_cons pe_int pa_nil))) pe_int (nomark _))
    (pss_one (ps_setLc (i := 7) (own := [("_law_row", 10)]) (g := gName 10) rfl nd rfl rfl (sw_true rfl rfl rfl (by decide +kernel)) (ki_list (K := K) (pv 7)) (blkOk_by (own := [("_law_row", 10)]) (N := N_boundL) (sc := defScope s_boundL) (by decide +kernel)) (fun _ _ _ _ _ => pg_name (i := 10) nd rfl (Or.inl rfl)) (fun _ _ _ _ _ => pts_nil) (fun _ _ _ _ _ => (k_rev (K := K) (pv 10)))))
    pss_nil)
  (pss_cons (ps_if (pt_cmpR op_eq (pe_cal c_takeL (hr.mono (by decide)) (pa_cons (pv 0) (pa_cons pe_int pa_nil))) pe_int (nomark _))
    (pss_one (ps_set (i := 7) nd rfl (Or.inl rfl) (pe_lst (pa_cons (pe_ix (k_ixL (K := K)) (pv 7) pe_int (fun _ _ => rfl)) (pa_cons (pe_ix (k_ixL (K := K)) (pv 7) pe_int (fun _ _ => rfl)) (pa_cons (pe_ix (k_ixL (K := K)) (pv 7) pe_int (fun _ _ => rfl)) pa_nil))))))
    pss_nil)
  (pss_cons (ps_for PassesOwn.never rfl (ki_list (K := K) (pe_slice (k_slL (K := K)) (pv 5) (po_some (pv 4)) po_none)) (pg_name (i := 8) nd rfl (Or.inl rfl))
    (pss_cons (ps_set (i := 9) nd rfl (Or.inl rfl) (pe_cal c_takeL (hr.mono (by decide)) (pa_cons (pv 0) (pa_cons (pe_op op_add (pe_callB (k_len (K := K)) (by rfl) T.len bt_len (pa_cons (pe_ix (k_ixL (K := K)) (pv 7) pe_int (fun _ _ => rfl)) pa_nil)) pe_int) pa_nil))))
  (pss_one (ps_for PassesOwn.never rfl (ki_list (K := K) (pv 7)) (pg_name (i := 10) nd rfl (Or.inl rfl))
    (pss_one (ps_expr (k_bm (K := K) PySem.F.plainAttrs_list PySem.F.slot_list_insert PySem.F.type_list_insert mt_insert (pv 10) (pa_cons (pv 9) (pa_cons (pv 8) pa_nil)))))))))
  (pss_one (ps_ret (pv 7))))))))))))))))), ?_⟩
    intro H1 p0 B0 s1 fl0
    refine ⟨by show 1 ≤ sizeLine; decide, fun Sh hSh => ?_⟩
    have e1 : EndAt (upd H1 Sh (.lst [.ref p0])) Sh QD.shp 1 := by
      refine ⟨fun _ => p0, upd_same, fun j hj => ?_⟩
      have sS := Same.new (o := .lst [.ref p0]) hSh
      obtain rfl : j = 0 := by omega
      exact ⟨B0, sS _ _ fl0.d, fun w hw => sS _ _ (fl0.at_ w hw), ne_of_none fl0.d hSh, fun w hw => ne_of_none (fl0.at_ w hw) hSh⟩
    have hS0 : H Sh = none := s1.free hSh
    have t1 : Same H (upd H1 Sh (.lst [.ref p0])) := Same.put s1 hS0
    generalize upd H1 Sh (.lst [.ref p0]) = G1 at *
    obtain ⟨acc1, g1, l1, _⟩ : ∃ acc, G1 Sh = some (.lst acc) ∧ acc.length = 1 ∧ True := by
      obtain ⟨B, z, _⟩ := e1.ex
      exact ⟨_, z, by rw [List.length_map, List.length_range], trivial⟩
    refine ⟨_, rfl, .inl ⟨rfl, _, SqL.of g1⟩, ?_⟩
    intro F1 p1 B1 u1 fl1
    obtain ⟨ac1, k1, q1, e2⟩ := (e1.mono u1).app (RLs.of fl1 g1)
    have t2 := Same.put (o := .lst (ac1 ++ [V.ref p1])) (t1.trans u1) hS0
    refine ⟨Sh, ac1, _, rfl, rfl, k1, sz12' (by omega), ?_⟩
    generalize upd F1 Sh (.lst (ac1 ++ [V.ref p1])) = G2 at *
    obtain ⟨acc2, g2, l2, _⟩ : ∃ acc, G2 Sh = some (.lst acc) ∧ acc.length = 2 ∧ True := by
      obtain ⟨B, z, _⟩ := e2.ex
      exact ⟨_, z, by rw [List.length_map, List.length_range], trivial⟩
    refine ⟨_, rfl, .inl ⟨rfl, _, SqL.of g2⟩, ?_⟩
    intro F2 p2 B2 u2 fl2
    obtain ⟨ac2, k2, q2, e3⟩ := (e2.mono u2).app (RLs.of fl2 g2)
    have t3 := Same.put (o := .lst (ac2 ++ [V.ref p2])) (t2.trans u2) hS0
    refine ⟨Sh, ac2, _, rfl, rfl, k2, sz12' (by omega), ?_⟩
    generalize upd F2 Sh (.lst (ac2 ++ [V.ref p2])) = G3 at *
    obtain ⟨acc3, g3, l3, _⟩ : ∃ acc, G3 Sh = some (.lst acc) ∧ acc.length = 3 ∧ True := by
      obtain ⟨B, z, _⟩ := e3.ex
      exact ⟨_, z, by rw [List.length_map, List.length_range], trivial⟩
    refine ⟨_, rfl, .inl ⟨rfl, _, SqL.of g3⟩, ?_⟩
    intro F3 p3 B3 u3 fl3
    obtain ⟨ac3, k3, q3, e4⟩ := (e3.mono u3).app (RLs.of fl3 g3)
    have t4 := Same.put (o := .lst (ac3 ++ [V.ref p3])) (t3.trans u3) hS0
    refine ⟨Sh, ac3, _, rfl, rfl, k3, sz12' (by omega), ?_⟩
    generalize upd F3 Sh (.lst (ac3 ++ [V.ref p3])) = G4 at *
    obtain ⟨acc4, g4, l4, _⟩ : ∃ acc, G4 Sh = some (.lst acc) ∧ acc.length = 4 ∧ True := by
      obtain ⟨B, z, _⟩ := e4.ex
      exact ⟨_, z, by rw [List.length_map, List.length_range], trivial⟩
    refine ⟨_, rfl, .inl ⟨rfl, _, SqL.of g4⟩, ?_⟩
    intro F4 p4 B4 u4 fl4
    obtain ⟨ac4, k4, q4, e5⟩ := (e4.mono u4).app (RLs.of fl4 g4)
    have t5 := Same.put (o := .lst (ac4 ++ [V.ref p4])) (t4.trans u4) hS0
    refine ⟨Sh, ac4, _, rfl, rfl, k4, sz12' (by omega), ?_⟩
    generalize upd F4 Sh (.lst (ac4 ++ [V.ref p4])) = G5 at *
    obtain ⟨jx, sz, ejx, esz, z1, z5, hfit⟩ := pick_of hm
    refine ⟨_, rfl, _, rfl, by show 5 ≤ sizeLine; decide, fun u hu => ?_⟩
    have su := Same.new (o := .lst [.int 1, .int 2, .int 4, .int 4, .int 5]) hu
    refine ⟨_, rfl, _, _, rfl, _, _, rfl, rfl, u, _, _, _, rfl, rfl, SqL.of upd_same, at_of (j := jx) ejx esz, ?_⟩
    have bx6 := (hbx.mono t5).mono su
    refine ⟨b, c, sz, rfl, bx6, z1, by omega, fun H7 v mv7 hv => ?_⟩
    have e6 := e5.mono su
    have mvA := ((Mv.refl hbx).same (t5.trans su)).trans mv7
    generalize upd G5 u (.lst [.int 1, .int 2, .int 4, .int 4, .int 5]) = G6 at *
    obtain ⟨PB, hPB, hPBj⟩ := e6.ex
    have hv5 : v < 5 := by omega
    have sh7 : H7 Sh = some (.lst ((List.range 5).map fun j => V.ref (PB j))) := mv7.ob.keep _ _ hPB (by rw [refs_at]; exact nb_refs _)
    have ll7 : LLs K H7 (PB v) (QD.shp v) := mv7.ob.lls (hPBj v hv5).lls
    have eat : ((List.range 5).map fun j => V.ref (PB j))[v]? = some (.ref (PB v)) := by
      rw [List.getElem?_map, List.getElem?_range hv5]
      rfl
    refine ⟨Sh, _, _, _, rfl, rfl, SqL.of sh7, atI_nat eat, ?_⟩
    obtain ⟨A, hA, hAw, hAi⟩ := ll7.at_
    refine ⟨_, rfl, PB v, _, _, _, rfl, rfl, hA, atI_nat (j := 0) rfl, A 0, _, rfl, .inl (hAw 0 (by decide)), ?_⟩
    rw [iV_len]
    obtain ⟨mn, hmn⟩ : ∃ mn, mn = QD.mny v := ⟨_, rfl⟩
    obtain ⟨f4, fm⟩ := hfit v hv
    have emn : (QD.shp v 0).length = mn := hmn.symm
    rw [emn]
    rw [← hmn] at f4 fm
    have m10 : m ≤ 10 := by omega
    refine ⟨_, rfl, _, rfl, _, rfl, _, rfl, _, rfl, _, _, rfl, rfl, _, _, rfl, rfl, _, _, rfl, ?_⟩
    obtain ⟨s2, es2, g1', g2'⟩ : ∃ s2 : Nat, (if ((m : Int) - (mn : Int) + 1) < (3 : Int) then ((m : Int) - (mn : Int) + 1) else (3 : Int)) = (s2 : Int) ∧ 1 ≤ s2 ∧ mn + s2 ≤ m + 1 := by
      by_cases q : ((m : Int) - (mn : Int) + 1) < (3 : Int)
      · exact ⟨m - mn + 1, by rw [if_pos q]; omega, by omega, by omega⟩
      · exact ⟨3, by rw [if_neg q]; rfl, by omega, by omega⟩
    refine ⟨b, c, s2, by show [V.ref b, V.int _] = _; rw [es2], mvA.bx, g1', by omega, fun H8 x mv8 hx => ⟨_, _, rfl, rfl, ?_⟩⟩
    refine ⟨b, c, mn + x, rfl, mv8.bx, by omega, fun H9 kp ms mv9 nkp hkp kok klen => ?_⟩
    refine ⟨_, rfl, b, c, 3, rfl, mv9.bx, by decide, by decide, fun HA y mvx hy => ?_⟩
    have mvB := ((mvA.trans mv8).trans mv9).trans mvx
    have obB := (mv8.ob.trans mv9.ob).trans mvx.ob
    have hkpA := mvx.ob.keep _ _ hkp (nb_ints _)
    obtain ⟨A, hA, hAw, hAi⟩ := (obB.lls ll7).at_
    obtain ⟨rest, hrest⟩ : ∃ rest, rest = ms.drop mn := ⟨_, rfl⟩
    have lrest : rest.length = x := by rw [hrest, List.length_drop]; omega
    have ecut : cutV (iV ms) (some (mn : Int)) none = iV rest := by rw [hrest]; exact cutF (k := mn) rfl (by omega)
    obtain ⟨A', hA'⟩ : ∃ A' : Nat → Addr, A' = fun w => A ((y + w) % 3) := ⟨_, rfl⟩
    have erot : cutV ([.ref (A 0), .ref (A 1), .ref (A 2)] : List V) (some (y : Int)) none ++ cutV ([.ref (A 0), .ref (A 1), .ref (A 2)] : List V) none (some (y : Int)) = [.ref (A' 0), .ref (A' 1), .ref (A' 2)] := by
      rw [cut_from (by show y ≤ 3; omega), cut_to (by show y ≤ 3; omega), hA']
      match y, hy with
      | 0, _ => rfl
      | 1, _ => rfl
      | 2, _ => rfl
    have m3 : ∀ w, (y + w) % 3 < 3 := fun w => Nat.mod_lt _ (by decide)
    have hA'w : ∀ w, w < 3 → SqI K HA (A' w) (QD.shp v ((y + w) % 3)) := fun w hw => by rw [hA']; exact hAw _ (m3 w)
    obtain ⟨Mx, hMx⟩ : ∃ Mx : QD.LS, Mx = fun w => (QD.shp v ((y + w) % 3)).map fun k => ms.getD k.toNat 0 := ⟨_, rfl⟩
    have gpx : ∀ w, w < 3 → (Mx w).Perm (ms.take mn) := fun w hw => by
      rw [hMx, ← QD.map_keys (ms := ms) (n := mn) (by omega), hmn]
      exact (QD.shp_perm hv5 (m3 w)).map _
    refine ⟨_, rfl, _, rfl, _, rfl, PB v, _, rfl, hA, fun u1 w1 => ?_⟩
    have a1 := Same.new (o := .lst (cutV ([.ref (A 0), .ref (A 1), .ref (A 2)] : List V) (some (y : Int)) none)) w1
    have b1 : upd HA u1 (.lst (cutV ([.ref (A 0), .ref (A 1), .ref (A 2)] : List V) (some (y : Int)) none)) u1 = some (.lst (cutV ([.ref (A 0), .ref (A 1), .ref (A 2)] : List V) (some (y : Int)) none)) := upd_same
    generalize upd HA u1 (.lst (cutV ([.ref (A 0), .ref (A 1), .ref (A 2)] : List V) (some (y : Int)) none)) = I1 at *
    refine ⟨_, rfl, _, rfl, _, rfl, PB v, _, rfl, Same.seq a1 hA, fun u2 w2 => ?_⟩
    have a2 := Same.new (o := .lst (cutV ([.ref (A 0), .ref (A 1), .ref (A 2)] : List V) none (some (y : Int)))) w2
    have b2 : upd I1 u2 (.lst (cutV ([.ref (A 0), .ref (A 1), .ref (A 2)] : List V) none (some (y : Int)))) u2 = some (.lst (cutV ([.ref (A 0), .ref (A 1), .ref (A 2)] : List V) none (some (y : Int)))) := upd_same
    generalize upd I1 u2 (.lst (cutV ([.ref (A 0), .ref (A 1), .ref (A 2)] : List V) none (some (y : Int)))) = I2 at *
    have lrot : (cutV ([.ref (A 0), .ref (A 1), .ref (A 2)] : List V) (some (y : Int)) none).length + (cutV ([.ref (A 0), .ref (A 1), .ref (A 2)] : List V) none (some (y : Int))).length ≤ 4096 := by
      rw [← List.length_append, erot]
      show 3 ≤ 4096
      decide
    refine ⟨u1, u2, _, _, rfl, rfl, a2 _ _ b1, b2, sz12 lrot, fun u3 w3 => ?_⟩
    rw [erot]
    have a3 := Same.new (o := .lst [.ref (A' 0), .ref (A' 1), .ref (A' 2)]) w3
    have b3 : upd I2 u3 (.lst [.ref (A' 0), .ref (A' 1), .ref (A' 2)]) u3 = some (.lst [.ref (A' 0), .ref (A' 1), .ref (A' 2)]) := upd_same
    generalize upd I2 u3 (.lst [.ref (A' 0), .ref (A' 1), .ref (A' 2)]) = I3 at *
    have sI := (a1.trans a2).trans a3
    have hkp3 := sI _ _ hkpA
    refine ⟨u3, rfl, ⟨_, SqL.of b3⟩, fun D1 nD1 => ?_⟩
    refine lc_list (K := K) (a := u3) (fun i H2 => PvC I3 D1 (lO Mx) i H2) (PvC.zero nD1) (fun i H2 _ q => SqL.of (q.s _ _ b3)) (fun i x0 H2 hx0 q => ?_) fun H2 q => ?_
    · obtain ⟨hi, rfl⟩ := three_of hx0
      have row := Same.seq (sI.trans q.s) (hA'w i hi)
      refine ⟨rfl, _, rfl, A' i, rfl, ⟨_, row⟩, fun l nl => ?_⟩
      refine lc_list (K := K) (a := A' i) (fun j H3 => Same H2 H3 ∧ H3 l = some (.lst (iV (((QD.shp v ((y + i) % 3)).take j).map fun k => ms.getD k.toNat 0)))) ⟨Same.new nl, upd_same⟩ (fun j H3 _ q3 => Same.seq q3.1 row) (fun j x1 H3 hx1 ⟨s3, hl3⟩ => ?_) fun H3 ⟨s3, hl3⟩ => ?_
      · obtain ⟨kk, hkk, rfl⟩ := iV_of hx1
        have kb := QD.shp_lt hv5 (m3 i) kk (List.mem_of_getElem? hkk)
        rw [← hmn] at kb
        have eg := QD.getD_at (l := ms) (i := kk.toNat) (by omega)
        refine ⟨rfl, _, rfl, _, rfl, kp, _, _, _, rfl, rfl, SqL.of ((q.s.trans s3) _ _ hkp3), at_of (j := kk.toNat) (by omega) (iV_at eg), _, hl3, sz12' ?_, Same.put s3 nl, ?_⟩
        · rw [iV_len, List.length_map, List.length_take]
          have l8 : (QD.shp v ((y + i) % 3)).length = mn := by rw [(QD.shp_perm hv5 (m3 i)).length_eq, List.length_map, List.length_range, hmn]
          omega
        · rw [upd_same, take_succ_at hkk, List.map_append]
          show some (HO.lst (_ ++ [_])) = some (HO.lst (List.map V.int (_ ++ [_])))
          rw [List.map_append]
          rfl
      · have e : (iV (QD.shp v ((y + i) % 3))).length = (QD.shp v ((y + i) % 3)).length := iV_len _
        rw [e, List.take_length] at hl3
        have hl4 : H3 l = some (lO Mx i) := by
          rw [hl3, hMx]
        exact q.step' nD1 nl s3 hl4 hi
    obtain ⟨B1x, fl1x⟩ := q.done nD1
    have sD1 := sI.trans q.s
    have gmx : Mv K b c HA H2 := (Mv.refl mvB.bx).same sD1
    have gfx : FLs HA H2 D1 B1x Mx := FOs.since fl1x sI.ob
    clear fl1x q hA'w hMx erot lrot
    refine ⟨_, rfl, b, c, 2, rfl, gmx.bx, by decide, by decide, fun J1 vr mvr hvr => ⟨rfl, _, rfl, ?_⟩⟩
    have gfr := gfx.obm mvr.ob
    have gmr := gmx.trans mvr
    by_cases er : V.int (vr : Int) = V.int 1
    · refine iteDT er ?_
      refine ⟨_, rfl, D1, rfl, ⟨_, SqL.of gfr.d⟩, fun D0 nD0 => ?_⟩
      refine lc_list (K := K) (a := D1) (fun i H2 => PvC J1 D0 (lO fun w => (Mx w).reverse) i H2) (PvC.zero nD0) (fun i H2 _ q => SqL.of (q.s _ _ gfr.d)) (fun i x0 H2 hx0 q => ?_) fun J2 q => ?_
      · obtain ⟨hi, rfl⟩ := three_of hx0
        refine ⟨rfl, _, rfl, B1x i, _, rfl, SqL.of (q.s _ _ (gfr.at_ i hi)), fun l hl => ?_⟩
        have e : (iV (Mx i)).reverse = iV ((fun w => (Mx w).reverse) i) := (List.map_reverse ..).symm
        rw [e]
        exact q.step nD0 hl hi
      obtain ⟨B0, fl0x⟩ := q.done nD0
      have gm0 := gmr.same q.s
      have gf0 : FLs HA J2 D0 B0 (fun w => (Mx w).reverse) := FOs.since fl0x gmr.ob
      have gp0 : ∀ w, w < 3 → ((fun w => (Mx w).reverse) w).Perm (ms.take mn) := fun w hw => (List.reverse_perm _).trans (gpx w hw)
      clear fl0x q
      generalize (fun w => (Mx w).reverse) = M0 at *
      refine ⟨_, rfl, b, c, 2, rfl, gm0.bx, by decide, by decide, fun Hs vs mvs hvs => ⟨rfl, _, rfl, ?_⟩⟩
      have gf1 := gf0.obm mvs.ob
      have gm1 := gm0.trans mvs
      by_cases es : V.int (vs : Int) = V.int 1
      · refine iteDT es ?_
        refine ⟨_, rfl, D0, _, _, _, rfl, rfl, SqL.of gf1.d, three_at (w := 1) (by decide), ?_⟩
        refine ⟨_, rfl, D0, _, _, _, rfl, rfl, SqL.of gf1.d, three_at (w := 0) (by decide), ?_⟩
        refine ⟨_, rfl, D0, _, _, _, rfl, rfl, SqL.of gf1.d, three_at (w := 2) (by decide), by show 3 ≤ sizeLine; decide, fun D nD2 => ?_⟩
        have gf := reFL (i := 1) (j := 0) (k := 2) gf1 gm1.ob nD2 (by decide) (by decide) (by decide) (by decide) (by decide) (by decide)
        have gm := gm1.same (Same.new (o := .lst [.ref (B0 1), .ref (B0 0), .ref (B0 2)]) nD2)
        have gp : ∀ w, w < 3 → (QD.tri (M0 1) (M0 0) (M0 2) w).Perm (ms.take mn) := fun w hw => by
          match w, hw with
          | 0, _ => exact gp0 1 (by decide)
          | 1, _ => exact gp0 0 (by decide)
          | 2, _ => exact gp0 2 (by decide)
        generalize QD.tri (B0 1) (B0 0) (B0 2) = B at *
        generalize QD.tri (M0 1) (M0 0) (M0 2) = M at *
        generalize upd Hs D (.lst [.ref (B0 1), .ref (B0 0), .ref (B0 2)]) = HC at *
        refine ⟨_, rfl, _, rfl, _, rfl, kp, _, rfl, SqL.of (gm.ob.keep _ _ hkpA (nb_ints _)), fun p2 hp2 => ?_⟩
        rw [ecut]
        have sp2 := Same.new (o := .lst (iV rest)) hp2
        have np : ∀ w, w < 3 → B w ≠ p2 := fun w hw => ne_of_none (gf.at_ w hw) hp2
        have st0 : RwAt K b c HA _ D p2 B ms rest mn 0 := ⟨gm.same sp2, upd_same, M, gf.mono sp2, fun w _ h => by omega, fun w hw _ => gp w hw⟩
        refine ⟨p2, rfl, ⟨_, SqL.of upd_same⟩, for_it (walk_list (K := K) (a := p2) (xs := iV rest)) (fun i σ H1 => ∃ v8 v9 v10, σ = [some (.ref b), some (.int (m : Nat)), some (.ref Sh), some (.ref (PB v)), some (.int (mn : Nat)), some (.ref kp), some (.int (y : Nat)), some (.ref D), v8, v9, v10, none] ∧ RwAt K b c HA H1 D p2 B ms rest (mn + i) 0)
          ⟨_, _, _, rfl, st0⟩ (fun i σ H1 _ ⟨_, _, _, _, g⟩ => SqL.of g.p2) ?_ ?_⟩
        · rintro i x0 σ H1 H2 hi ⟨v8, v9, v10, rfl, g⟩ ⟨rfl, e2⟩
          obtain ⟨one, ho, rfl⟩ := iV_of e2
          have hone : ms[mn + i]? = some one := by
            rw [hrest, List.getElem?_drop] at ho
            exact ho
          obtain ⟨M1, fl1, _, gp1⟩ := g.ex
          have hi' : i < rest.length := by rw [iV_len] at hi; exact hi
          have len1 : ∀ w, w < 3 → (M1 w).length = mn + i := fun w hw => by
            rw [(gp1 w hw (Nat.zero_le _)).length_eq, List.length_take]
            omega
          refine ⟨_, rfl, _, rfl, D, _, _, _, rfl, rfl, SqL.of fl1.d, three_at (w := 0) (by decide), B 0, _, rfl, .inl (SqL.of (fl1.at_ 0 (by decide))), _, _, rfl, rfl, ?_⟩
          rw [iV_len, len1 0 (by decide)]
          refine ⟨b, c, mn + i + 1, rfl, g.mv.bx, by omega, by omega, fun H3 pv3 mv3 hv3 => ?_⟩
          have g4 := g.move mv3
          have fl4 := fl1.obm mv3.ob
          refine ⟨_, rfl, D, rfl, ⟨_, SqL.of fl4.d⟩, for_it (walk_list (K := K) (a := D) (xs := [.ref (B 0), .ref (B 1), .ref (B 2)])) (fun j σ H5 => ∃ v10, σ = [some (.ref b), some (.int (m : Nat)), some (.ref Sh), some (.ref (PB v)), some (.int (mn : Nat)), some (.ref kp), some (.int (y : Nat)), some (.ref D), some (.int one), some (.int (pv3 : Nat)), v10, none] ∧ RwAt K b c HA H5 D p2 B ms rest (mn + i) j)
            ⟨v10, rfl, g4⟩ (fun j σ H5 _ ⟨_, _, g5⟩ => by
              obtain ⟨_, fl5, _⟩ := g5.ex
              exact SqL.of fl5.d) ?_ ?_⟩
          · rintro j x1 σ H5 H6 hj ⟨v10, rfl, g5⟩ ⟨rfl, e3⟩
            obtain ⟨hj3, rfl⟩ := three_of e3
            obtain ⟨l, hl, ll, hput⟩ := g5.put mvB.bx hj3 np hone
            refine ⟨_, rfl, .inl ⟨rfl, _, SqL.of hl⟩, _, rfl, _, rfl, B j, _, _, _, rfl, rfl, hl, sz12' (by rw [iV_len]; omega), by omega, by omega, ?_⟩
            rw [Int.toNat_natCast, iV_ins]
            exact ⟨_, rfl, hput pv3⟩
          · rintro σ H5 ⟨v10, rfl, g5⟩
            exact ⟨_, _, _, rfl, g5.full⟩
        · rintro σ H1 ⟨v8, v9, v10, rfl, g⟩
          obtain ⟨M1, fl1, _, gp1⟩ := g.ex
          refine ⟨_, rfl, k _ D M1 (mvB.trans g.mv) fl1.lls (QD.stOk_of kok fun w hw => ?_)⟩
          have z := gp1 w hw (Nat.zero_le _)
          rw [iV_len, List.take_of_length_le (show ms.length ≤ mn + rest.length by omega)] at z
          exact z
      · refine iteDF es ?_
        have gm := gm1
        have gf := gf1
        have gp := gp0
        generalize B0 = B at *
        generalize M0 = M at *
        generalize D0 = D at *
        refine ⟨_, rfl, _, rfl, _, rfl, kp, _, rfl, SqL.of (gm.ob.keep _ _ hkpA (nb_ints _)), fun p2 hp2 => ?_⟩
        rw [ecut]
        have sp2 := Same.new (o := .lst (iV rest)) hp2
        have np : ∀ w, w < 3 → B w ≠ p2 := fun w hw => ne_of_none (gf.at_ w hw) hp2
        have st0 : RwAt K b c HA _ D p2 B ms rest mn 0 := ⟨gm.same sp2, upd_same, M, gf.mono sp2, fun w _ h => by omega, fun w hw _ => gp w hw⟩
        refine ⟨p2, rfl, ⟨_, SqL.of upd_same⟩, for_it (walk_list (K := K) (a := p2) (xs := iV rest)) (fun i σ H1 => ∃ v8 v9 v10, σ = [some (.ref b), some (.int (m : Nat)), some (.ref Sh), some (.ref (PB v)), some (.int (mn : Nat)), some (.ref kp), some (.int (y : Nat)), some (.ref D), v8, v9, v10, none] ∧ RwAt K b c HA H1 D p2 B ms rest (mn + i) 0)
          ⟨_, _, _, rfl, st0⟩ (fun i σ H1 _ ⟨_, _, _, _, g⟩ => SqL.of g.p2) ?_ ?_⟩
        · rintro i x0 σ H1 H2 hi ⟨v8, v9, v10, rfl, g⟩ ⟨rfl, e2⟩
          obtain ⟨one, ho, rfl⟩ := iV_of e2
          have hone : ms[mn + i]? = some one := by
            rw [hrest, List.getElem?_drop] at ho
            exact ho
          obtain ⟨M1, fl1, _, gp1⟩ := g.ex
          have hi' : i < rest.length := by rw [iV_len] at hi; exact hi
          have len1 : ∀ w, w < 3 → (M1 w).length = mn + i := fun w hw => by
            rw [(gp1 w hw (Nat.zero_le _)).length_eq, List.length_take]
            omega
          refine ⟨_, rfl, _, rfl, D, _, _, _, rfl, rfl, SqL.of fl1.d, three_at (w := 0) (by decide), B 0, _, rfl, .inl (SqL.of (fl1.at_ 0 (by decide))), _, _, rfl, rfl, ?_⟩
          rw [iV_len, len1 0 (by decide)]
          refine ⟨b, c, mn + i + 1, rfl, g.mv.bx, by omega, by omega, fun H3 pv3 mv3 hv3 => ?_⟩
          have g4 := g.move mv3
          have fl4 := fl1.obm mv3.ob
          refine ⟨_, rfl, D, rfl, ⟨_, SqL.of fl4.d⟩, for_it (walk_list (K := K) (a := D) (xs := [.ref (B 0), .ref (B 1), .ref (B 2)])) (fun j σ H5 => ∃ v10, σ = [some (.ref b), some (.int (m : Nat)), some (.ref Sh), some (.ref (PB v)), some (.int (mn : Nat)), some (.ref kp), some (.int (y : Nat)), some (.ref D), some (.int one), some (.int (pv3 : Nat)), v10, none] ∧ RwAt K b c HA H5 D p2 B ms rest (mn + i) j)
            ⟨v10, rfl, g4⟩ (fun j σ H5 _ ⟨_, _, g5⟩ => by
              obtain ⟨_, fl5, _⟩ := g5.ex
              exact SqL.of fl5.d) ?_ ?_⟩
          · rintro j x1 σ H5 H6 hj ⟨v10, rfl, g5⟩ ⟨rfl, e3⟩
            obtain ⟨hj3, rfl⟩ := three_of e3
            obtain ⟨l, hl, ll, hput⟩ := g5.put mvB.bx hj3 np hone
            refine ⟨_, rfl, .inl ⟨rfl, _, SqL.of hl⟩, _, rfl, _, rfl, B j, _, _, _, rfl, rfl, hl, sz12' (by rw [iV_len]; omega), by omega, by omega, ?_⟩
            rw [Int.toNat_natCast, iV_ins]
            exact ⟨_, rfl, hput pv3⟩
          · rintro σ H5 ⟨v10, rfl, g5⟩
            exact ⟨_, _, _, rfl, g5.full⟩
        · rintro σ H1 ⟨v8, v9, v10, rfl, g⟩
          obtain ⟨M1, fl1, _, gp1⟩ := g.ex
          refine ⟨_, rfl, k _ D M1 (mvB.trans g.mv) fl1.lls (QD.stOk_of kok fun w hw => ?_)⟩
          have z := gp1 w hw (Nat.zero_le _)
          rw [iV_len, List.take_of_length_le (show ms.length ≤ mn + rest.length by omega)] at z
          exact z
    · refine iteDF er ?_
      have gm0 := gmr
      have gf0 := gfr
      have gp0 := gpx
      generalize B1x = B0 at *
      generalize Mx = M0 at *
      generalize D1 = D0 at *
      refine ⟨_, rfl, b, c, 2, rfl, gm0.bx, by decide, by decide, fun Hs vs mvs hvs => ⟨rfl, _, rfl, ?_⟩⟩
      have gf1 := gf0.obm mvs.ob
      have gm1 := gm0.trans mvs
      by_cases es : V.int (vs : Int) = V.int 1
      · refine iteDT es ?_
        refine ⟨_, rfl, D0, _, _, _, rfl, rfl, SqL.of gf1.d, three_at (w := 1) (by decide), ?_⟩
        refine ⟨_, rfl, D0, _, _, _, rfl, rfl, SqL.of gf1.d, three_at (w := 0) (by decide), ?_⟩
        refine ⟨_, rfl, D0, _, _, _, rfl, rfl, SqL.of gf1.d, three_at (w := 2) (by decide), by show 3 ≤ sizeLine; decide, fun D nD2 => ?_⟩
        have gf := reFL (i := 1) (j := 0) (k := 2) gf1 gm1.ob nD2 (by decide) (by decide) (by decide) (by decide) (by decide) (by decide)
        have gm := gm1.same (Same.new (o := .lst [.ref (B0 1), .ref (B0 0), .ref (B0 2)]) nD2)
        have gp : ∀ w, w < 3 → (QD.tri (M0 1) (M0 0) (M0 2) w).Perm (ms.take mn) := fun w hw => by
          match w, hw with
          | 0, _ => exact gp0 1 (by decide)
          | 1, _ => exact gp0 0 (by decide)
          | 2, _ => exact gp0 2 (by decide)
        generalize QD.tri (B0 1) (B0 0) (B0 2) = B at *
        generalize QD.tri (M0 1) (M0 0) (M0 2) = M at *
        generalize upd Hs D (.lst [.ref (B0 1), .ref (B0 0), .ref (B0 2)]) = HC at *
        refine ⟨_, rfl, _, rfl, _, rfl, kp, _, rfl, SqL.of (gm.ob.keep _ _ hkpA (nb_ints _)), fun p2 hp2 => ?_⟩
        rw [ecut]
        have sp2 := Same.new (o := .lst (iV rest)) hp2
        have np : ∀ w, w < 3 → B w ≠ p2 := fun w hw => ne_of_none (gf.at_ w hw) hp2
        have st0 : RwAt K b c HA _ D p2 B ms rest mn 0 := ⟨gm.same sp2, upd_same, M, gf.mono sp2, fun w _ h => by omega, fun w hw _ => gp w hw⟩
        refine ⟨p2, rfl, ⟨_, SqL.of upd_same⟩, for_it (walk_list (K := K) (a := p2) (xs := iV rest)) (fun i σ H1 => ∃ v8 v9 v10, σ = [some (.ref b), some (.int (m : Nat)), some (.ref Sh), some (.ref (PB v)), some (.int (mn : Nat)), some (.ref kp), some (.int (y : Nat)), some (.ref D), v8, v9, v10, none] ∧ RwAt K b c HA H1 D p2 B ms rest (mn + i) 0)
          ⟨_, _, _, rfl, st0⟩ (fun i σ H1 _ ⟨_, _, _, _, g⟩ => SqL.of g.p2) ?_ ?_⟩
        · rintro i x0 σ H1 H2 hi ⟨v8, v9, v10, rfl, g⟩ ⟨rfl, e2⟩
          obtain ⟨one, ho, rfl⟩ := iV_of e2
          have hone : ms[mn + i]? = some one := by
            rw [hrest, List.getElem?_drop] at ho
            exact ho
          obtain ⟨M1, fl1, _, gp1⟩ := g.ex
          have hi' : i < rest.length := by rw [iV_len] at hi; exact hi
          have len1 : ∀ w, w < 3 → (M1 w).length = mn + i := fun w hw => by
            rw [(gp1 w hw (Nat.zero_le _)).length_eq, List.length_take]
            omega
          refine ⟨_, rfl, _, rfl, D, _, _, _, rfl, rfl, SqL.of fl1.d, three_at (w := 0) (by decide), B 0, _, rfl, .inl (SqL.of (fl1.at_ 0 (by decide))), _, _, rfl, rfl, ?_⟩
          rw [iV_len, len1 0 (by decide)]
          refine ⟨b, c, mn + i + 1, rfl, g.mv.bx, by omega, by omega, fun H3 pv3 mv3 hv3 => ?_⟩
          have g4 := g.move mv3
          have fl4 := fl1.obm mv3.ob
          refine ⟨_, rfl, D, rfl, ⟨_, SqL.of fl4.d⟩, for_it (walk_list (K := K) (a := D) (xs := [.ref (B 0), .ref (B 1), .ref (B 2)])) (fun j σ H5 => ∃ v10, σ = [some (.ref b), some (.int (m : Nat)), some (.ref Sh), some (.ref (PB v)), some (.int (mn : Nat)), some (.ref kp), some (.int (y : Nat)), some (.ref D), some (.int one), some (.int (pv3 : Nat)), v10, none] ∧ RwAt K b c HA H5 D p2 B ms rest (mn + i) j)
            ⟨v10, rfl, g4⟩ (fun j σ H5 _ ⟨_, _, g5⟩ => by
              obtain ⟨_, fl5, _⟩ := g5.ex
              exact SqL.of fl5.d) ?_ ?_⟩
          · rintro j x1 σ H5 H6 hj ⟨v10, rfl, g5⟩ ⟨rfl, e3⟩
            obtain ⟨hj3, rfl⟩ := three_of e3
            obtain ⟨l, hl, ll, hput⟩ := g5.put mvB.bx hj3 np hone
            refine ⟨_, rfl, .inl ⟨rfl, _, SqL.of hl⟩, _, rfl, _, rfl, B j, _, _, _, rfl, rfl, hl, sz12' (by rw [iV_len]; omega), by omega, by omega, ?_⟩
            rw [Int.toNat_natCast, iV_ins]
            exact ⟨_, rfl, hput pv3⟩
          · rintro σ H5 ⟨v10, rfl, g5⟩
            exact ⟨_, _, _, rfl, g5.full⟩
        · rintro σ H1 ⟨v8, v9, v10, rfl, g⟩
          obtain ⟨M1, fl1, _, gp1⟩ := g.ex
          refine ⟨_, rfl, k _ D M1 (mvB.trans g.mv) fl1.lls (QD.stOk_of kok fun w hw => ?_)⟩
          have z := gp1 w hw (Nat.zero_le _)
          rw [iV_len, List.take_of_length_le (show ms.length ≤ mn + rest.length by omega)] at z
          exact z
      · refine iteDF es ?_
        have gm := gm1
        have gf := gf1
        have gp := gp0
        generalize B0 = B at *
        generalize M0 = M at *
        generalize D0 = D at *
        refine ⟨_, rfl, _, rfl, _, rfl, kp, _, rfl, SqL.of (gm.ob.keep _ _ hkpA (nb_ints _)), fun p2 hp2 => ?_⟩
        rw [ecut]
        have sp2 := Same.new (o := .lst (iV rest)) hp2
        have np : ∀ w, w < 3 → B w ≠ p2 := fun w hw => ne_of_none (gf.at_ w hw) hp2
        have st0 : RwAt K b c HA _ D p2 B ms rest mn 0 := ⟨gm.same sp2, upd_same, M, gf.mono sp2, fun w _ h => by omega, fun w hw _ => gp w hw⟩
        refine ⟨p2, rfl, ⟨_, SqL.of upd_same⟩, for_it (walk_list (K := K) (a := p2) (xs := iV rest)) (fun i σ H1 => ∃ v8 v9 v10, σ = [some (.ref b), some (.int (m : Nat)), some (.ref Sh), some (.ref (PB v)), some (.int (mn : Nat)), some (.ref kp), some (.int (y : Nat)), some (.ref D), v8, v9, v10, none] ∧ RwAt K b c HA H1 D p2 B ms rest (mn + i) 0)
          ⟨_, _, _, rfl, st0⟩ (fun i σ H1 _ ⟨_, _, _, _, g⟩ => SqL.of g.p2) ?_ ?_⟩
        · rintro i x0 σ H1 H2 hi ⟨v8, v9, v10, rfl, g⟩ ⟨rfl, e2⟩
          obtain ⟨one, ho, rfl⟩ := iV_of e2
          have hone : ms[mn + i]? = some one := by
            rw [hrest, List.getElem?_drop] at ho
            exact ho
          obtain ⟨M1, fl1, _, gp1⟩ := g.ex
          have hi' : i < rest.length := by rw [iV_len] at hi; exact hi
          have len1 : ∀ w, w < 3 → (M1 w).length = mn + i := fun w hw => by
            rw [(gp1 w hw (Nat.zero_le _)).length_eq, List.length_take]
            omega
          refine ⟨_, rfl, _, rfl, D, _, _, _, rfl, rfl, SqL.of fl1.d, three_at (w := 0) (by decide), B 0, _, rfl, .inl (SqL.of (fl1.at_ 0 (by decide))), _, _, rfl, rfl, ?_⟩
          rw [iV_len, len1 0 (by decide)]
          refine ⟨b, c, mn + i + 1, rfl, g.mv.bx, by omega, by omega, fun H3 pv3 mv3 hv3 => ?_⟩
          have g4 := g.move mv3
          have fl4 := fl1.obm mv3.ob
          refine ⟨_, rfl, D, rfl, ⟨_, SqL.of fl4.d⟩, for_it (walk_list (K := K) (a := D) (xs := [.ref (B 0), .ref (B 1), .ref (B 2)])) (fun j σ H5 => ∃ v10, σ = [some (.ref b), some (.int (m : Nat)), some (.ref Sh), some (.ref (PB v)), some (.int (mn : Nat)), some (.ref kp), some (.int (y : Nat)), some (.ref D), some (.int one), some (.int (pv3 : Nat)), v10, none] ∧ RwAt K b c HA H5 D p2 B ms rest (mn + i) j)
            ⟨v10, rfl, g4⟩ (fun j σ H5 _ ⟨_, _, g5⟩ => by
              obtain ⟨_, fl5, _⟩ := g5.ex
              exact SqL.of fl5.d) ?_ ?_⟩
          · rintro j x1 σ H5 H6 hj ⟨v10, rfl, g5⟩ ⟨rfl, e3⟩
            obtain ⟨hj3, rfl⟩ := three_of e3
            obtain ⟨l, hl, ll, hput⟩ := g5.put mvB.bx hj3 np hone
            refine ⟨_, rfl, .inl ⟨rfl, _, SqL.of hl⟩, _, rfl, _, rfl, B j, _, _, _, rfl, rfl, hl, sz12' (by rw [iV_len]; omega), by omega, by omega, ?_⟩
            rw [Int.toNat_natCast, iV_ins]
            exact ⟨_, rfl, hput pv3⟩
          · rintro σ H5 ⟨v10, rfl, g5⟩
            exact ⟨_, _, _, rfl, g5.full⟩
        · rintro σ H1 ⟨v8, v9, v10, rfl, g⟩
          obtain ⟨M1, fl1, _, gp1⟩ := g.ex
          refine ⟨_, rfl, k _ D M1 (mvB.trans g.mv) fl1.lls (QD.stOk_of kok fun w hw => ?_)⟩
          have z := gp1 w hw (Nat.zero_le _)
          rw [iV_len, List.take_of_length_le (show ms.length ≤ mn + rest.length by omega)] at z
          exact z
end
end Qd

set_option Elab.async false
set_option linter.all false
set_option maxRecDepth 100000
set_option maxHeartbeats 4000000
/-! All promises joined, from the head's facts. -/
namespace Qd
open PySem PySem.Spec PyProof.Rows L2
theorem SaysB.d {fa : List He.Fa} {fn : List He.DefD} {ex : PySem.W.Frag → Bool} {K : PySem.W.Frag} (c : SaysB fa fn ex K) : He.SaysD fa fn K := congrArg (fun z : AlB => z.1) c
theorem SaysB.e {fa : List He.Fa} {fn : List He.DefD} {ex : PySem.W.Frag → Bool} {K : PySem.W.Frag} (c : SaysB fa fn ex K) : ex K = true := congrArg (fun z : AlB => z.2) c
section
variable {P : Program} {w : World} {K : PySem.W.Frag} {mg : Str → Option Value} {base : Heap}
theorem mkCal {x qual : Str} {params : Arguments} {body : List Stmt} {scope : Scope} {f : Addr} {fd : FuncData} {ps : List Str} {sp : Sp} {k : Nat} (F : FunD K x qual params body scope [] [] f fd) (ok : FnOk P w K mg base CX0 k f fd ps sp) (g : mg x = some (.ref f)) (b : Binds K fd ps []) : Cal P w K mg base x k ps sp := ⟨f, fd, ok, g, F.kp, b⟩
theorem cvalB_ok {C : Addr} {f : Str} {v : V} (h : cvalB K C f v = true) : ∃ u, ClX.CVal K C (.type "type") f v u := by
  unfold cvalB at h
  split at h
  · rename_i u e
    exact ⟨u, e, He.relB_ok h⟩
  · cases h
theorem joined {h : Heap} {fa0 : Addr} (X : K.In h) (G : h.Ns mainGlobals mg) (hfa : mg ("law" : Str) = some (.ref fa0)) (c : SaysB fa fn ex0 K) :
    ∃ fd : FuncData, (∀ (s : Shared) (v : Value), BindsTo s fd ⟨[v], []⟩ [("_law_script", v)]) ∧ ∀ base : Heap, K.In base → base.Ns mainGlobals mg → FnOk P w K mg base CX0 10 fa0 fd ["_law_script"] (sp_law K) := by
  have cd := c.d
  have ce := c.e
  unfold ex0 at ce
  obtain ⟨x1, ce⟩ := He.ba ce
  obtain ⟨x2, ce⟩ := He.ba ce
  obtain ⟨x3, ce⟩ := He.ba ce
  obtain ⟨x4, ce⟩ := He.ba ce
  obtain ⟨x5, ce⟩ := He.ba ce
  obtain ⟨x6, ce⟩ := He.ba ce
  obtain ⟨x7, x8⟩ := He.ba ce
  unfold insB at x8
  obtain ⟨y1, x8⟩ := He.ba x8
  obtain ⟨y2, x8⟩ := He.ba x8
  obtain ⟨y3, x8⟩ := He.ba x8
  obtain ⟨y4, y5⟩ := He.ba x8
  obtain ⟨fd_check_replica, F_check_replica⟩ := cd.def_ 0 (d := d_check_replica) rfl
  obtain ⟨fd_check_replicas, F_check_replicas⟩ := cd.def_ 1 (d := d_check_replicas) rfl
  obtain ⟨fd_first_wrong_place, F_first_wrong_place⟩ := cd.def_ 2 (d := d_first_wrong_place) rfl
  obtain ⟨fd_check_list, F_check_list⟩ := cd.def_ 3 (d := d_check_list) rfl
  obtain ⟨fd_index_of, F_index_of⟩ := cd.def_ 4 (d := d_index_of) rfl
  obtain ⟨fd_swap_at, F_swap_at⟩ := cd.def_ 5 (d := d_swap_at) rfl
  obtain ⟨fd_require_key, F_require_key⟩ := cd.def_ 6 (d := d_require_key) rfl
  obtain ⟨fd_wrong_replica, F_wrong_replica⟩ := cd.def_ 7 (d := d_wrong_replica) rfl
  obtain ⟨fd_State_init, F_State_init⟩ := cd.def_ 8 (d := d_State_init) rfl
  obtain ⟨fd_State_list_of, F_State_list_of⟩ := cd.def_ 9 (d := d_State_list_of) rfl
  obtain ⟨fd_State_lists, F_State_lists⟩ := cd.def_ 10 (d := d_State_lists) rfl
  obtain ⟨fd_State_all_keys, F_State_all_keys⟩ := cd.def_ 11 (d := d_State_all_keys) rfl
  obtain ⟨fd_State_says, F_State_says⟩ := cd.def_ 12 (d := d_State_says) rfl
  obtain ⟨fd_State_with_list, F_State_with_list⟩ := cd.def_ 13 (d := d_State_with_list) rfl
  obtain ⟨fd_State_len, F_State_len⟩ := cd.def_ 14 (d := d_State_len) rfl
  obtain ⟨fd_first_wrong_pair, F_first_wrong_pair⟩ := cd.def_ 15 (d := d_first_wrong_pair) rfl
  obtain ⟨fd_Reading_init, F_Reading_init⟩ := cd.def_ 16 (d := d_Reading_init) rfl
  obtain ⟨fd_Reading_pairs, F_Reading_pairs⟩ := cd.def_ 17 (d := d_Reading_pairs) rfl
  obtain ⟨fd_read, F_read⟩ := cd.def_ 18 (d := d_read) rfl
  obtain ⟨fd_before_dict, F_before_dict⟩ := cd.def_ 19 (d := d_before_dict) rfl
  obtain ⟨fd_is_swap, F_is_swap⟩ := cd.def_ 20 (d := d_is_swap) rfl
  obtain ⟨fd_swap_pair, F_swap_pair⟩ := cd.def_ 21 (d := d_swap_pair) rfl
  obtain ⟨fd_is_silent, F_is_silent⟩ := cd.def_ 22 (d := d_is_silent) rfl
  obtain ⟨fd_other_replicas, F_other_replicas⟩ := cd.def_ 23 (d := d_other_replicas) rfl
  obtain ⟨fd_swapped_state, F_swapped_state⟩ := cd.def_ 24 (d := d_swapped_state) rfl
  obtain ⟨fd_Run_init, F_Run_init⟩ := cd.def_ 25 (d := d_Run_init) rfl
  obtain ⟨fd_Run_steps, F_Run_steps⟩ := cd.def_ 26 (d := d_Run_steps) rfl
  obtain ⟨fd_Run_len, F_Run_len⟩ := cd.def_ 27 (d := d_Run_len) rfl
  obtain ⟨fd_state_after, F_state_after⟩ := cd.def_ 28 (d := d_state_after) rfl
  obtain ⟨fd_play, F_play⟩ := cd.def_ 29 (d := d_play) rfl
  obtain ⟨fd_homeward_swaps, F_homeward_swaps⟩ := cd.def_ 30 (d := d_homeward_swaps) rfl
  obtain ⟨fd_homeward, F_homeward⟩ := cd.def_ 31 (d := d_homeward) rfl
  obtain ⟨fd_is_settled, F_is_settled⟩ := cd.def_ 32 (d := d_is_settled) rfl
  obtain ⟨fd_settle_run, F_settle_run⟩ := cd.def_ 33 (d := d_settle_run) rfl
  obtain ⟨fd_home_list, F_home_list⟩ := cd.def_ 34 (d := d_home_list) rfl
  obtain ⟨fd_settle, F_settle⟩ := cd.def_ 35 (d := d_settle) rfl
  obtain ⟨fd_settle_length, F_settle_length⟩ := cd.def_ 36 (d := d_settle_length) rfl
  obtain ⟨fd_boxL, F_boxL⟩ := cd.def_ 37 (d := d_boxL) rfl
  obtain ⟨fd_takeL, F_takeL⟩ := cd.def_ 38 (d := d_takeL) rfl
  obtain ⟨fd_keysL, F_keysL⟩ := cd.def_ 39 (d := d_keysL) rfl
  obtain ⟨fd_orderL, F_orderL⟩ := cd.def_ 40 (d := d_orderL) rfl
  obtain ⟨fd_likeL, F_likeL⟩ := cd.def_ 41 (d := d_likeL) rfl
  obtain ⟨fd_quietL, F_quietL⟩ := cd.def_ 42 (d := d_quietL) rfl
  obtain ⟨fd_swappedL, F_swappedL⟩ := cd.def_ 43 (d := d_swappedL) rfl
  obtain ⟨fd_ableL, F_ableL⟩ := cd.def_ 44 (d := d_ableL) rfl
  obtain ⟨fd_walkL, F_walkL⟩ := cd.def_ 45 (d := d_walkL) rfl
  obtain ⟨fd_countL, F_countL⟩ := cd.def_ 46 (d := d_countL) rfl
  obtain ⟨fd_ringL, F_ringL⟩ := cd.def_ 47 (d := d_ringL) rfl
  obtain ⟨fd_boundL, F_boundL⟩ := cd.def_ 48 (d := d_boundL) rfl
  obtain ⟨fd_listsL, F_listsL⟩ := cd.def_ 49 (d := d_listsL) rfl
  obtain ⟨fd_looseL, F_looseL⟩ := cd.def_ 50 (d := d_looseL) rfl
  obtain ⟨fd_stateL, F_stateL⟩ := cd.def_ 51 (d := d_stateL) rfl
  obtain ⟨fd_votesL, F_votesL⟩ := cd.def_ 52 (d := d_votesL) rfl
  obtain ⟨fd_nearL, F_nearL⟩ := cd.def_ 53 (d := d_nearL) rfl
  obtain ⟨fd_homingL, F_homingL⟩ := cd.def_ 54 (d := d_homingL) rfl
  obtain ⟨fd_apartL, F_apartL⟩ := cd.def_ 55 (d := d_apartL) rfl
  obtain ⟨fd_state_isL, F_state_isL⟩ := cd.def_ 56 (d := d_state_isL) rfl
  obtain ⟨fd_count_apartL, F_count_apartL⟩ := cd.def_ 57 (d := d_count_apartL) rfl
  obtain ⟨fd_handedL, F_handedL⟩ := cd.def_ 58 (d := d_handedL) rfl
  obtain ⟨fd_partsL, F_partsL⟩ := cd.def_ 59 (d := d_partsL) rfl
  obtain ⟨fd_one_by_oneL, F_one_by_oneL⟩ := cd.def_ 60 (d := d_one_by_oneL) rfl
  obtain ⟨fd_cutL, F_cutL⟩ := cd.def_ 61 (d := d_cutL) rfl
  obtain ⟨fd_law, F_law⟩ := cd.def_ 62 (d := d_law) rfl
  have hState := He.cls_ok (cd.fact 52 (f := .cls "State") rfl)
  have T : Txt K mg (He.ga K "State") (He.ga K "Reading") (He.ga K "Run") := {
    cState := hState
    cReading := He.cls_ok (cd.fact 55 (f := .cls "Reading") rfl)
    cRun := He.cls_ok (cd.fact 58 (f := .cls "Run") rfl)
    gState := He.glo_ok X G (cd.fact 51 (f := .glo "State") rfl)
    nLists := He.noat_ok (cd.fact 60 (f := .noat "State" "_lists") rfl)
    nPlaces := He.noat_ok (cd.fact 61 (f := .noat "State" "_places") rfl)
    nKeys := He.noat_ok (cd.fact 62 (f := .noat "Reading" "_keys") rfl)
    nBefore := He.noat_ok (cd.fact 63 (f := .noat "Reading" "_before") rfl)
    nSwaps := He.noat_ok (cd.fact 64 (f := .noat "Run" "_swaps") rfl)
    MAX_KEYS := (He.int_ok X G (cd.fact 74 (f := .int "MAX_KEYS" 12) rfl)).elim fun t e => ⟨_, e, t, rfl⟩
    MAX_KEY := (He.int_ok X G (cd.fact 75 (f := .int "MAX_KEY" 9999) rfl)).elim fun t e => ⟨_, e, t, rfl⟩
    insS := ⟨hState, He.eqO_ok y1, He.eqO_ok y2, of_decide_eq_true y3, of_decide_eq_true y4, of_decide_eq_true y5⟩
    rdS := ⟨x5, He.eqO_ok x6⟩
    reps := cvalB_ok x7
    len := He.free_ok X G (cd.fact 76 (f := .free "len") rfl)
    range := He.free_ok X G (cd.fact 77 (f := .free "range") rfl)
    list := He.free_ok X G (cd.fact 78 (f := .free "list") rfl)
    tuple := He.free_ok X G (cd.fact 79 (f := .free "tuple") rfl)
    sorted := He.free_ok X G (cd.fact 80 (f := .free "sorted") rfl)
    enumerate := He.free_ok X G (cd.fact 81 (f := .free "enumerate") rfl)
    int := He.free_ok X G (cd.fact 82 (f := .free "int") rfl)
    abs := He.free_ok X G (cd.fact 83 (f := .free "abs") rfl)
    min := He.free_ok X G (cd.fact 84 (f := .free "min") rfl)
    max := He.free_ok X G (cd.fact 85 (f := .free "max") rfl)
    sum := He.free_ok X G (cd.fact 86 (f := .free "sum") rfl)
    isinstance := He.free_ok X G (cd.fact 87 (f := .free "isinstance") rfl)
    bool := He.free_ok X G (cd.fact 88 (f := .free "bool") rfl)
    str := He.free_ok X G (cd.fact 89 (f := .free "str") rfl)
  }
  have tS : ∀ H, SqT K H (kwAt ("settle", none) "replicas" K) (iV (t012.map Int.ofNat)) := fun H => tupAt_ok x1 H
  have tL : ∀ H, SqT K H (kwAt ("settle_length", none) "replicas" K) (iV (t012.map Int.ofNat)) := fun H => tupAt_ok x2 H
  have tP : ∀ H, SqT K H (kwAt ("settle_run", none) "picks" K) [] := fun H => tupAt_ok x4 H
  have b_check_replica := FunD.bindsN (ps := P_check_replica) F_check_replica fun _ _ _ _ _ _ us hl => match us, hl with | [_], _ => rfl
  have b_check_replicas := FunD.bindsN (ps := P_check_replicas) F_check_replicas fun _ _ _ _ _ _ us hl => match us, hl with | [_], _ => rfl
  have b_first_wrong_place := FunD.bindsN (ps := P_first_wrong_place) F_first_wrong_place fun _ _ _ _ _ _ us hl => match us, hl with | [_], _ => rfl
  have b_check_list := FunD.bindsN (ps := P_check_list) F_check_list fun _ _ _ _ _ _ us hl => match us, hl with | [_], _ => rfl
  have b_index_of := FunD.bindsN (ps := P_index_of) F_index_of fun _ _ _ _ _ _ us hl => match us, hl with | [_], _ => rfl
  have b_swap_at := FunD.bindsN (ps := P_swap_at) F_swap_at fun _ _ _ _ _ _ us hl => match us, hl with | [_, _], _ => rfl
  have b_require_key := FunD.bindsN (ps := P_require_key) F_require_key fun _ _ _ _ _ _ us hl => match us, hl with | [_, _], _ => rfl
  have b_wrong_replica := FunD.bindsN (ps := P_wrong_replica) F_wrong_replica fun _ _ _ _ _ _ us hl => match us, hl with | [_], _ => rfl
  have b_State_init := FunD.bindsN (ps := P_State_init) F_State_init fun _ _ _ _ _ _ us hl => match us, hl with | [_, _, _, _], _ => rfl
  have b_State_list_of := FunD.bindsN (ps := P_State_list_of) F_State_list_of fun _ _ _ _ _ _ us hl => match us, hl with | [_, _], _ => rfl
  have b_State_lists := FunD.bindsN (ps := P_State_lists) F_State_lists fun _ _ _ _ _ _ us hl => match us, hl with | [_], _ => rfl
  have b_State_all_keys := FunD.bindsN (ps := P_State_all_keys) F_State_all_keys fun _ _ _ _ _ _ us hl => match us, hl with | [_], _ => rfl
  have b_State_says := FunD.bindsN (ps := P_State_says) F_State_says fun _ _ _ _ _ _ us hl => match us, hl with | [_, _, _, _], _ => rfl
  have b_State_with_list := FunD.bindsN (ps := P_State_with_list) F_State_with_list fun _ _ _ _ _ _ us hl => match us, hl with | [_, _, _], _ => rfl
  have b_State_len := FunD.bindsN (ps := P_State_len) F_State_len fun _ _ _ _ _ _ us hl => match us, hl with | [_], _ => rfl
  have b_first_wrong_pair := FunD.bindsN (ps := P_first_wrong_pair) F_first_wrong_pair fun _ _ _ _ _ _ us hl => match us, hl with | [_, _], _ => rfl
  have b_Reading_init := FunD.bindsN (ps := P_Reading_init) F_Reading_init fun _ _ _ _ _ _ us hl => match us, hl with | [_, _, _], _ => rfl
  have b_Reading_pairs := FunD.bindsN (ps := P_Reading_pairs) F_Reading_pairs fun _ _ _ _ _ _ us hl => match us, hl with | [_], _ => rfl
  have b_read := FunD.bindsN (ps := P_read) F_read fun _ _ _ _ _ _ us hl => match us, hl with | [_], _ => rfl
  have b_before_dict := FunD.bindsN (ps := P_before_dict) F_before_dict fun _ _ _ _ _ _ us hl => match us, hl with | [_], _ => rfl
  have b_is_swap := FunD.bindsN (ps := P_is_swap) F_is_swap fun _ _ _ _ _ _ us hl => match us, hl with | [_, _], _ => rfl
  have b_swap_pair := FunD.bindsN (ps := P_swap_pair) F_swap_pair fun _ _ _ _ _ _ us hl => match us, hl with | [_, _], _ => rfl
  have b_is_silent := FunD.bindsN (ps := P_is_silent) F_is_silent fun _ _ _ _ _ _ us hl => match us, hl with | [_, _], _ => rfl
  have b_other_replicas := FunD.bindsN (ps := P_other_replicas) F_other_replicas fun _ _ _ _ _ _ us hl => match us, hl with | [_], _ => rfl
  have b_swapped_state := FunD.bindsN (ps := P_swapped_state) F_swapped_state fun _ _ _ _ _ _ us hl => match us, hl with | [_, _], _ => rfl
  have b_Run_init := FunD.bindsN (ps := P_Run_init) F_Run_init fun _ _ _ _ _ _ us hl => match us, hl with | [_, _], _ => rfl
  have b_Run_steps := FunD.bindsN (ps := P_Run_steps) F_Run_steps fun _ _ _ _ _ _ us hl => match us, hl with | [_], _ => rfl
  have b_Run_len := FunD.bindsN (ps := P_Run_len) F_Run_len fun _ _ _ _ _ _ us hl => match us, hl with | [_], _ => rfl
  have b_state_after := FunD.bindsN (ps := P_state_after) F_state_after fun _ _ _ _ _ _ us hl => match us, hl with | [_, _, _], _ => rfl
  have b_play := FunD.bindsN (ps := P_play) F_play fun _ _ _ _ _ _ us hl => match us, hl with | [_, _], _ => rfl
  have b_homeward_swaps := FunD.bindsN (ps := P_homeward_swaps) F_homeward_swaps fun _ _ _ _ _ _ us hl => match us, hl with | [_, _, _], _ => rfl
  have b_homeward := FunD.bindsN (ps := P_homeward) F_homeward fun _ _ _ _ _ _ us hl => match us, hl with | [_], _ => rfl
  have b_is_settled := FunD.bindsN (ps := P_is_settled) F_is_settled fun _ _ _ _ _ _ us hl => match us, hl with | [_], _ => rfl
  have b_home_list := FunD.bindsN (ps := P_home_list) F_home_list fun _ _ _ _ _ _ us hl => match us, hl with | [_, _], _ => rfl
  have b_boxL := FunD.bindsN (ps := P_boxL) F_boxL fun _ _ _ _ _ _ us hl => match us, hl with | [_], _ => rfl
  have b_takeL := FunD.bindsN (ps := P_takeL) F_takeL fun _ _ _ _ _ _ us hl => match us, hl with | [_, _], _ => rfl
  have b_keysL := FunD.bindsN (ps := P_keysL) F_keysL fun _ _ _ _ _ _ us hl => match us, hl with | [_, _], _ => rfl
  have b_orderL := FunD.bindsN (ps := P_orderL) F_orderL fun _ _ _ _ _ _ us hl => match us, hl with | [_, _], _ => rfl
  have b_likeL := FunD.bindsN (ps := P_likeL) F_likeL fun _ _ _ _ _ _ us hl => match us, hl with | [_, _], _ => rfl
  have b_quietL := FunD.bindsN (ps := P_quietL) F_quietL fun _ _ _ _ _ _ us hl => match us, hl with | [_, _, _], _ => rfl
  have b_swappedL := FunD.bindsN (ps := P_swappedL) F_swappedL fun _ _ _ _ _ _ us hl => match us, hl with | [_, _, _], _ => rfl
  have b_ableL := FunD.bindsN (ps := P_ableL) F_ableL fun _ _ _ _ _ _ us hl => match us, hl with | [_, _], _ => rfl
  have b_walkL := FunD.bindsN (ps := P_walkL) F_walkL fun _ _ _ _ _ _ us hl => match us, hl with | [_, _, _, _], _ => rfl
  have b_countL := FunD.bindsN (ps := P_countL) F_countL fun _ _ _ _ _ _ us hl => match us, hl with | [_, _], _ => rfl
  have b_ringL := FunD.bindsN (ps := P_ringL) F_ringL fun _ _ _ _ _ _ us hl => match us, hl with | [_, _], _ => rfl
  have b_boundL := FunD.bindsN (ps := P_boundL) F_boundL fun _ _ _ _ _ _ us hl => match us, hl with | [_, _], _ => rfl
  have b_listsL := FunD.bindsN (ps := P_listsL) F_listsL fun _ _ _ _ _ _ us hl => match us, hl with | [_, _, _], _ => rfl
  have b_looseL := FunD.bindsN (ps := P_looseL) F_looseL fun _ _ _ _ _ _ us hl => match us, hl with | [_, _], _ => rfl
  have b_stateL := FunD.bindsN (ps := P_stateL) F_stateL fun _ _ _ _ _ _ us hl => match us, hl with | [_], _ => rfl
  have b_votesL := FunD.bindsN (ps := P_votesL) F_votesL fun _ _ _ _ _ _ us hl => match us, hl with | [_, _, _], _ => rfl
  have b_nearL := FunD.bindsN (ps := P_nearL) F_nearL fun _ _ _ _ _ _ us hl => match us, hl with | [_, _], _ => rfl
  have b_homingL := FunD.bindsN (ps := P_homingL) F_homingL fun _ _ _ _ _ _ us hl => match us, hl with | [_, _, _], _ => rfl
  have b_apartL := FunD.bindsN (ps := P_apartL) F_apartL fun _ _ _ _ _ _ us hl => match us, hl with | [_, _, _], _ => rfl
  have b_state_isL := FunD.bindsN (ps := P_state_isL) F_state_isL fun _ _ _ _ _ _ us hl => match us, hl with | [_, _], _ => rfl
  have b_count_apartL := FunD.bindsN (ps := P_count_apartL) F_count_apartL fun _ _ _ _ _ _ us hl => match us, hl with | [_, _], _ => rfl
  have b_handedL := FunD.bindsN (ps := P_handedL) F_handedL fun _ _ _ _ _ _ us hl => match us, hl with | [_, _], _ => rfl
  have b_partsL := FunD.bindsN (ps := P_partsL) F_partsL fun _ _ _ _ _ _ us hl => match us, hl with | [_, _, _], _ => rfl
  have b_one_by_oneL := FunD.bindsN (ps := P_one_by_oneL) F_one_by_oneL fun _ _ _ _ _ _ us hl => match us, hl with | [_, _, _], _ => rfl
  have b_cutL := FunD.bindsN (ps := P_cutL) F_cutL fun _ _ _ _ _ _ us hl => match us, hl with | [_, _, _, _], _ => rfl
  have b_law := FunD.bindsN (ps := P_law) F_law fun _ _ _ _ _ _ us hl => match us, hl with | [_], _ => rfl
  suffices key : ∀ base : Heap, FnOk P w K mg base CX0 10 (He.fAd K d_law.at_) fd_law P_law (sp_law K) by
    have e := hfa.symm.trans (He.glo_ok X G (cd.fact 50 (f := .glo "law") rfl))
    cases e
    have b := FunD.bindsA (ps := ["_law_script"]) F_law fun _ _ _ _ _ _ us hl => match us, hl with | [_], _ => rfl
    exact ⟨fd_law, fun s v => b s [v] rfl, fun base _ _ => key base⟩
  intro base
  have c_check_replica : Cal P w K mg base "check_replica" 1 P_check_replica sp_check_replica := mkCal F_check_replica (ok_check_replica (P := P) (w := w) (base := base) F_check_replica T) (He.glo_ok X G (cd.fact 0 (f := .glo "check_replica") rfl)) b_check_replica
  have c_check_replicas : Cal P w K mg base "check_replicas" 2 P_check_replicas (sp_check_replicas K) := mkCal F_check_replicas (ok_check_replicas (P := P) (w := w) (base := base) F_check_replicas T c_check_replica) (He.glo_ok X G (cd.fact 1 (f := .glo "check_replicas") rfl)) b_check_replicas
  have c_first_wrong_place : Cal P w K mg base "first_wrong_place" 1 P_first_wrong_place (sp_fwp K) := mkCal F_first_wrong_place (ok_first_wrong_place (P := P) (w := w) (base := base) F_first_wrong_place T) (He.glo_ok X G (cd.fact 2 (f := .glo "first_wrong_place") rfl)) b_first_wrong_place
  have c_check_list : Cal P w K mg base "check_list" 2 P_check_list (sp_fwp K) := mkCal F_check_list (ok_check_list (P := P) (w := w) (base := base) F_check_list T c_first_wrong_place) (He.glo_ok X G (cd.fact 3 (f := .glo "check_list") rfl)) b_check_list
  have c_swap_at : Cal P w K mg base "swap_at" 3 P_swap_at (sp_swap_at K) := mkCal F_swap_at (ok_swap_at (P := P) (w := w) (base := base) F_swap_at T c_check_list) (He.glo_ok X G (cd.fact 5 (f := .glo "swap_at") rfl)) b_swap_at
  have c_index_of : Cal P w K mg base "index_of" 1 P_index_of (sp_index_of K) := mkCal F_index_of (ok_index_of (P := P) (w := w) (base := base) F_index_of T) (He.glo_ok X G (cd.fact 4 (f := .glo "index_of") rfl)) b_index_of
  have c_require_key : Cal P w K mg base "require_key" 1 P_require_key (sp_require_key K) := mkCal F_require_key (ok_require_key (P := P) (w := w) (base := base) F_require_key T) (He.glo_ok X G (cd.fact 6 (f := .glo "require_key") rfl)) b_require_key
  have c_wrong_replica : Cal P w K mg base "_wrong_replica" 2 P_wrong_replica (sp_wrong_replica K) := mkCal F_wrong_replica (ok_wrong_replica (P := P) (w := w) (base := base) F_wrong_replica T c_first_wrong_place) (He.glo_ok X G (cd.fact 7 (f := .glo "_wrong_replica") rfl)) b_wrong_replica
  have m_State_lists : Met P w K mg base (He.ga K "State") "lists" 1 P_State_lists (sp_lists K (He.ga K "State")) := ⟨_, _, ok_State_lists (P := P) (w := w) (base := base) F_State_lists T, He.meth_ok (cd.fact 66 (f := .meth "State" "lists") rfl), b_State_lists⟩
  have m_State_list_of : Met P w K mg base (He.ga K "State") "list_of" 2 P_State_list_of (sp_list_of K (He.ga K "State")) := ⟨_, _, ok_State_list_of (P := P) (w := w) (base := base) F_State_list_of T c_check_replica, He.meth_ok (cd.fact 65 (f := .meth "State" "list_of") rfl), b_State_list_of⟩
  have m_State_all_keys : Met P w K mg base (He.ga K "State") "all_keys" 1 P_State_all_keys (sp_all_keys K (He.ga K "State")) := ⟨_, _, ok_State_all_keys (P := P) (w := w) (base := base) F_State_all_keys T, He.meth_ok (cd.fact 67 (f := .meth "State" "all_keys") rfl), b_State_all_keys⟩
  have m_State_says : Met P w K mg base (He.ga K "State") "says" 2 P_State_says (sp_says K (He.ga K "State")) := ⟨_, _, ok_State_says (P := P) (w := w) (base := base) F_State_says T c_check_replica c_require_key, He.meth_ok (cd.fact 68 (f := .meth "State" "says") rfl), b_State_says⟩
  have m_State_len : Met P w K mg base (He.ga K "State") "__len__" 1 P_State_len (sp_len K (He.ga K "State")) := ⟨_, _, ok_State_len (P := P) (w := w) (base := base) F_State_len T, He.meth_ok (cd.fact 70 (f := .meth "State" "__len__") rfl), b_State_len⟩
  have c_State2 : Mak P w K mg base "State" (He.ga K "State") 3 P_State_init (sp_State_init2 K (He.ga K "State")) := ⟨_, _, ok_State_init2 (P := P) (w := w) (base := base) F_State_init T c_wrong_replica c_index_of, He.mkr_ok (cd.fact 53 (f := .mkr "State") rfl), (He.glo_ok X G (cd.fact 51 (f := .glo "State") rfl)), b_State_init⟩
  have c_State : Mak P w K mg base "State" (He.ga K "State") 3 P_State_init (sp_State_init K (He.ga K "State")) := ⟨_, _, ok_State_init (P := P) (w := w) (base := base) F_State_init T c_wrong_replica c_index_of, He.mkr_ok (cd.fact 53 (f := .mkr "State") rfl), (He.glo_ok X G (cd.fact 51 (f := .glo "State") rfl)), b_State_init⟩
  have ok_wl := ok_State_with_list2 (P := P) (w := w) (base := base) F_State_with_list T c_check_replica c_first_wrong_place m_State_all_keys m_State_lists c_State2
  have m_State_with_list2 : Met P w K mg base (He.ga K "State") "with_list" 5 P_State_with_list (sp_with_list2 K (He.ga K "State")) := ⟨_, _, ok_wl, He.meth_ok (cd.fact 69 (f := .meth "State" "with_list") rfl), b_State_with_list⟩
  have m_State_with_list : Met P w K mg base (He.ga K "State") "with_list" 5 P_State_with_list (sp_with_list K (He.ga K "State")) := ⟨_, _, with_list_weak ok_wl, He.meth_ok (cd.fact 69 (f := .meth "State" "with_list") rfl), b_State_with_list⟩
  have c_first_wrong_pair : Cal P w K mg base "_first_wrong_pair" 1 P_first_wrong_pair (sp_fwr K) := mkCal F_first_wrong_pair (ok_first_wrong_pair (P := P) (w := w) (base := base) F_first_wrong_pair T) (He.glo_ok X G (cd.fact 8 (f := .glo "_first_wrong_pair") rfl)) b_first_wrong_pair
  have c_Reading : Mak P w K mg base "Reading" (He.ga K "Reading") 3 P_Reading_init (sp_Reading_init K (He.ga K "Reading")) := ⟨_, _, ok_Reading_init (P := P) (w := w) (base := base) F_Reading_init T c_check_list c_require_key c_first_wrong_pair, He.mkr_ok (cd.fact 56 (f := .mkr "Reading") rfl), (He.glo_ok X G (cd.fact 54 (f := .glo "Reading") rfl)), b_Reading_init⟩
  have m_Reading_pairs : Met P w K mg base (He.ga K "Reading") "pairs" 1 P_Reading_pairs (sp_pairs K (He.ga K "Reading")) := ⟨_, _, ok_Reading_pairs (P := P) (w := w) (base := base) F_Reading_pairs T, He.meth_ok (cd.fact 71 (f := .meth "Reading" "pairs") rfl), b_Reading_pairs⟩
  have c_before_dict : Cal P w K mg base "before_dict" 2 P_before_dict (sp_before_dict (He.ga K "Reading")) := mkCal F_before_dict (ok_before_dict (P := P) (w := w) (base := base) F_before_dict T m_Reading_pairs) (He.glo_ok X G (cd.fact 10 (f := .glo "before_dict") rfl)) b_before_dict
  have c_read : Cal P w K mg base "read" 5 P_read (sp_read K (He.ga K "State") (He.ga K "Reading")) := mkCal F_read (ok_read (P := P) (w := w) (base := base) F_read T m_State_lists c_index_of m_State_all_keys c_Reading) (He.glo_ok X G (cd.fact 9 (f := .glo "read") rfl)) b_read
  have c_is_swap : Cal P w K mg base "is_swap" 3 P_is_swap (sp_is_swap K (He.ga K "State")) := mkCal F_is_swap (ok_is_swap (P := P) (w := w) (base := base) F_is_swap T m_State_len) (He.glo_ok X G (cd.fact 11 (f := .glo "is_swap") rfl)) b_is_swap
  have c_swap_pair : Cal P w K mg base "swap_pair" 4 P_swap_pair (sp_swap_pair K (He.ga K "State")) := mkCal F_swap_pair (ok_swap_pair (P := P) (w := w) (base := base) F_swap_pair T c_is_swap m_State_list_of) (He.glo_ok X G (cd.fact 12 (f := .glo "swap_pair") rfl)) b_swap_pair
  have c_other_replicas : Cal P w K mg base "_other_replicas" 1 P_other_replicas sp_others := mkCal F_other_replicas (ok_other_replicas (P := P) (w := w) (base := base) F_other_replicas T) (He.glo_ok X G (cd.fact 14 (f := .glo "_other_replicas") rfl)) b_other_replicas
  have c_is_silent : Cal P w K mg base "is_silent" 5 P_is_silent (sp_is_silent K (He.ga K "State")) := mkCal F_is_silent (ok_is_silent (P := P) (w := w) (base := base) F_is_silent T c_swap_pair c_other_replicas m_State_says) (He.glo_ok X G (cd.fact 13 (f := .glo "is_silent") rfl)) b_is_silent
  have c_swapped_state : Cal P w K mg base "swapped_state" 6 P_swapped_state (sp_swapped_state K (He.ga K "State")) := mkCal F_swapped_state (ok_swapped_state (P := P) (w := w) (base := base) F_swapped_state T m_State_list_of c_swap_at m_State_with_list) (He.glo_ok X G (cd.fact 15 (f := .glo "swapped_state") rfl)) b_swapped_state
  have c_Run : Mak P w K mg base "Run" (He.ga K "Run") 1 P_Run_init (sp_Run_init K (He.ga K "Run")) := ⟨_, _, ok_Run_init (P := P) (w := w) (base := base) F_Run_init T, He.mkr_ok (cd.fact 59 (f := .mkr "Run") rfl), (He.glo_ok X G (cd.fact 57 (f := .glo "Run") rfl)), b_Run_init⟩
  have m_Run_steps : Met P w K mg base (He.ga K "Run") "steps" 1 P_Run_steps (sp_Run_steps K (He.ga K "Run")) := ⟨_, _, ok_Run_steps (P := P) (w := w) (base := base) F_Run_steps T, He.meth_ok (cd.fact 72 (f := .meth "Run" "steps") rfl), b_Run_steps⟩
  have m_Run_len : Met P w K mg base (He.ga K "Run") "__len__" 1 P_Run_len (sp_Run_len K (He.ga K "Run")) := ⟨_, _, ok_Run_len (P := P) (w := w) (base := base) F_Run_len T, He.meth_ok (cd.fact 73 (f := .meth "Run" "__len__") rfl), b_Run_len⟩
  have c_state_after : Cal P w K mg base "_state_after" 7 P_state_after (sp_state_after K (He.ga K "State")) := mkCal F_state_after (ok_state_after (P := P) (w := w) (base := base) F_state_after T c_is_swap c_is_silent c_swapped_state) (He.glo_ok X G (cd.fact 16 (f := .glo "_state_after") rfl)) b_state_after
  have c_play : Cal P w K mg base "play" 8 P_play (sp_play K (He.ga K "State") (He.ga K "Run")) := mkCal F_play (ok_play (P := P) (w := w) (base := base) F_play T m_Run_steps c_state_after) (He.glo_ok X G (cd.fact 17 (f := .glo "play") rfl)) b_play
  have c_homeward_swaps : Cal P w K mg base "_homeward_swaps" 1 P_homeward_swaps (sp_hws K) := mkCal F_homeward_swaps (ok_homeward_swaps (P := P) (w := w) (base := base) F_homeward_swaps T) (He.glo_ok X G (cd.fact 18 (f := .glo "_homeward_swaps") rfl)) b_homeward_swaps
  have c_homeward : Cal P w K mg base "homeward" 6 P_homeward (sp_homeward K (He.ga K "State")) := mkCal F_homeward (ok_homeward (P := P) (w := w) (base := base) F_homeward T c_before_dict c_read c_homeward_swaps m_State_lists) (He.glo_ok X G (cd.fact 19 (f := .glo "homeward") rfl)) b_homeward
  have c_is_settled : Cal P w K mg base "is_settled" 7 P_is_settled (sp_is_settled K (He.ga K "State")) := mkCal F_is_settled (ok_is_settled (P := P) (w := w) (base := base) F_is_settled T c_homeward) (He.glo_ok X G (cd.fact 20 (f := .glo "is_settled") rfl)) b_is_settled
  obtain ⟨mv_sr, kb_sr⟩ := kbn_of (ps := P_settle_run) F_settle_run 1 ["replicas"] [("picks", .ref (kwAt ("settle_run", none) "picks" K))] (fun e => by cases e) (fun q hq => by rw [List.mem_singleton.mp hq]; exact List.mem_cons_of_mem _ List.mem_cons_self) (fun us mv ws => us ++ ws ++ mv) (fun r1 r2 r3 => Vals.append (Vals.append r1 r3) r2) (fun _ _ _ _ _ _ us mv ws h1 h2 h3 => match us, mv, ws, h1, h2, h3 with | [_], [_], [_], _, _, _ => ⟨_, _, _, _, _, _, rfl, rfl, rfl⟩)
  have c_settle_run_k : CalK P w K mg base "settle_run" 6 1 ["replicas"] P_settle_run (fun vs zs => vs ++ zs ++ [.ref (kwAt ("settle_run", none) "picks" K)]) (sp_settle_run K (He.ga K "State") (He.ga K "Run")) := ⟨_, _, _, ok_settle_run (P := P) (w := w) (base := base) F_settle_run T c_check_replicas c_before_dict c_read c_homeward_swaps m_State_lists c_Run, (He.glo_ok X G (cd.fact 21 (f := .glo "settle_run") rfl)), F_settle_run.kp, kb_sr⟩
  have c_home_list : Cal P w K mg base "home_list" 3 P_home_list (sp_home_list K (He.ga K "Reading")) := mkCal F_home_list (ok_home_list (P := P) (w := w) (base := base) F_home_list T c_before_dict) (He.glo_ok X G (cd.fact 22 (f := .glo "home_list") rfl)) b_home_list
  have ok_settle_ := ok_settle2 (P := P) (w := w) (base := base) F_settle T c_check_replicas c_read c_home_list m_State_list_of m_State_with_list2
  obtain ⟨mv_settle, kb_settle⟩ := kbn_of (ps := P_settle) F_settle 1 ["replicas"] [] (fun e => by cases e) (fun q hq => by cases hq) (fun us _ ws => us ++ ws) (fun r1 _ r3 => Vals.append r1 r3) (fun _ _ _ _ _ _ us mv ws h1 h2 h3 => match us, mv, ws, h1, h2, h3 with | [_], [], [_], _, _, _ => rfl)
  obtain ⟨ds_settle, dv_settle, db_settle⟩ := FunD.binds0 (ps := P_settle) F_settle 1 (fun e => by cases e) rfl (fun _ _ _ _ _ _ us ks h1 h2 => match us, ks, h1, h2 with | [_], [_], _, _ => ⟨_, _, _, _, _, _, rfl, rfl, rfl⟩)
  have c_settle_k : CalK P w K mg base "settle" 6 1 ["replicas"] P_settle (fun vs zs => vs ++ zs) (sp_settle K (He.ga K "State")) := ⟨_, _, _, (settle_weak ok_settle_), (He.glo_ok X G (cd.fact 23 (f := .glo "settle") rfl)), F_settle.kp, kb_settle⟩
  have c_settle_k2 : CalK P w K mg base "settle" 6 1 ["replicas"] P_settle (fun vs zs => vs ++ zs) (sp_settle2 K (He.ga K "State")) := ⟨_, _, _, ok_settle_, (He.glo_ok X G (cd.fact 23 (f := .glo "settle") rfl)), F_settle.kp, kb_settle⟩
  have c_settle_d : CalD P w K mg base "settle" 6 P_settle [.ref (kwAt ("settle", none) "replicas" K)] (sp_settle K (He.ga K "State")) := ⟨_, _, _, (settle_weak ok_settle_), (He.glo_ok X G (cd.fact 23 (f := .glo "settle") rfl)), F_settle.kp, db_settle, dv_settle⟩
  have ok_settle_length_ := ok_settle_length (P := P) (w := w) (base := base) tP F_settle_length T c_settle_run_k m_Run_len
  obtain ⟨mv_settle_length, kb_settle_length⟩ := kbn_of (ps := P_settle_length) F_settle_length 1 ["replicas"] [] (fun e => by cases e) (fun q hq => by cases hq) (fun us _ ws => us ++ ws) (fun r1 _ r3 => Vals.append r1 r3) (fun _ _ _ _ _ _ us mv ws h1 h2 h3 => match us, mv, ws, h1, h2, h3 with | [_], [], [_], _, _, _ => rfl)
  obtain ⟨ds_settle_length, dv_settle_length, db_settle_length⟩ := FunD.binds0 (ps := P_settle_length) F_settle_length 1 (fun e => by cases e) rfl (fun _ _ _ _ _ _ us ks h1 h2 => match us, ks, h1, h2 with | [_], [_], _, _ => ⟨_, _, _, _, _, _, rfl, rfl, rfl⟩)
  have c_settle_length_k : CalK P w K mg base "settle_length" 7 1 ["replicas"] P_settle_length (fun vs zs => vs ++ zs) (sp_settle_length K (He.ga K "State")) := ⟨_, _, _, ok_settle_length_, (He.glo_ok X G (cd.fact 24 (f := .glo "settle_length") rfl)), F_settle_length.kp, kb_settle_length⟩
  have c_settle_length_d : CalD P w K mg base "settle_length" 7 P_settle_length [.ref (kwAt ("settle_length", none) "replicas" K)] (sp_settle_length K (He.ga K "State")) := ⟨_, _, _, ok_settle_length_, (He.glo_ok X G (cd.fact 24 (f := .glo "settle_length") rfl)), F_settle_length.kp, db_settle_length, dv_settle_length⟩
  have c_boxL : Cal P w K mg base "_law_box" 1 P_boxL (sp_boxL K) := mkCal F_boxL (ok_boxL (P := P) (w := w) (base := base) F_boxL T) (He.glo_ok X G (cd.fact 25 (f := .glo "_law_box") rfl)) b_boxL
  have c_takeL : Cal P w K mg base "_law_take" 1 P_takeL (sp_takeL K) := mkCal F_takeL (ok_takeL (P := P) (w := w) (base := base) F_takeL T) (He.glo_ok X G (cd.fact 26 (f := .glo "_law_take") rfl)) b_takeL
  have c_orderL : Cal P w K mg base "_law_order" 2 P_orderL (sp_orderL K) := mkCal F_orderL (ok_orderL (P := P) (w := w) (base := base) F_orderL T c_takeL) (He.glo_ok X G (cd.fact 28 (f := .glo "_law_order") rfl)) b_orderL
  have c_keysL : Cal P w K mg base "_law_keys" 3 P_keysL (sp_keysL K) := mkCal F_keysL (ok_keysL (P := P) (w := w) (base := base) F_keysL T c_takeL c_orderL) (He.glo_ok X G (cd.fact 27 (f := .glo "_law_keys") rfl)) b_keysL
  have c_quietL : Cal P w K mg base "_law_quiet" 1 P_quietL (sp_quietL K) := mkCal F_quietL (ok_quietL (P := P) (w := w) (base := base) F_quietL T) (He.glo_ok X G (cd.fact 30 (f := .glo "_law_quiet") rfl)) b_quietL
  have c_swappedL : Cal P w K mg base "_law_swapped" 1 P_swappedL (sp_swappedL K) := mkCal F_swappedL (ok_swappedL (P := P) (w := w) (base := base) F_swappedL T) (He.glo_ok X G (cd.fact 31 (f := .glo "_law_swapped") rfl)) b_swappedL
  have c_likeL : Cal P w K mg base "_law_like" 3 P_likeL (sp_likeL K 3) := mkCal F_likeL (ok_likeL (P := P) (w := w) (base := base) F_likeL T (He.glo_ok X G (cd.fact 29 (f := .glo "_law_like") rfl)) F_likeL.kp b_likeL 3) (He.glo_ok X G (cd.fact 29 (f := .glo "_law_like") rfl)) b_likeL
  have c_ableL : Cal P w K mg base "_law_able" 2 P_ableL (sp_ableL K) := mkCal F_ableL (ok_ableL (P := P) (w := w) (base := base) F_ableL T c_quietL) (He.glo_ok X G (cd.fact 32 (f := .glo "_law_able") rfl)) b_ableL
  have c_walkL : Cal P w K mg base "_law_walk" 3 P_walkL (sp_walkL K) := mkCal F_walkL (ok_walkL (P := P) (w := w) (base := base) F_walkL T c_ableL c_takeL c_swappedL) (He.glo_ok X G (cd.fact 33 (f := .glo "_law_walk") rfl)) b_walkL
  have c_countL : Cal P w K mg base "_law_count" 2 P_countL (sp_countL K) := mkCal F_countL (ok_countL (P := P) (w := w) (base := base) F_countL T c_takeL) (He.glo_ok X G (cd.fact 34 (f := .glo "_law_count") rfl)) b_countL
  have c_ringL : Cal P w K mg base "_law_ring" 2 P_ringL (sp_ringL K) := mkCal F_ringL (ok_ringL (P := P) (w := w) (base := base) F_ringL T c_takeL) (He.glo_ok X G (cd.fact 35 (f := .glo "_law_ring") rfl)) b_ringL
  have c_boundL : Cal P w K mg base "_law_bound" 4 P_boundL (sp_boundL K) := mkCal F_boundL (ok_boundL (P := P) (w := w) (base := base) F_boundL T c_takeL c_keysL) (He.glo_ok X G (cd.fact 36 (f := .glo "_law_bound") rfl)) b_boundL
  have c_listsL : Cal P w K mg base "_law_lists" 5 P_listsL (sp_listsL K) := mkCal F_listsL (ok_listsL (P := P) (w := w) (base := base) F_listsL T c_takeL c_walkL c_boundL c_keysL c_countL c_orderL c_ringL) (He.glo_ok X G (cd.fact 37 (f := .glo "_law_lists") rfl)) b_listsL
  have c_looseL : Cal P w K mg base "_law_loose" 6 P_looseL (sp_looseL K) := mkCal F_looseL (ok_looseL (P := P) (w := w) (base := base) F_looseL T c_takeL c_walkL c_ableL c_listsL) (He.glo_ok X G (cd.fact 38 (f := .glo "_law_loose") rfl)) b_looseL
  have ok_st := ok_stateL2 (P := P) (w := w) (base := base) F_stateL T c_State2
  have c_stateL2 : Cal P w K mg base "_law_state" 5 P_stateL (sp_stateL2 K (He.ga K "State")) := mkCal F_stateL ok_st (He.glo_ok X G (cd.fact 39 (f := .glo "_law_state") rfl)) b_stateL
  have c_stateL : Cal P w K mg base "_law_state" 5 P_stateL (sp_stateL K (He.ga K "State")) := mkCal F_stateL (stateL_weak ok_st) (He.glo_ok X G (cd.fact 39 (f := .glo "_law_state") rfl)) b_stateL
  have c_votesL : Cal P w K mg base "_law_votes" 1 P_votesL (sp_votesL K) := mkCal F_votesL (ok_votesL (P := P) (w := w) (base := base) F_votesL T) (He.glo_ok X G (cd.fact 40 (f := .glo "_law_votes") rfl)) b_votesL
  have c_nearL : Cal P w K mg base "_law_near" 2 P_nearL (sp_nearL K) := mkCal F_nearL (ok_nearL (P := P) (w := w) (base := base) F_nearL T c_votesL) (He.glo_ok X G (cd.fact 41 (f := .glo "_law_near") rfl)) b_nearL
  have c_homingL : Cal P w K mg base "_law_homing" 3 P_homingL (sp_homingL K) := mkCal F_homingL (ok_homingL (P := P) (w := w) (base := base) F_homingL T c_nearL c_swappedL) (He.glo_ok X G (cd.fact 42 (f := .glo "_law_homing") rfl)) b_homingL
  have c_apartL : Cal P w K mg base "_law_apart" 1 P_apartL (sp_apartL K) := mkCal F_apartL (ok_apartL (P := P) (w := w) (base := base) F_apartL T) (He.glo_ok X G (cd.fact 43 (f := .glo "_law_apart") rfl)) b_apartL
  have c_state_isL : Cal P w K mg base "_law_state_is" 4 P_state_isL (sp_state_isL K (He.ga K "State")) := mkCal F_state_isL (ok_state_isL (P := P) (w := w) (base := base) F_state_isL T m_State_lists c_likeL) (He.glo_ok X G (cd.fact 44 (f := .glo "_law_state_is") rfl)) b_state_isL
  have c_count_apartL : Cal P w K mg base "_law_count_apart" 2 P_count_apartL (sp_count_apartL K) := mkCal F_count_apartL (ok_count_apartL (P := P) (w := w) (base := base) F_count_apartL T c_apartL) (He.glo_ok X G (cd.fact 45 (f := .glo "_law_count_apart") rfl)) b_count_apartL
  have c_handedL : Cal P w K mg base "_law_handed" 2 P_handedL (sp_handedL K) := mkCal F_handedL (ok_handedL (P := P) (w := w) (base := base) F_handedL T c_takeL) (He.glo_ok X G (cd.fact 46 (f := .glo "_law_handed") rfl)) b_handedL
  have c_cutL : Cal P w K mg base "_law_cut" 9 P_cutL (sp_cutL K (He.ga K "State")) := mkCal F_cutL (ok_cutL (P := P) (w := w) (base := base) F_cutL T tS tL c_Run c_play c_state_isL c_settle_d c_settle_length_d c_likeL c_count_apartL m_Run_steps) (He.glo_ok X G (cd.fact 49 (f := .glo "_law_cut") rfl)) b_cutL
  have c_partsL : Cal P w K mg base "_law_parts" 8 P_partsL (sp_partsL K) := mkCal F_partsL (ok_partsL (P := P) (w := w) (base := base) F_partsL T tS tL c_takeL c_stateL c_handedL c_settle_k c_settle_length_k c_settle_d c_settle_length_d c_state_isL c_likeL c_count_apartL c_nearL c_homeward c_is_settled) (He.glo_ok X G (cd.fact 47 (f := .glo "_law_parts") rfl)) b_partsL
  have c_one_by_oneL : Cal P w K mg base "_law_one_by_one" 8 P_one_by_oneL (sp_one_by_oneL K) := mkCal F_one_by_oneL (ok_one_by_oneL (P := P) (w := w) (base := base) F_one_by_oneL T c_stateL2 c_orderL c_apartL c_likeL c_settle_k2 c_settle_length_k c_state_isL c_homeward c_is_settled) (He.glo_ok X G (cd.fact 48 (f := .glo "_law_one_by_one") rfl)) b_one_by_oneL
  exact ok_law (P := P) (w := w) (base := base) F_law T tS c_boxL c_takeL c_looseL c_homingL c_walkL c_stateL c_swappedL c_cutL c_partsL c_one_by_oneL c_settle_d c_state_isL
end
end Qd

set_option Elab.async false
set_option linter.all false
set_option maxRecDepth 100000
set_option maxHeartbeats 0
namespace Qd
open PySem PySem.Spec PyProof.Rows L2
abbrev R : PySem.W.OpenRow := PySem.W.OpenLaw.row PySem.Challenge.rw_quorumdrift_k15_whole_home_kept_by_drift
abbrev hk : PySem.W.Hook := hookB fa fn ex0
def ob (s : PySem.W.SharedT) : AlB := onK (HandSHeadRun.getT s) (obsB fa fn ex0)
theorem ob_eq (s : PySem.W.SharedT) : ob s = hk.obs s.abs := by
  have e : HandSHeadRun.getT s = s.abs.heap.get? := funext (HandSHeadRun.getT_eq s)
  unfold ob
  rw [e] <;> rfl
theorem run (w : World) : HandSHeadRun.RunEq R (PySem.W.view R.prog [81]) hk ob 12000 names w := by
  intro os
  kernel_rfl
end Qd
open PySem PySem.W PySem.Calls PyProof.Rows
theorem Qd.head (hc : WalkO (view (OpenLaw.row PySem.Challenge.rw_quorumdrift_k15_whole_home_kept_by_drift).prog [81]) Qd.names (XL (view (OpenLaw.row PySem.Challenge.rw_quorumdrift_k15_whole_home_kept_by_drift).prog [81]) []) Qd.hk.says (OpenLaw.row PySem.Challenge.rw_quorumdrift_k15_whole_home_kept_by_drift).toRowW (HandSHeadRun.topDef (OpenLaw.row PySem.Challenge.rw_quorumdrift_k15_whole_home_kept_by_drift).prog 81) [] fun f vs => PySem.call f vs) :
    PySem.Challenge.rw_quorumdrift_k15_whole_home_kept_by_drift.Holds := by
  w_on; o_law
  refine HandSHeadRun.head_any (r := OpenLaw.row PySem.Challenge.rw_quorumdrift_k15_whole_home_kept_by_drift) (q := view (OpenLaw.row PySem.Challenge.rw_quorumdrift_k15_whole_home_kept_by_drift).prog [81]) (H := Qd.hk) (ob := Qd.ob) (M := 12000) (loose := Qd.names) (d := HandSHeadRun.topDef (OpenLaw.row PySem.Challenge.rw_quorumdrift_k15_whole_home_kept_by_drift).prog 81) (kwd := []) Qd.ob_eq
    (by kernel_rfl) (fun s => by kernel_rfl) Qd.run (by kernel_rfl) (by kernel_rfl) (by kernel_rfl) (by rfl) (by first | assumption | decide +kernel) (by decide +kernel) ⟨rfl, rfl, rfl, rfl, rfl, by decide +kernel⟩ ?hw ?hc
  case hw => w_witness2
  case hc => exact hc

theorem PySem.Challenge.cw_quorumdrift_k15_whole_home_kept_by_drift_holds : PySem.Challenge.rw_quorumdrift_k15_whole_home_kept_by_drift.Holds := by
  refine Qd.head ?_
  refine L2.walk_ofE (l := PySem.Challenge.rw_quorumdrift_k15_whole_home_kept_by_drift) (n := 63) (k := 10) (x := "_law_script") (CX := L2.CX0) rfl (by decide) (by kernel_rfl) ⟨rfl, by decide, by decide⟩ ?F (fun _ _ _ _ z => z)
  intro w mg fa h Y G hmg0
  obtain ⟨K, KX, c⟩ := Y
  have hmg : mg ("law" : PySem.Str) = some (.ref fa) := by
    have e : (HandSHeadRun.topDef (OpenLaw.row PySem.Challenge.rw_quorumdrift_k15_whole_home_kept_by_drift).prog 81).name = ("law" : PySem.Str) := by kernel_rfl
    rw [← e]
    exact hmg0
  obtain ⟨fd, hb, hF⟩ := Qd.joined (P := (PySem.Challenge.rw_quorumdrift_k15_whole_home_kept_by_drift).prog) (w := w) KX G hmg c
  exact ⟨K, fd, Qd.sp_law K, KX, hb, fun H a ns hl _ hS => ⟨a, ns, rfl, hS, fun _ => rfl⟩, hF⟩
