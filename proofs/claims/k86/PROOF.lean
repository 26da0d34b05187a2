import PyProof.Rows.All
import Wide.All
import OpenK.AllK
import Wide.FinOn
import KE.KStateDown
import Lean
import HandS.ForMost
import HandS.Exc
import HandS.TryOnly
import HandS.ExcOwn
import HandS.WordsExc
import HandS.ExcInit
import HandS.Defaults
import HandS.Lambda
import HandS.Keys
import HandS.DictTup
import HandS.Zip
import HandS.Zip0
import HandS.TupAny
import HandS.IsInst
import HandS.StrMore
import HandS.Wide
import HandS.ListItems
import HandS.Conv
import HandS.More
import HandS.SortKw
import HandS.SetKeys
import HandS.Strs
import HandS.Flow
import HandS.Head0
import HandS.Head1
import HandS.Head2
import HandS.HeadEnd
import HandS.HeadHook1
import HandS.HeadHook2
import HandS.HeadHook3
import HandS.HeadHook4
import KE.KDictPairs
import KE.GoesEnumKw
import KE.GoesMore
import KE.KDictZip
import HandS.Replace
import HandS.Style
import HandS.HeadWalk
import PySem.Challenge.RW_roadsettings_k86_whole_news_put_together
/-! text P0 -/
set_option Elab.async false
set_option linter.all false
set_option maxRecDepth 100000
/-! The text by places; what the head's hook looks at. Printed by gen_p0.py. -/
namespace RS
open PySem PySem.Spec PyProof.Rows L2
def top (i : Nat) : Stmt := PySem.Challenge.pw_roadsettings_k86_whole_news_put_together.main.body.getD i (.Pass ⟨0, 0, 0, 0⟩)
abbrev s_alike : Stmt := top 4
abbrev s_mark : Stmt := top 5
abbrev s_digit : Stmt := top 6
abbrev s_is_leaf : Stmt := top 10
abbrev s_is_fork : Stmt := top 11
abbrev s_Nodes_init : Stmt := inClass (top 12) 0
abbrev s_Nodes_at : Stmt := inClass (top 12) 1
abbrev s_Nodes_many : Stmt := inClass (top 12) 2
abbrev s_Nodes_make : Stmt := inClass (top 12) 3
abbrev s_Nodes_leaf : Stmt := inClass (top 12) 4
abbrev s_Nodes_fork : Stmt := inClass (top 12) 5
abbrev s_Nodes_pairs_in : Stmt := inClass (top 12) 6
abbrev s_value_in : Stmt := top 13
abbrev s_pairs_with : Stmt := top 14
abbrev s_pairs_without : Stmt := top 15
abbrev s_with_part : Stmt := top 16
abbrev s_parts_of : Stmt := top 18
abbrev s_pairs_of : Stmt := top 19
abbrev s_unlike_names : Stmt := top 20
abbrev s_differing : Stmt := top 21
abbrev s_Busy_init : Stmt := inClass (top 30) 0
abbrev s_AtHome_init : Stmt := inClass (top 31) 0
abbrev s_NoToken_init : Stmt := inClass (top 32) 0
abbrev s_Used_init : Stmt := inClass (top 33) 0
abbrev s_Elsewhere_init : Stmt := inClass (top 34) 0
abbrev s_OutOfTurn_init : Stmt := inClass (top 35) 0
abbrev s_Lookout_init : Stmt := inClass (top 37) 0
abbrev s_Lookout_watch : Stmt := inClass (top 37) 1
abbrev s_Lookout_watched : Stmt := inClass (top 37) 3
abbrev s_Lookout_place_now : Stmt := inClass (top 37) 4
abbrev s_Lookout_hear : Stmt := inClass (top 37) 5
abbrev s_Lookout_set_to : Stmt := inClass (top 37) 6
abbrev s_Lookout_back : Stmt := inClass (top 37) 7
abbrev s_Lookout_enter : Stmt := inClass (top 37) 8
abbrev s_Lookout_leave : Stmt := inClass (top 37) 9
abbrev s_Lookout_news : Stmt := inClass (top 37) 10
abbrev s_Store_init : Stmt := inClass (top 40) 0
abbrev s_Store_look_table : Stmt := inClass (top 40) 1
abbrev s_Store_tell : Stmt := inClass (top 40) 2
abbrev s_Store_empty : Stmt := inClass (top 40) 3
abbrev s_Store_way_from : Stmt := inClass (top 40) 4
abbrev s_Store_way : Stmt := inClass (top 40) 5
abbrev s_Store_looked : Stmt := inClass (top 40) 6
abbrev s_Store_pairs : Stmt := inClass (top 40) 7
abbrev s_Store_node : Stmt := inClass (top 40) 9
abbrev s_Store_made : Stmt := inClass (top 40) 10
abbrev s_Store_parted : Stmt := inClass (top 40) 11
abbrev s_Store_put_at : Stmt := inClass (top 40) 12
abbrev s_Store_put : Stmt := inClass (top 40) 13
abbrev s_Store_lone_leaf : Stmt := inClass (top 40) 14
abbrev s_Store_left_at : Stmt := inClass (top 40) 15
abbrev s_Store_without : Stmt := inClass (top 40) 16
abbrev s_Stop_init : Stmt := inClass (top 43) 0
abbrev s_Stop_is_of : Stmt := inClass (top 43) 1
abbrev s_Roads_init : Stmt := inClass (top 44) 0
abbrev s_Roads_stop_at : Stmt := inClass (top 44) 1
abbrev s_Roads_table_behind : Stmt := inClass (top 44) 3
abbrev s_Roads_go_on : Stmt := inClass (top 44) 4
abbrev s_Roads_put : Stmt := inClass (top 44) 5
abbrev s_Roads_clear : Stmt := inClass (top 44) 6
abbrev s_Roads_last : Stmt := inClass (top 44) 13
abbrev s_Roads_walked : Stmt := inClass (top 44) 14
abbrev s_Roads_store : Stmt := inClass (top 44) 15
abbrev s_Roads_table : Stmt := inClass (top 44) 16
abbrev s_Roads_looked : Stmt := inClass (top 44) 17
abbrev s_Roads_all_at : Stmt := inClass (top 44) 18
abbrev s_Tokens_init : Stmt := inClass (top 46) 0
abbrev s_Tokens_issue : Stmt := inClass (top 46) 1
abbrev s_Tokens_check : Stmt := inClass (top 46) 2
abbrev s_Tokens_last_like : Stmt := inClass (top 46) 5
abbrev s_Tokens_use : Stmt := inClass (top 46) 6
abbrev s_Hall_init : Stmt := inClass (top 48) 0
abbrev s_Hall_declare : Stmt := inClass (top 48) 1
abbrev s_Hall_settings : Stmt := inClass (top 48) 2
abbrev s_Hall_roads : Stmt := inClass (top 48) 3
abbrev s_Hall_worlds : Stmt := inClass (top 48) 4
abbrev s_Hall_check_world : Stmt := inClass (top 48) 5
abbrev s_Hall_check_name : Stmt := inClass (top 48) 6
abbrev s_Hall_place : Stmt := inClass (top 48) 7
abbrev s_Hall_now : Stmt := inClass (top 48) 8
abbrev s_Hall_copy : Stmt := inClass (top 48) 10
abbrev s_Hall_enter : Stmt := inClass (top 48) 11
abbrev s_Hall_leave : Stmt := inClass (top 48) 12
abbrev s_Hall_value_in : Stmt := inClass (top 48) 13
abbrev s_Hall_set_to : Stmt := inClass (top 48) 14
abbrev s_Hall_back : Stmt := inClass (top 48) 15
abbrev s_Hall_look_or : Stmt := inClass (top 48) 20
abbrev s_law_cell_at : Stmt := top 50
abbrev s_law_box : Stmt := top 51
abbrev s_law_take : Stmt := top 52
abbrev s_law_names : Stmt := top 53
abbrev s_law_value : Stmt := top 54
abbrev s_law_twin : Stmt := top 55
abbrev s_law_settings : Stmt := top 56
abbrev s_law_same : Stmt := top 57
abbrev s_law_tried : Stmt := top 58
abbrev s_law_news_right : Stmt := top 59
abbrev s_law_shown_right : Stmt := top 60
abbrev s_law : Stmt := top 61
def d_alike : He.DefD := ⟨("alike", none), "alike", "alike", defArgs s_alike, defBody s_alike, defScope s_alike, [], []⟩
def d_mark : He.DefD := ⟨("mark", none), "mark", "mark", defArgs s_mark, defBody s_mark, defScope s_mark, [], []⟩
def d_digit : He.DefD := ⟨("digit", none), "digit", "digit", defArgs s_digit, defBody s_digit, defScope s_digit, [], []⟩
def d_is_leaf : He.DefD := ⟨("is_leaf", none), "is_leaf", "is_leaf", defArgs s_is_leaf, defBody s_is_leaf, defScope s_is_leaf, [], []⟩
def d_is_fork : He.DefD := ⟨("is_fork", none), "is_fork", "is_fork", defArgs s_is_fork, defBody s_is_fork, defScope s_is_fork, [], []⟩
def d_Nodes_init : He.DefD := ⟨("Nodes", some "__init__"), "__init__", "Nodes.__init__", defArgs s_Nodes_init, defBody s_Nodes_init, defScope s_Nodes_init, [], []⟩
def d_Nodes_at : He.DefD := ⟨("Nodes", some "at"), "at", "Nodes.at", defArgs s_Nodes_at, defBody s_Nodes_at, defScope s_Nodes_at, [], []⟩
def d_Nodes_many : He.DefD := ⟨("Nodes", some "many"), "many", "Nodes.many", defArgs s_Nodes_many, defBody s_Nodes_many, defScope s_Nodes_many, [], []⟩
def d_Nodes_make : He.DefD := ⟨("Nodes", some "make"), "make", "Nodes.make", defArgs s_Nodes_make, defBody s_Nodes_make, defScope s_Nodes_make, [], []⟩
def d_Nodes_leaf : He.DefD := ⟨("Nodes", some "leaf"), "leaf", "Nodes.leaf", defArgs s_Nodes_leaf, defBody s_Nodes_leaf, defScope s_Nodes_leaf, [], []⟩
def d_Nodes_fork : He.DefD := ⟨("Nodes", some "fork"), "fork", "Nodes.fork", defArgs s_Nodes_fork, defBody s_Nodes_fork, defScope s_Nodes_fork, [], []⟩
def d_Nodes_pairs_in : He.DefD := ⟨("Nodes", some "pairs_in"), "pairs_in", "Nodes.pairs_in", defArgs s_Nodes_pairs_in, defBody s_Nodes_pairs_in, defScope s_Nodes_pairs_in, [], []⟩
def d_value_in : He.DefD := ⟨("value_in", none), "value_in", "value_in", defArgs s_value_in, defBody s_value_in, defScope s_value_in, [], []⟩
def d_pairs_with : He.DefD := ⟨("pairs_with", none), "pairs_with", "pairs_with", defArgs s_pairs_with, defBody s_pairs_with, defScope s_pairs_with, [], []⟩
def d_pairs_without : He.DefD := ⟨("pairs_without", none), "pairs_without", "pairs_without", defArgs s_pairs_without, defBody s_pairs_without, defScope s_pairs_without, [], []⟩
def d_with_part : He.DefD := ⟨("with_part", none), "with_part", "with_part", defArgs s_with_part, defBody s_with_part, defScope s_with_part, [], []⟩
def d_parts_of : He.DefD := ⟨("parts_of", none), "parts_of", "parts_of", defArgs s_parts_of, defBody s_parts_of, defScope s_parts_of, [], []⟩
def d_pairs_of : He.DefD := ⟨("pairs_of", none), "pairs_of", "pairs_of", defArgs s_pairs_of, defBody s_pairs_of, defScope s_pairs_of, [], []⟩
def d_unlike_names : He.DefD := ⟨("unlike_names", none), "unlike_names", "unlike_names", defArgs s_unlike_names, defBody s_unlike_names, defScope s_unlike_names, [], []⟩
def d_differing : He.DefD := ⟨("differing", none), "differing", "differing", defArgs s_differing, defBody s_differing, defScope s_differing, [], []⟩
def d_Busy_init : He.DefD := ⟨("Busy", some "__init__"), "__init__", "Busy.__init__", defArgs s_Busy_init, defBody s_Busy_init, defScope s_Busy_init, [], []⟩
def d_AtHome_init : He.DefD := ⟨("AtHome", some "__init__"), "__init__", "AtHome.__init__", defArgs s_AtHome_init, defBody s_AtHome_init, defScope s_AtHome_init, [], []⟩
def d_NoToken_init : He.DefD := ⟨("NoToken", some "__init__"), "__init__", "NoToken.__init__", defArgs s_NoToken_init, defBody s_NoToken_init, defScope s_NoToken_init, [], []⟩
def d_Used_init : He.DefD := ⟨("Used", some "__init__"), "__init__", "Used.__init__", defArgs s_Used_init, defBody s_Used_init, defScope s_Used_init, [], []⟩
def d_Elsewhere_init : He.DefD := ⟨("Elsewhere", some "__init__"), "__init__", "Elsewhere.__init__", defArgs s_Elsewhere_init, defBody s_Elsewhere_init, defScope s_Elsewhere_init, [], []⟩
def d_OutOfTurn_init : He.DefD := ⟨("OutOfTurn", some "__init__"), "__init__", "OutOfTurn.__init__", defArgs s_OutOfTurn_init, defBody s_OutOfTurn_init, defScope s_OutOfTurn_init, [], []⟩
def d_Lookout_init : He.DefD := ⟨("Lookout", some "__init__"), "__init__", "Lookout.__init__", defArgs s_Lookout_init, defBody s_Lookout_init, defScope s_Lookout_init, [], []⟩
def d_Lookout_watch : He.DefD := ⟨("Lookout", some "watch"), "watch", "Lookout.watch", defArgs s_Lookout_watch, defBody s_Lookout_watch, defScope s_Lookout_watch, [], []⟩
def d_Lookout_watched : He.DefD := ⟨("Lookout", some "watched"), "watched", "Lookout.watched", defArgs s_Lookout_watched, defBody s_Lookout_watched, defScope s_Lookout_watched, [], []⟩
def d_Lookout_place_now : He.DefD := ⟨("Lookout", some "place_now"), "place_now", "Lookout.place_now", defArgs s_Lookout_place_now, defBody s_Lookout_place_now, defScope s_Lookout_place_now, [], []⟩
def d_Lookout_hear : He.DefD := ⟨("Lookout", some "hear"), "hear", "Lookout.hear", defArgs s_Lookout_hear, defBody s_Lookout_hear, defScope s_Lookout_hear, [], []⟩
def d_Lookout_set_to : He.DefD := ⟨("Lookout", some "set_to"), "set_to", "Lookout.set_to", defArgs s_Lookout_set_to, defBody s_Lookout_set_to, defScope s_Lookout_set_to, [], []⟩
def d_Lookout_back : He.DefD := ⟨("Lookout", some "back"), "back", "Lookout.back", defArgs s_Lookout_back, defBody s_Lookout_back, defScope s_Lookout_back, [], []⟩
def d_Lookout_enter : He.DefD := ⟨("Lookout", some "enter"), "enter", "Lookout.enter", defArgs s_Lookout_enter, defBody s_Lookout_enter, defScope s_Lookout_enter, [], []⟩
def d_Lookout_leave : He.DefD := ⟨("Lookout", some "leave"), "leave", "Lookout.leave", defArgs s_Lookout_leave, defBody s_Lookout_leave, defScope s_Lookout_leave, [], []⟩
def d_Lookout_news : He.DefD := ⟨("Lookout", some "news"), "news", "Lookout.news", defArgs s_Lookout_news, defBody s_Lookout_news, defScope s_Lookout_news, [], []⟩
def d_Store_init : He.DefD := ⟨("Store", some "__init__"), "__init__", "Store.__init__", defArgs s_Store_init, defBody s_Store_init, defScope s_Store_init, [], []⟩
def d_Store_look_table : He.DefD := ⟨("Store", some "look_table"), "look_table", "Store.look_table", defArgs s_Store_look_table, defBody s_Store_look_table, defScope s_Store_look_table, [], []⟩
def d_Store_tell : He.DefD := ⟨("Store", some "tell"), "tell", "Store.tell", defArgs s_Store_tell, defBody s_Store_tell, defScope s_Store_tell, [], []⟩
def d_Store_empty : He.DefD := ⟨("Store", some "empty"), "empty", "Store.empty", defArgs s_Store_empty, defBody s_Store_empty, defScope s_Store_empty, [], []⟩
def d_Store_way_from : He.DefD := ⟨("Store", some "way_from"), "way_from", "Store.way_from", defArgs s_Store_way_from, defBody s_Store_way_from, defScope s_Store_way_from, [], []⟩
def d_Store_way : He.DefD := ⟨("Store", some "way"), "way", "Store.way", defArgs s_Store_way, defBody s_Store_way, defScope s_Store_way, [], []⟩
def d_Store_looked : He.DefD := ⟨("Store", some "looked"), "looked", "Store.looked", defArgs s_Store_looked, defBody s_Store_looked, defScope s_Store_looked, [], []⟩
def d_Store_pairs : He.DefD := ⟨("Store", some "pairs"), "pairs", "Store.pairs", defArgs s_Store_pairs, defBody s_Store_pairs, defScope s_Store_pairs, [], []⟩
def d_Store_node : He.DefD := ⟨("Store", some "node"), "node", "Store.node", defArgs s_Store_node, defBody s_Store_node, defScope s_Store_node, [], []⟩
def d_Store_made : He.DefD := ⟨("Store", some "made"), "made", "Store.made", defArgs s_Store_made, defBody s_Store_made, defScope s_Store_made, [], []⟩
def d_Store_parted : He.DefD := ⟨("Store", some "parted"), "parted", "Store.parted", defArgs s_Store_parted, defBody s_Store_parted, defScope s_Store_parted, [], []⟩
def d_Store_put_at : He.DefD := ⟨("Store", some "put_at"), "put_at", "Store.put_at", defArgs s_Store_put_at, defBody s_Store_put_at, defScope s_Store_put_at, [], []⟩
def d_Store_put : He.DefD := ⟨("Store", some "put"), "put", "Store.put", defArgs s_Store_put, defBody s_Store_put, defScope s_Store_put, [], []⟩
def d_Store_lone_leaf : He.DefD := ⟨("Store", some "lone_leaf"), "lone_leaf", "Store.lone_leaf", defArgs s_Store_lone_leaf, defBody s_Store_lone_leaf, defScope s_Store_lone_leaf, [], []⟩
def d_Store_left_at : He.DefD := ⟨("Store", some "left_at"), "left_at", "Store.left_at", defArgs s_Store_left_at, defBody s_Store_left_at, defScope s_Store_left_at, [], []⟩
def d_Store_without : He.DefD := ⟨("Store", some "without"), "without", "Store.without", defArgs s_Store_without, defBody s_Store_without, defScope s_Store_without, [], []⟩
def d_Stop_init : He.DefD := ⟨("Stop", some "__init__"), "__init__", "Stop.__init__", defArgs s_Stop_init, defBody s_Stop_init, defScope s_Stop_init, [], []⟩
def d_Stop_is_of : He.DefD := ⟨("Stop", some "is_of"), "is_of", "Stop.is_of", defArgs s_Stop_is_of, defBody s_Stop_is_of, defScope s_Stop_is_of, [], []⟩
def d_Roads_init : He.DefD := ⟨("Roads", some "__init__"), "__init__", "Roads.__init__", defArgs s_Roads_init, defBody s_Roads_init, defScope s_Roads_init, [], []⟩
def d_Roads_stop_at : He.DefD := ⟨("Roads", some "stop_at"), "stop_at", "Roads.stop_at", defArgs s_Roads_stop_at, defBody s_Roads_stop_at, defScope s_Roads_stop_at, [], []⟩
def d_Roads_table_behind : He.DefD := ⟨("Roads", some "table_behind"), "table_behind", "Roads.table_behind", defArgs s_Roads_table_behind, defBody s_Roads_table_behind, defScope s_Roads_table_behind, [], []⟩
def d_Roads_go_on : He.DefD := ⟨("Roads", some "go_on"), "go_on", "Roads.go_on", defArgs s_Roads_go_on, defBody s_Roads_go_on, defScope s_Roads_go_on, [], []⟩
def d_Roads_put : He.DefD := ⟨("Roads", some "put"), "put", "Roads.put", defArgs s_Roads_put, defBody s_Roads_put, defScope s_Roads_put, [], []⟩
def d_Roads_clear : He.DefD := ⟨("Roads", some "clear"), "clear", "Roads.clear", defArgs s_Roads_clear, defBody s_Roads_clear, defScope s_Roads_clear, [], []⟩
def d_Roads_last : He.DefD := ⟨("Roads", some "last"), "last", "Roads.last", defArgs s_Roads_last, defBody s_Roads_last, defScope s_Roads_last, [], []⟩
def d_Roads_walked : He.DefD := ⟨("Roads", some "walked"), "walked", "Roads.walked", defArgs s_Roads_walked, defBody s_Roads_walked, defScope s_Roads_walked, [], []⟩
def d_Roads_store : He.DefD := ⟨("Roads", some "store"), "store", "Roads.store", defArgs s_Roads_store, defBody s_Roads_store, defScope s_Roads_store, [], []⟩
def d_Roads_table : He.DefD := ⟨("Roads", some "table"), "table", "Roads.table", defArgs s_Roads_table, defBody s_Roads_table, defScope s_Roads_table, [], []⟩
def d_Roads_looked : He.DefD := ⟨("Roads", some "looked"), "looked", "Roads.looked", defArgs s_Roads_looked, defBody s_Roads_looked, defScope s_Roads_looked, [], []⟩
def d_Roads_all_at : He.DefD := ⟨("Roads", some "all_at"), "all_at", "Roads.all_at", defArgs s_Roads_all_at, defBody s_Roads_all_at, defScope s_Roads_all_at, [], []⟩
def d_Tokens_init : He.DefD := ⟨("Tokens", some "__init__"), "__init__", "Tokens.__init__", defArgs s_Tokens_init, defBody s_Tokens_init, defScope s_Tokens_init, [], []⟩
def d_Tokens_issue : He.DefD := ⟨("Tokens", some "issue"), "issue", "Tokens.issue", defArgs s_Tokens_issue, defBody s_Tokens_issue, defScope s_Tokens_issue, [], []⟩
def d_Tokens_check : He.DefD := ⟨("Tokens", some "check"), "check", "Tokens.check", defArgs s_Tokens_check, defBody s_Tokens_check, defScope s_Tokens_check, [], []⟩
def d_Tokens_last_like : He.DefD := ⟨("Tokens", some "last_like"), "last_like", "Tokens.last_like", defArgs s_Tokens_last_like, defBody s_Tokens_last_like, defScope s_Tokens_last_like, [], []⟩
def d_Tokens_use : He.DefD := ⟨("Tokens", some "use"), "use", "Tokens.use", defArgs s_Tokens_use, defBody s_Tokens_use, defScope s_Tokens_use, [], []⟩
def d_Hall_init : He.DefD := ⟨("Hall", some "__init__"), "__init__", "Hall.__init__", defArgs s_Hall_init, defBody s_Hall_init, defScope s_Hall_init, [], []⟩
def d_Hall_declare : He.DefD := ⟨("Hall", some "declare"), "declare", "Hall.declare", defArgs s_Hall_declare, defBody s_Hall_declare, defScope s_Hall_declare, [], []⟩
def d_Hall_settings : He.DefD := ⟨("Hall", some "settings"), "settings", "Hall.settings", defArgs s_Hall_settings, defBody s_Hall_settings, defScope s_Hall_settings, [], []⟩
def d_Hall_roads : He.DefD := ⟨("Hall", some "roads"), "roads", "Hall.roads", defArgs s_Hall_roads, defBody s_Hall_roads, defScope s_Hall_roads, [], []⟩
def d_Hall_worlds : He.DefD := ⟨("Hall", some "worlds"), "worlds", "Hall.worlds", defArgs s_Hall_worlds, defBody s_Hall_worlds, defScope s_Hall_worlds, [], []⟩
def d_Hall_check_world : He.DefD := ⟨("Hall", some "check_world"), "check_world", "Hall.check_world", defArgs s_Hall_check_world, defBody s_Hall_check_world, defScope s_Hall_check_world, [], []⟩
def d_Hall_check_name : He.DefD := ⟨("Hall", some "check_name"), "check_name", "Hall.check_name", defArgs s_Hall_check_name, defBody s_Hall_check_name, defScope s_Hall_check_name, [], []⟩
def d_Hall_place : He.DefD := ⟨("Hall", some "place"), "place", "Hall.place", defArgs s_Hall_place, defBody s_Hall_place, defScope s_Hall_place, [], []⟩
def d_Hall_now : He.DefD := ⟨("Hall", some "now"), "now", "Hall.now", defArgs s_Hall_now, defBody s_Hall_now, defScope s_Hall_now, [], []⟩
def d_Hall_copy : He.DefD := ⟨("Hall", some "copy"), "copy", "Hall.copy", defArgs s_Hall_copy, defBody s_Hall_copy, defScope s_Hall_copy, [], []⟩
def d_Hall_enter : He.DefD := ⟨("Hall", some "enter"), "enter", "Hall.enter", defArgs s_Hall_enter, defBody s_Hall_enter, defScope s_Hall_enter, [], []⟩
def d_Hall_leave : He.DefD := ⟨("Hall", some "leave"), "leave", "Hall.leave", defArgs s_Hall_leave, defBody s_Hall_leave, defScope s_Hall_leave, [], []⟩
def d_Hall_value_in : He.DefD := ⟨("Hall", some "value_in"), "value_in", "Hall.value_in", defArgs s_Hall_value_in, defBody s_Hall_value_in, defScope s_Hall_value_in, [], []⟩
def d_Hall_set_to : He.DefD := ⟨("Hall", some "set_to"), "set_to", "Hall.set_to", defArgs s_Hall_set_to, defBody s_Hall_set_to, defScope s_Hall_set_to, [], []⟩
def d_Hall_back : He.DefD := ⟨("Hall", some "back"), "back", "Hall.back", defArgs s_Hall_back, defBody s_Hall_back, defScope s_Hall_back, [], []⟩
def d_Hall_look_or : He.DefD := ⟨("Hall", some "look_or"), "look_or", "Hall.look_or", defArgs s_Hall_look_or, defBody s_Hall_look_or, defScope s_Hall_look_or, [], []⟩
def d_law_cell_at : He.DefD := ⟨("_law_cell_at", none), "_law_cell_at", "_law_cell_at", defArgs s_law_cell_at, defBody s_law_cell_at, defScope s_law_cell_at, [], []⟩
def d_law_box : He.DefD := ⟨("_law_box", none), "_law_box", "_law_box", defArgs s_law_box, defBody s_law_box, defScope s_law_box, [], []⟩
def d_law_take : He.DefD := ⟨("_law_take", none), "_law_take", "_law_take", defArgs s_law_take, defBody s_law_take, defScope s_law_take, [], []⟩
def d_law_names : He.DefD := ⟨("_law_names", none), "_law_names", "_law_names", defArgs s_law_names, defBody s_law_names, defScope s_law_names, [], []⟩
def d_law_value : He.DefD := ⟨("_law_value", none), "_law_value", "_law_value", defArgs s_law_value, defBody s_law_value, defScope s_law_value, [], []⟩
def d_law_twin : He.DefD := ⟨("_law_twin", none), "_law_twin", "_law_twin", defArgs s_law_twin, defBody s_law_twin, defScope s_law_twin, [], []⟩
def d_law_settings : He.DefD := ⟨("_law_settings", none), "_law_settings", "_law_settings", defArgs s_law_settings, defBody s_law_settings, defScope s_law_settings, [], []⟩
def d_law_same : He.DefD := ⟨("_law_same", none), "_law_same", "_law_same", defArgs s_law_same, defBody s_law_same, defScope s_law_same, [], []⟩
def d_law_tried : He.DefD := ⟨("_law_tried", none), "_law_tried", "_law_tried", defArgs s_law_tried, defBody s_law_tried, defScope s_law_tried, [], []⟩
def d_law_news_right : He.DefD := ⟨("_law_news_right", none), "_law_news_right", "_law_news_right", defArgs s_law_news_right, defBody s_law_news_right, defScope s_law_news_right, [], []⟩
def d_law_shown_right : He.DefD := ⟨("_law_shown_right", none), "_law_shown_right", "_law_shown_right", defArgs s_law_shown_right, defBody s_law_shown_right, defScope s_law_shown_right, [], []⟩
def d_law : He.DefD := ⟨("law", none), "law", "law", defArgs s_law, defBody s_law, defScope s_law, [], []⟩
def fn : List He.DefD := [d_alike, d_mark, d_digit, d_is_leaf, d_is_fork, d_Nodes_init, d_Nodes_at, d_Nodes_many, d_Nodes_make, d_Nodes_leaf, d_Nodes_fork, d_Nodes_pairs_in, d_value_in, d_pairs_with, d_pairs_without, d_with_part, d_parts_of, d_pairs_of, d_unlike_names, d_differing, d_Busy_init, d_AtHome_init, d_NoToken_init, d_Used_init, d_Elsewhere_init, d_OutOfTurn_init, d_Lookout_init, d_Lookout_watch, d_Lookout_watched, d_Lookout_place_now, d_Lookout_hear, d_Lookout_set_to, d_Lookout_back, d_Lookout_enter, d_Lookout_leave, d_Lookout_news, d_Store_init, d_Store_look_table, d_Store_tell, d_Store_empty, d_Store_way_from, d_Store_way, d_Store_looked, d_Store_pairs, d_Store_node, d_Store_made, d_Store_parted, d_Store_put_at, d_Store_put, d_Store_lone_leaf, d_Store_left_at, d_Store_without, d_Stop_init, d_Stop_is_of, d_Roads_init, d_Roads_stop_at, d_Roads_table_behind, d_Roads_go_on, d_Roads_put, d_Roads_clear, d_Roads_last, d_Roads_walked, d_Roads_store, d_Roads_table, d_Roads_looked, d_Roads_all_at, d_Tokens_init, d_Tokens_issue, d_Tokens_check, d_Tokens_last_like, d_Tokens_use, d_Hall_init, d_Hall_declare, d_Hall_settings, d_Hall_roads, d_Hall_worlds, d_Hall_check_world, d_Hall_check_name, d_Hall_place, d_Hall_now, d_Hall_copy, d_Hall_enter, d_Hall_leave, d_Hall_value_in, d_Hall_set_to, d_Hall_back, d_Hall_look_or, d_law_cell_at, d_law_box, d_law_take, d_law_names, d_law_value, d_law_twin, d_law_settings, d_law_same, d_law_tried, d_law_news_right, d_law_shown_right, d_law]
def fa : List He.Fa := [.glo "alike", .glo "mark", .glo "digit", .glo "is_leaf", .glo "is_fork", .glo "value_in", .glo "pairs_with", .glo "pairs_without", .glo "with_part", .glo "parts_of", .glo "pairs_of", .glo "unlike_names", .glo "differing", .glo "_law_cell_at", .glo "_law_box", .glo "_law_take", .glo "_law_names", .glo "_law_value", .glo "_law_twin", .glo "_law_settings", .glo "_law_same", .glo "_law_tried", .glo "_law_news_right", .glo "_law_shown_right", .glo "law", .glo "Nodes", .glo "Lookout", .glo "Store", .glo "Stop", .glo "Roads", .glo "Tokens", .glo "Hall", .glo "Busy", .glo "AtHome", .glo "NoToken", .glo "Used", .glo "Elsewhere", .glo "OutOfTurn", .glo "RoadError", .glo "FIRST", .glo "NO_PARTS", .free "len", .free "isinstance", .free "sum", .free "enumerate", .free "range", .free "sorted", .free "set", .free "list", .free "dict", .free "tuple", .free "zip", .free "str", .free "abs", .free "int", .free "divmod", .free "all", .free "bool", .free "max", .free "min", .free "ValueError", .int "BASE" 4, .int "BARE" 0, .int "BEGIN" 0, .str "LETTERS" "abcdefghijklmnopqrstuvwxyz", .cls "Nodes", .mkr "Nodes", .noat "Nodes" "rows", .meth "Nodes" "at", .meth "Nodes" "many", .meth "Nodes" "make", .meth "Nodes" "leaf", .meth "Nodes" "fork", .meth "Nodes" "pairs_in", .cls "Lookout", .mkr "Lookout", .noat "Lookout" "hall", .noat "Lookout" "rows", .noat "Lookout" "begun", .noat "Lookout" "untold", .noat "Lookout" "many_looked", .meth "Lookout" "watch", .meth "Lookout" "watched", .meth "Lookout" "place_now", .meth "Lookout" "hear", .meth "Lookout" "set_to", .meth "Lookout" "back", .meth "Lookout" "enter", .meth "Lookout" "leave", .meth "Lookout" "news", .cls "Store", .mkr "Store", .noat "Store" "nodes", .noat "Store" "told", .meth "Store" "look_table", .meth "Store" "tell", .meth "Store" "empty", .meth "Store" "way_from", .meth "Store" "way", .meth "Store" "looked", .meth "Store" "pairs", .meth "Store" "node", .meth "Store" "made", .meth "Store" "parted", .meth "Store" "put_at", .meth "Store" "put", .meth "Store" "lone_leaf", .meth "Store" "left_at", .meth "Store" "without", .cls "Stop", .mkr "Stop", .noat "Stop" "before_it", .noat "Stop" "move_made", .noat "Stop" "far_on", .noat "Stop" "table_there", .noat "Stop" "nodes_more", .meth "Stop" "is_of", .cls "Roads", .mkr "Roads", .noat "Roads" "shelf", .noat "Roads" "stops", .meth "Roads" "stop_at", .meth "Roads" "table_behind", .meth "Roads" "go_on", .meth "Roads" "put", .meth "Roads" "clear", .meth "Roads" "last", .meth "Roads" "walked", .meth "Roads" "store", .meth "Roads" "table", .meth "Roads" "looked", .meth "Roads" "all_at", .cls "Tokens", .mkr "Tokens", .noat "Tokens" "facts", .noat "Tokens" "unused", .meth "Tokens" "issue", .meth "Tokens" "check", .meth "Tokens" "last_like", .meth "Tokens" "use", .cls "Hall", .mkr "Hall", .noat "Hall" "defaults", .noat "Hall" "grid", .noat "Hall" "spots", .noat "Hall" "stack", .noat "Hall" "purse", .meth "Hall" "declare", .meth "Hall" "settings", .meth "Hall" "roads", .meth "Hall" "worlds", .meth "Hall" "check_world", .meth "Hall" "check_name", .meth "Hall" "place", .meth "Hall" "now", .meth "Hall" "copy", .meth "Hall" "enter", .meth "Hall" "leave", .meth "Hall" "value_in", .meth "Hall" "set_to", .meth "Hall" "back", .meth "Hall" "look_or", .noat "Busy" "what", .exm "Busy" "RoadError" true, .noat "AtHome" "what", .exm "AtHome" "RoadError" true, .noat "NoToken" "what", .exm "NoToken" "RoadError" true, .noat "Used" "what", .exm "Used" "RoadError" true, .noat "Elsewhere" "what", .exm "Elsewhere" "RoadError" true, .noat "OutOfTurn" "what", .exm "OutOfTurn" "RoadError" true, .keep "RoadError"]
/-- an own exception class whose maker is ValueError's -/
def oexB (K : PySem.W.Frag) (C : Addr) : Bool := match K.lookup C with
  | some ⟨.type ty, _, .cls cd, sl⟩ => (match cd.mro, sl.toList with
    | .ref C' :: bm, [_, _, _, _, some (.builtin n), _] => decide (ty = "type") && (decide (C' = C) && (decide (n = "ValueError.__new__") && (!cd.hasDel && (cd.hasDict && PySem.HandSPX.refsVE bm))))
    | _, _ => false)
  | _ => false
def errs : List Str := ["Busy", "AtHome", "NoToken", "Used", "Elsewhere", "OutOfTurn"]
def errB (K : PySem.W.Frag) (x : Str) : Bool := oexB K (He.ga K x) && (He.eqO (PySem.W.findIn K (.ref (He.ga K x)) "__setattr__") (some (some (.builtin "object.__setattr__"))) && (decide (PySem.W.subIn K (.ref (He.ga K x)) (.type "BaseException") = some true) &&
  (decide (PySem.W.typeIn K (.ref (He.ga K x)) = some (.type "type")) && (PySem.W.keepIn K (.ref (He.ga K x)) && (He.eqO (PySem.W.findIn K (.ref (He.ga K x)) "__init__") (some (some (.ref (He.ma K (He.ga K x) "__init__")))) && decide (PySem.W.typeIn K (.ref (He.ma K (He.ga K x) "__init__")) = some (.type "function")))))))
def roadB (K : PySem.W.Frag) : Bool := PySem.W.readsIn K (He.ga K "RoadError") (.type "type") && (He.eqO (PySem.W.specialIn K (.ref (He.ga K "RoadError")) "__getattribute__") (some (some (.builtin "type.__getattribute__"))) && (match PySem.W.findCls K (.ref (He.ga K "RoadError")) (.type "type") "__init__" with
  | some (.val (.builtin n)) => decide (n = "ValueError.__init__")
  | _ => false))
def exB (K : PySem.W.Frag) : Bool := ((errs.all fun x => errB K x) && (roadB K && decide ((He.cT K ("pairs_with", none)).2 ≠ (He.cT K ("Store", some "pairs")).2))) && (He.tupB K "FIRST" [.str "bare"] && He.tupB K "NO_PARTS" [.int 0, .int 0, .int 0, .int 0])
def tf : List He.Defn := [("pairs_with", none), ("Store", some "pairs")]
abbrev R : PySem.W.OpenRow := PySem.W.OpenLaw.row PySem.Challenge.rw_roadsettings_k86_whole_news_put_together
/-! ### a hook over a short list of addresses: what the module's names reach by dicts, classes and defs alone -/
def refsM (o : Obj) : List Addr := match o.data with
  | .dict es _ => es.toList.flatMap fun e => He.refV e.val
  | .func fd => He.refV fd.code
  | .cls cd => [cd.ns]
  | _ => []
def nextM (g : Addr → Option Obj) (as : List Addr) : List Addr := as.flatMap fun a => match g a with
  | some o => refsM o
  | none => []
def asM (g : Addr → Option Obj) : List Addr :=
  let l1 := nextM g [mainGlobals]
  let l2 := nextM g l1
  let l3 := nextM g l2
  let l4 := nextM g l3
  mainGlobals :: PySem.cStatics :: (l1 ++ (l2 ++ (l3 ++ l4)))
def obsM (fa : List He.Fa) (fn : List He.DefD) (tf : List He.Defn) (ex : PySem.W.Frag → Bool) (g : Addr → Option Obj) : He.AlX :=
  (He.obsT fa fn [] (He.frT g (asM g)), ex (He.frT g (asM g)) && He.tabsB g tf (He.frT g (asM g)))
theorem saysM_of {fa : List He.Fa} {fn : List He.DefD} {tf : List He.Defn} {ex : PySem.W.Frag → Bool} {w : World} {h : Heap} (e : obsM fa fn tf ex h.get? = He.valX fn [] w) : He.SaysX fa fn [] tf ex w h (He.frT h.get? (asM h.get?)) := by
  have z1 : He.obsT fa fn [] (He.frT h.get? (asM h.get?)) = He.valT fn [] w := congrArg Prod.fst e
  have z2 : (ex (He.frT h.get? (asM h.get?)) && He.tabsB h.get? tf (He.frT h.get? (asM h.get?))) = true := congrArg Prod.snd e
  obtain ⟨y1, y2⟩ := Bool.and_eq_true_iff.mp z2
  have each : ∀ p ∈ tf, PySem.W.codeHdIn (He.frT h.get? (asM h.get?)) (He.cT (He.frT h.get? (asM h.get?)) p).1 (He.cT (He.frT h.get? (asM h.get?)) p).2 = true ∧ ∃ o, h.get? (He.cT (He.frT h.get? (asM h.get?)) p).2 = some o ∧ He.emptyTab o = true := by
    intro p m
    obtain ⟨y3, y4⟩ := Bool.and_eq_true_iff.mp (List.all_eq_true.mp y2 p m)
    cases q : h.get? (He.cT (He.frT h.get? (asM h.get?)) p).2 with
    | none => rw [q] at y4; cases y4
    | some o => rw [q] at y4; exact ⟨y3, o, rfl, y4⟩
  refine ⟨z1, y1, fun p m => (each p m).1, fun p m => ?_, fun p m => ?_⟩
  · obtain ⟨_, o, q, z⟩ := each p m
    exact He.frT_none q z
  · obtain ⟨_, o, q, z⟩ := each p m
    rw [q, He.emptyTab_eq z]
def hookM (fa : List He.Fa) (fn : List He.DefD) (tf : List He.Defn) (ex : PySem.W.Frag → Bool) : PySem.W.Hook where
  α := He.AlX
  obs := fun s => obsM fa fn tf ex s.heap.get?
  val := fun w => He.valX fn [] w
  says := fun w h => ∃ K : PySem.W.Frag, K.In h ∧ He.SaysX fa fn [] tf ex w h K
  of := fun _ _ e => ⟨_, He.frT_in, saysM_of e⟩
  keeps := fun _ _ _ ⟨K, hK, c⟩ k => ⟨K, PySem.W.Frag.In.keeps hK k, ⟨c.t, c.more, c.hd, c.out, fun p m => k _ _ (c.empty p m)⟩⟩
abbrev hk : PySem.W.Hook := hookM fa fn tf exB
def ob (s : PySem.W.SharedT) : He.AlX := obsM fa fn tf exB (HandSHeadRun.getT s)
theorem ob_eq (s : PySem.W.SharedT) : ob s = hk.obs s.abs := by
  have e : HandSHeadRun.getT s = s.abs.heap.get? := funext (HandSHeadRun.getT_eq s)
  show obsM fa fn tf exB (HandSHeadRun.getT s) = obsM fa fn tf exB s.abs.heap.get?
  rw [e]
end RS

/-! text PH -/
set_option Elab.async false
set_option linter.all false
set_option maxRecDepth 100000
set_option maxHeartbeats 0
namespace RS
open PySem PySem.Spec PyProof.Rows L2
def loose1 : List Str := ["_wall", "LETTERS", "BASE", "alike", "mark", "digit", "BARE", "FIRST", "is_leaf", "is_fork", "Nodes", "value_in", "pairs_with", "pairs_without", "with_part", "parts_of", "pairs_of", "unlike_names", "differing", "RoadError", "NoTable", "NoNode", "NoPlace", "Known", "NoSetting"]
def loose2 : List Str := ["NoWorld", "Busy", "AtHome", "NoToken", "Used", "Elsewhere", "OutOfTurn", "Lookout", "NO_PARTS", "Store", "BEGIN", "Stop", "Roads", "Tokens", "Hall", "_law_cell_at", "_law_box", "_law_take", "_law_names", "_law_value", "_law_twin", "_law_settings", "_law_same", "_law_tried", "_law_news_right", "_law_shown_right"]
def loose : List Str := loose1 ++ loose2
theorem run (w : World) : HandSHeadRun.RunEq R (PySem.W.view R.prog [61]) hk ob 20000 loose w := by
  intro os
  kernel_rfl
end RS

/-! text PT -/
set_option Elab.async false
set_option linter.all false
set_option maxRecDepth 100000
/-! The facts of the head, each by its name. Printed by gen_pt.py. -/
namespace RS
open PySem PySem.Spec PyProof.Rows L2
abbrev gA (K : PySem.W.Frag) (x : Str) : Addr := He.ga K x
abbrev mA (K : PySem.W.Frag) (c m : Str) : Addr := He.ma K (He.ga K c) m
abbrev FnP (K : PySem.W.Frag) (x qual : Str) (st : Stmt) (f : Addr) : Prop := ∃ fd, FunD K x qual (defArgs st) (defBody st) (defScope st) [] [] f fd
structure Tx (K : PySem.W.Frag) (mg : Str → Option Value) (base : Heap) : Prop where
  d : He.SaysD fa fn K
  ex : exB K = true
  ns : ∃ h : Heap, K.In h ∧ h.Ns mainGlobals mg
  tb : ∀ p ∈ tf, LamX.TabB base mg (He.cT K p).1 (He.cT K p).2
section
variable {K : PySem.W.Frag} {mg : Str → Option Value} {base : Heap}
theorem Tx.glo (T : Tx K mg base) (i : Nat) {x : Str} (h : fa[i]? = some (.glo x) := by rfl) : mg x = some (.ref (gA K x)) := let ⟨_, X, G⟩ := T.ns; He.glo_ok X G (T.d.fact i h)
theorem Tx.fre (T : Tx K mg base) (i : Nat) {x : Str} (h : fa[i]? = some (.free x) := by rfl) : mg x = none := let ⟨_, X, G⟩ := T.ns; He.free_ok X G (T.d.fact i h)
theorem Tx.g_alike (T : Tx K mg base) : mg "alike" = some (.ref (gA K "alike")) := T.glo 0
theorem Tx.g_mark (T : Tx K mg base) : mg "mark" = some (.ref (gA K "mark")) := T.glo 1
theorem Tx.g_digit (T : Tx K mg base) : mg "digit" = some (.ref (gA K "digit")) := T.glo 2
theorem Tx.g_is_leaf (T : Tx K mg base) : mg "is_leaf" = some (.ref (gA K "is_leaf")) := T.glo 3
theorem Tx.g_is_fork (T : Tx K mg base) : mg "is_fork" = some (.ref (gA K "is_fork")) := T.glo 4
theorem Tx.g_value_in (T : Tx K mg base) : mg "value_in" = some (.ref (gA K "value_in")) := T.glo 5
theorem Tx.g_pairs_with (T : Tx K mg base) : mg "pairs_with" = some (.ref (gA K "pairs_with")) := T.glo 6
theorem Tx.g_pairs_without (T : Tx K mg base) : mg "pairs_without" = some (.ref (gA K "pairs_without")) := T.glo 7
theorem Tx.g_with_part (T : Tx K mg base) : mg "with_part" = some (.ref (gA K "with_part")) := T.glo 8
theorem Tx.g_parts_of (T : Tx K mg base) : mg "parts_of" = some (.ref (gA K "parts_of")) := T.glo 9
theorem Tx.g_pairs_of (T : Tx K mg base) : mg "pairs_of" = some (.ref (gA K "pairs_of")) := T.glo 10
theorem Tx.g_unlike_names (T : Tx K mg base) : mg "unlike_names" = some (.ref (gA K "unlike_names")) := T.glo 11
theorem Tx.g_differing (T : Tx K mg base) : mg "differing" = some (.ref (gA K "differing")) := T.glo 12
theorem Tx.g_law_cell_at (T : Tx K mg base) : mg "_law_cell_at" = some (.ref (gA K "_law_cell_at")) := T.glo 13
theorem Tx.g_law_box (T : Tx K mg base) : mg "_law_box" = some (.ref (gA K "_law_box")) := T.glo 14
theorem Tx.g_law_take (T : Tx K mg base) : mg "_law_take" = some (.ref (gA K "_law_take")) := T.glo 15
theorem Tx.g_law_names (T : Tx K mg base) : mg "_law_names" = some (.ref (gA K "_law_names")) := T.glo 16
theorem Tx.g_law_value (T : Tx K mg base) : mg "_law_value" = some (.ref (gA K "_law_value")) := T.glo 17
theorem Tx.g_law_twin (T : Tx K mg base) : mg "_law_twin" = some (.ref (gA K "_law_twin")) := T.glo 18
theorem Tx.g_law_settings (T : Tx K mg base) : mg "_law_settings" = some (.ref (gA K "_law_settings")) := T.glo 19
theorem Tx.g_law_same (T : Tx K mg base) : mg "_law_same" = some (.ref (gA K "_law_same")) := T.glo 20
theorem Tx.g_law_tried (T : Tx K mg base) : mg "_law_tried" = some (.ref (gA K "_law_tried")) := T.glo 21
theorem Tx.g_law_news_right (T : Tx K mg base) : mg "_law_news_right" = some (.ref (gA K "_law_news_right")) := T.glo 22
theorem Tx.g_law_shown_right (T : Tx K mg base) : mg "_law_shown_right" = some (.ref (gA K "_law_shown_right")) := T.glo 23
theorem Tx.g_law (T : Tx K mg base) : mg "law" = some (.ref (gA K "law")) := T.glo 24
theorem Tx.g_Nodes (T : Tx K mg base) : mg "Nodes" = some (.ref (gA K "Nodes")) := T.glo 25
theorem Tx.g_Lookout (T : Tx K mg base) : mg "Lookout" = some (.ref (gA K "Lookout")) := T.glo 26
theorem Tx.g_Store (T : Tx K mg base) : mg "Store" = some (.ref (gA K "Store")) := T.glo 27
theorem Tx.g_Stop (T : Tx K mg base) : mg "Stop" = some (.ref (gA K "Stop")) := T.glo 28
theorem Tx.g_Roads (T : Tx K mg base) : mg "Roads" = some (.ref (gA K "Roads")) := T.glo 29
theorem Tx.g_Tokens (T : Tx K mg base) : mg "Tokens" = some (.ref (gA K "Tokens")) := T.glo 30
theorem Tx.g_Hall (T : Tx K mg base) : mg "Hall" = some (.ref (gA K "Hall")) := T.glo 31
theorem Tx.g_Busy (T : Tx K mg base) : mg "Busy" = some (.ref (gA K "Busy")) := T.glo 32
theorem Tx.g_AtHome (T : Tx K mg base) : mg "AtHome" = some (.ref (gA K "AtHome")) := T.glo 33
theorem Tx.g_NoToken (T : Tx K mg base) : mg "NoToken" = some (.ref (gA K "NoToken")) := T.glo 34
theorem Tx.g_Used (T : Tx K mg base) : mg "Used" = some (.ref (gA K "Used")) := T.glo 35
theorem Tx.g_Elsewhere (T : Tx K mg base) : mg "Elsewhere" = some (.ref (gA K "Elsewhere")) := T.glo 36
theorem Tx.g_OutOfTurn (T : Tx K mg base) : mg "OutOfTurn" = some (.ref (gA K "OutOfTurn")) := T.glo 37
theorem Tx.g_RoadError (T : Tx K mg base) : mg "RoadError" = some (.ref (gA K "RoadError")) := T.glo 38
theorem Tx.g_FIRST (T : Tx K mg base) : mg "FIRST" = some (.ref (gA K "FIRST")) := T.glo 39
theorem Tx.g_NO_PARTS (T : Tx K mg base) : mg "NO_PARTS" = some (.ref (gA K "NO_PARTS")) := T.glo 40
theorem Tx.b_len (T : Tx K mg base) : mg "len" = none := T.fre 41
theorem Tx.b_isinstance (T : Tx K mg base) : mg "isinstance" = none := T.fre 42
theorem Tx.b_sum (T : Tx K mg base) : mg "sum" = none := T.fre 43
theorem Tx.b_enumerate (T : Tx K mg base) : mg "enumerate" = none := T.fre 44
theorem Tx.b_range (T : Tx K mg base) : mg "range" = none := T.fre 45
theorem Tx.b_sorted (T : Tx K mg base) : mg "sorted" = none := T.fre 46
theorem Tx.b_set (T : Tx K mg base) : mg "set" = none := T.fre 47
theorem Tx.b_list (T : Tx K mg base) : mg "list" = none := T.fre 48
theorem Tx.b_dict (T : Tx K mg base) : mg "dict" = none := T.fre 49
theorem Tx.b_tuple (T : Tx K mg base) : mg "tuple" = none := T.fre 50
theorem Tx.b_zip (T : Tx K mg base) : mg "zip" = none := T.fre 51
theorem Tx.b_str (T : Tx K mg base) : mg "str" = none := T.fre 52
theorem Tx.b_abs (T : Tx K mg base) : mg "abs" = none := T.fre 53
theorem Tx.b_int (T : Tx K mg base) : mg "int" = none := T.fre 54
theorem Tx.b_divmod (T : Tx K mg base) : mg "divmod" = none := T.fre 55
theorem Tx.b_all (T : Tx K mg base) : mg "all" = none := T.fre 56
theorem Tx.b_bool (T : Tx K mg base) : mg "bool" = none := T.fre 57
theorem Tx.b_max (T : Tx K mg base) : mg "max" = none := T.fre 58
theorem Tx.b_min (T : Tx K mg base) : mg "min" = none := T.fre 59
theorem Tx.b_ValueError (T : Tx K mg base) : mg "ValueError" = none := T.fre 60
theorem Tx.i_BASE (T : Tx K mg base) : ∃ t, mg "BASE" = some (.int 4 t) := let ⟨_, X, G⟩ := T.ns; He.int_ok X G (T.d.fact 61)
theorem Tx.i_BARE (T : Tx K mg base) : ∃ t, mg "BARE" = some (.int 0 t) := let ⟨_, X, G⟩ := T.ns; He.int_ok X G (T.d.fact 62)
theorem Tx.i_BEGIN (T : Tx K mg base) : ∃ t, mg "BEGIN" = some (.int 0 t) := let ⟨_, X, G⟩ := T.ns; He.int_ok X G (T.d.fact 63)
theorem Tx.s_LETTERS (T : Tx K mg base) : ∃ t, mg "LETTERS" = some (.str "abcdefghijklmnopqrstuvwxyz" t) := let ⟨_, X, G⟩ := T.ns; He.str_ok X G (T.d.fact 64)
theorem Tx.cl_Nodes (T : Tx K mg base) : Cls K (gA K "Nodes") := He.cls_ok (T.d.fact 65)
theorem Tx.mk_Nodes (T : Tx K mg base) : Mk K (gA K "Nodes") (mA K "Nodes" "__init__") := He.mkr_ok (T.d.fact 66)
theorem Tx.na_Nodes_rows (T : Tx K mg base) : NoAttr K (gA K "Nodes") "rows" := He.noat_ok (T.d.fact 67)
theorem Tx.me_Nodes_at (T : Tx K mg base) : Meth K (gA K "Nodes") "at" (mA K "Nodes" "at") := He.meth_ok (T.d.fact 68)
theorem Tx.me_Nodes_many (T : Tx K mg base) : Meth K (gA K "Nodes") "many" (mA K "Nodes" "many") := He.meth_ok (T.d.fact 69)
theorem Tx.me_Nodes_make (T : Tx K mg base) : Meth K (gA K "Nodes") "make" (mA K "Nodes" "make") := He.meth_ok (T.d.fact 70)
theorem Tx.me_Nodes_leaf (T : Tx K mg base) : Meth K (gA K "Nodes") "leaf" (mA K "Nodes" "leaf") := He.meth_ok (T.d.fact 71)
theorem Tx.me_Nodes_fork (T : Tx K mg base) : Meth K (gA K "Nodes") "fork" (mA K "Nodes" "fork") := He.meth_ok (T.d.fact 72)
theorem Tx.me_Nodes_pairs_in (T : Tx K mg base) : Meth K (gA K "Nodes") "pairs_in" (mA K "Nodes" "pairs_in") := He.meth_ok (T.d.fact 73)
theorem Tx.cl_Lookout (T : Tx K mg base) : Cls K (gA K "Lookout") := He.cls_ok (T.d.fact 74)
theorem Tx.mk_Lookout (T : Tx K mg base) : Mk K (gA K "Lookout") (mA K "Lookout" "__init__") := He.mkr_ok (T.d.fact 75)
theorem Tx.na_Lookout_hall (T : Tx K mg base) : NoAttr K (gA K "Lookout") "hall" := He.noat_ok (T.d.fact 76)
theorem Tx.na_Lookout_rows (T : Tx K mg base) : NoAttr K (gA K "Lookout") "rows" := He.noat_ok (T.d.fact 77)
theorem Tx.na_Lookout_begun (T : Tx K mg base) : NoAttr K (gA K "Lookout") "begun" := He.noat_ok (T.d.fact 78)
theorem Tx.na_Lookout_untold (T : Tx K mg base) : NoAttr K (gA K "Lookout") "untold" := He.noat_ok (T.d.fact 79)
theorem Tx.na_Lookout_many_looked (T : Tx K mg base) : NoAttr K (gA K "Lookout") "many_looked" := He.noat_ok (T.d.fact 80)
theorem Tx.me_Lookout_watch (T : Tx K mg base) : Meth K (gA K "Lookout") "watch" (mA K "Lookout" "watch") := He.meth_ok (T.d.fact 81)
theorem Tx.me_Lookout_watched (T : Tx K mg base) : Meth K (gA K "Lookout") "watched" (mA K "Lookout" "watched") := He.meth_ok (T.d.fact 82)
theorem Tx.me_Lookout_place_now (T : Tx K mg base) : Meth K (gA K "Lookout") "place_now" (mA K "Lookout" "place_now") := He.meth_ok (T.d.fact 83)
theorem Tx.me_Lookout_hear (T : Tx K mg base) : Meth K (gA K "Lookout") "hear" (mA K "Lookout" "hear") := He.meth_ok (T.d.fact 84)
theorem Tx.me_Lookout_set_to (T : Tx K mg base) : Meth K (gA K "Lookout") "set_to" (mA K "Lookout" "set_to") := He.meth_ok (T.d.fact 85)
theorem Tx.me_Lookout_back (T : Tx K mg base) : Meth K (gA K "Lookout") "back" (mA K "Lookout" "back") := He.meth_ok (T.d.fact 86)
theorem Tx.me_Lookout_enter (T : Tx K mg base) : Meth K (gA K "Lookout") "enter" (mA K "Lookout" "enter") := He.meth_ok (T.d.fact 87)
theorem Tx.me_Lookout_leave (T : Tx K mg base) : Meth K (gA K "Lookout") "leave" (mA K "Lookout" "leave") := He.meth_ok (T.d.fact 88)
theorem Tx.me_Lookout_news (T : Tx K mg base) : Meth K (gA K "Lookout") "news" (mA K "Lookout" "news") := He.meth_ok (T.d.fact 89)
theorem Tx.cl_Store (T : Tx K mg base) : Cls K (gA K "Store") := He.cls_ok (T.d.fact 90)
theorem Tx.mk_Store (T : Tx K mg base) : Mk K (gA K "Store") (mA K "Store" "__init__") := He.mkr_ok (T.d.fact 91)
theorem Tx.na_Store_nodes (T : Tx K mg base) : NoAttr K (gA K "Store") "nodes" := He.noat_ok (T.d.fact 92)
theorem Tx.na_Store_told (T : Tx K mg base) : NoAttr K (gA K "Store") "told" := He.noat_ok (T.d.fact 93)
theorem Tx.me_Store_look_table (T : Tx K mg base) : Meth K (gA K "Store") "look_table" (mA K "Store" "look_table") := He.meth_ok (T.d.fact 94)
theorem Tx.me_Store_tell (T : Tx K mg base) : Meth K (gA K "Store") "tell" (mA K "Store" "tell") := He.meth_ok (T.d.fact 95)
theorem Tx.me_Store_empty (T : Tx K mg base) : Meth K (gA K "Store") "empty" (mA K "Store" "empty") := He.meth_ok (T.d.fact 96)
theorem Tx.me_Store_way_from (T : Tx K mg base) : Meth K (gA K "Store") "way_from" (mA K "Store" "way_from") := He.meth_ok (T.d.fact 97)
theorem Tx.me_Store_way (T : Tx K mg base) : Meth K (gA K "Store") "way" (mA K "Store" "way") := He.meth_ok (T.d.fact 98)
theorem Tx.me_Store_looked (T : Tx K mg base) : Meth K (gA K "Store") "looked" (mA K "Store" "looked") := He.meth_ok (T.d.fact 99)
theorem Tx.me_Store_pairs (T : Tx K mg base) : Meth K (gA K "Store") "pairs" (mA K "Store" "pairs") := He.meth_ok (T.d.fact 100)
theorem Tx.me_Store_node (T : Tx K mg base) : Meth K (gA K "Store") "node" (mA K "Store" "node") := He.meth_ok (T.d.fact 101)
theorem Tx.me_Store_made (T : Tx K mg base) : Meth K (gA K "Store") "made" (mA K "Store" "made") := He.meth_ok (T.d.fact 102)
theorem Tx.me_Store_parted (T : Tx K mg base) : Meth K (gA K "Store") "parted" (mA K "Store" "parted") := He.meth_ok (T.d.fact 103)
theorem Tx.me_Store_put_at (T : Tx K mg base) : Meth K (gA K "Store") "put_at" (mA K "Store" "put_at") := He.meth_ok (T.d.fact 104)
theorem Tx.me_Store_put (T : Tx K mg base) : Meth K (gA K "Store") "put" (mA K "Store" "put") := He.meth_ok (T.d.fact 105)
theorem Tx.me_Store_lone_leaf (T : Tx K mg base) : Meth K (gA K "Store") "lone_leaf" (mA K "Store" "lone_leaf") := He.meth_ok (T.d.fact 106)
theorem Tx.me_Store_left_at (T : Tx K mg base) : Meth K (gA K "Store") "left_at" (mA K "Store" "left_at") := He.meth_ok (T.d.fact 107)
theorem Tx.me_Store_without (T : Tx K mg base) : Meth K (gA K "Store") "without" (mA K "Store" "without") := He.meth_ok (T.d.fact 108)
theorem Tx.cl_Stop (T : Tx K mg base) : Cls K (gA K "Stop") := He.cls_ok (T.d.fact 109)
theorem Tx.mk_Stop (T : Tx K mg base) : Mk K (gA K "Stop") (mA K "Stop" "__init__") := He.mkr_ok (T.d.fact 110)
theorem Tx.na_Stop_before_it (T : Tx K mg base) : NoAttr K (gA K "Stop") "before_it" := He.noat_ok (T.d.fact 111)
theorem Tx.na_Stop_move_made (T : Tx K mg base) : NoAttr K (gA K "Stop") "move_made" := He.noat_ok (T.d.fact 112)
theorem Tx.na_Stop_far_on (T : Tx K mg base) : NoAttr K (gA K "Stop") "far_on" := He.noat_ok (T.d.fact 113)
theorem Tx.na_Stop_table_there (T : Tx K mg base) : NoAttr K (gA K "Stop") "table_there" := He.noat_ok (T.d.fact 114)
theorem Tx.na_Stop_nodes_more (T : Tx K mg base) : NoAttr K (gA K "Stop") "nodes_more" := He.noat_ok (T.d.fact 115)
theorem Tx.me_Stop_is_of (T : Tx K mg base) : Meth K (gA K "Stop") "is_of" (mA K "Stop" "is_of") := He.meth_ok (T.d.fact 116)
theorem Tx.cl_Roads (T : Tx K mg base) : Cls K (gA K "Roads") := He.cls_ok (T.d.fact 117)
theorem Tx.mk_Roads (T : Tx K mg base) : Mk K (gA K "Roads") (mA K "Roads" "__init__") := He.mkr_ok (T.d.fact 118)
theorem Tx.na_Roads_shelf (T : Tx K mg base) : NoAttr K (gA K "Roads") "shelf" := He.noat_ok (T.d.fact 119)
theorem Tx.na_Roads_stops (T : Tx K mg base) : NoAttr K (gA K "Roads") "stops" := He.noat_ok (T.d.fact 120)
theorem Tx.me_Roads_stop_at (T : Tx K mg base) : Meth K (gA K "Roads") "stop_at" (mA K "Roads" "stop_at") := He.meth_ok (T.d.fact 121)
theorem Tx.me_Roads_table_behind (T : Tx K mg base) : Meth K (gA K "Roads") "table_behind" (mA K "Roads" "table_behind") := He.meth_ok (T.d.fact 122)
theorem Tx.me_Roads_go_on (T : Tx K mg base) : Meth K (gA K "Roads") "go_on" (mA K "Roads" "go_on") := He.meth_ok (T.d.fact 123)
theorem Tx.me_Roads_put (T : Tx K mg base) : Meth K (gA K "Roads") "put" (mA K "Roads" "put") := He.meth_ok (T.d.fact 124)
theorem Tx.me_Roads_clear (T : Tx K mg base) : Meth K (gA K "Roads") "clear" (mA K "Roads" "clear") := He.meth_ok (T.d.fact 125)
theorem Tx.me_Roads_last (T : Tx K mg base) : Meth K (gA K "Roads") "last" (mA K "Roads" "last") := He.meth_ok (T.d.fact 126)
theorem Tx.me_Roads_walked (T : Tx K mg base) : Meth K (gA K "Roads") "walked" (mA K "Roads" "walked") := He.meth_ok (T.d.fact 127)
theorem Tx.me_Roads_store (T : Tx K mg base) : Meth K (gA K "Roads") "store" (mA K "Roads" "store") := He.meth_ok (T.d.fact 128)
theorem Tx.me_Roads_table (T : Tx K mg base) : Meth K (gA K "Roads") "table" (mA K "Roads" "table") := He.meth_ok (T.d.fact 129)
theorem Tx.me_Roads_looked (T : Tx K mg base) : Meth K (gA K "Roads") "looked" (mA K "Roads" "looked") := He.meth_ok (T.d.fact 130)
theorem Tx.me_Roads_all_at (T : Tx K mg base) : Meth K (gA K "Roads") "all_at" (mA K "Roads" "all_at") := He.meth_ok (T.d.fact 131)
theorem Tx.cl_Tokens (T : Tx K mg base) : Cls K (gA K "Tokens") := He.cls_ok (T.d.fact 132)
theorem Tx.mk_Tokens (T : Tx K mg base) : Mk K (gA K "Tokens") (mA K "Tokens" "__init__") := He.mkr_ok (T.d.fact 133)
theorem Tx.na_Tokens_facts (T : Tx K mg base) : NoAttr K (gA K "Tokens") "facts" := He.noat_ok (T.d.fact 134)
theorem Tx.na_Tokens_unused (T : Tx K mg base) : NoAttr K (gA K "Tokens") "unused" := He.noat_ok (T.d.fact 135)
theorem Tx.me_Tokens_issue (T : Tx K mg base) : Meth K (gA K "Tokens") "issue" (mA K "Tokens" "issue") := He.meth_ok (T.d.fact 136)
theorem Tx.me_Tokens_check (T : Tx K mg base) : Meth K (gA K "Tokens") "check" (mA K "Tokens" "check") := He.meth_ok (T.d.fact 137)
theorem Tx.me_Tokens_last_like (T : Tx K mg base) : Meth K (gA K "Tokens") "last_like" (mA K "Tokens" "last_like") := He.meth_ok (T.d.fact 138)
theorem Tx.me_Tokens_use (T : Tx K mg base) : Meth K (gA K "Tokens") "use" (mA K "Tokens" "use") := He.meth_ok (T.d.fact 139)
theorem Tx.cl_Hall (T : Tx K mg base) : Cls K (gA K "Hall") := He.cls_ok (T.d.fact 140)
theorem Tx.mk_Hall (T : Tx K mg base) : Mk K (gA K "Hall") (mA K "Hall" "__init__") := He.mkr_ok (T.d.fact 141)
theorem Tx.na_Hall_defaults (T : Tx K mg base) : NoAttr K (gA K "Hall") "defaults" := He.noat_ok (T.d.fact 142)
theorem Tx.na_Hall_grid (T : Tx K mg base) : NoAttr K (gA K "Hall") "grid" := He.noat_ok (T.d.fact 143)
theorem Tx.na_Hall_spots (T : Tx K mg base) : NoAttr K (gA K "Hall") "spots" := He.noat_ok (T.d.fact 144)
theorem Tx.na_Hall_stack (T : Tx K mg base) : NoAttr K (gA K "Hall") "stack" := He.noat_ok (T.d.fact 145)
theorem Tx.na_Hall_purse (T : Tx K mg base) : NoAttr K (gA K "Hall") "purse" := He.noat_ok (T.d.fact 146)
theorem Tx.me_Hall_declare (T : Tx K mg base) : Meth K (gA K "Hall") "declare" (mA K "Hall" "declare") := He.meth_ok (T.d.fact 147)
theorem Tx.me_Hall_settings (T : Tx K mg base) : Meth K (gA K "Hall") "settings" (mA K "Hall" "settings") := He.meth_ok (T.d.fact 148)
theorem Tx.me_Hall_roads (T : Tx K mg base) : Meth K (gA K "Hall") "roads" (mA K "Hall" "roads") := He.meth_ok (T.d.fact 149)
theorem Tx.me_Hall_worlds (T : Tx K mg base) : Meth K (gA K "Hall") "worlds" (mA K "Hall" "worlds") := He.meth_ok (T.d.fact 150)
theorem Tx.me_Hall_check_world (T : Tx K mg base) : Meth K (gA K "Hall") "check_world" (mA K "Hall" "check_world") := He.meth_ok (T.d.fact 151)
theorem Tx.me_Hall_check_name (T : Tx K mg base) : Meth K (gA K "Hall") "check_name" (mA K "Hall" "check_name") := He.meth_ok (T.d.fact 152)
theorem Tx.me_Hall_place (T : Tx K mg base) : Meth K (gA K "Hall") "place" (mA K "Hall" "place") := He.meth_ok (T.d.fact 153)
theorem Tx.me_Hall_now (T : Tx K mg base) : Meth K (gA K "Hall") "now" (mA K "Hall" "now") := He.meth_ok (T.d.fact 154)
theorem Tx.me_Hall_copy (T : Tx K mg base) : Meth K (gA K "Hall") "copy" (mA K "Hall" "copy") := He.meth_ok (T.d.fact 155)
theorem Tx.me_Hall_enter (T : Tx K mg base) : Meth K (gA K "Hall") "enter" (mA K "Hall" "enter") := He.meth_ok (T.d.fact 156)
theorem Tx.me_Hall_leave (T : Tx K mg base) : Meth K (gA K "Hall") "leave" (mA K "Hall" "leave") := He.meth_ok (T.d.fact 157)
theorem Tx.me_Hall_value_in (T : Tx K mg base) : Meth K (gA K "Hall") "value_in" (mA K "Hall" "value_in") := He.meth_ok (T.d.fact 158)
theorem Tx.me_Hall_set_to (T : Tx K mg base) : Meth K (gA K "Hall") "set_to" (mA K "Hall" "set_to") := He.meth_ok (T.d.fact 159)
theorem Tx.me_Hall_back (T : Tx K mg base) : Meth K (gA K "Hall") "back" (mA K "Hall" "back") := He.meth_ok (T.d.fact 160)
theorem Tx.me_Hall_look_or (T : Tx K mg base) : Meth K (gA K "Hall") "look_or" (mA K "Hall" "look_or") := He.meth_ok (T.d.fact 161)
theorem Tx.na_Busy_what (T : Tx K mg base) : NoAttr K (gA K "Busy") "what" := He.noat_ok (T.d.fact 162)
theorem Tx.xm_Busy (T : Tx K mg base) : PySem.W.exmOne K (.ref (gA K "Busy")) (.ref (gA K "RoadError")) = some true := He.exm_ok (T.d.fact 163)
theorem Tx.na_AtHome_what (T : Tx K mg base) : NoAttr K (gA K "AtHome") "what" := He.noat_ok (T.d.fact 164)
theorem Tx.xm_AtHome (T : Tx K mg base) : PySem.W.exmOne K (.ref (gA K "AtHome")) (.ref (gA K "RoadError")) = some true := He.exm_ok (T.d.fact 165)
theorem Tx.na_NoToken_what (T : Tx K mg base) : NoAttr K (gA K "NoToken") "what" := He.noat_ok (T.d.fact 166)
theorem Tx.xm_NoToken (T : Tx K mg base) : PySem.W.exmOne K (.ref (gA K "NoToken")) (.ref (gA K "RoadError")) = some true := He.exm_ok (T.d.fact 167)
theorem Tx.na_Used_what (T : Tx K mg base) : NoAttr K (gA K "Used") "what" := He.noat_ok (T.d.fact 168)
theorem Tx.xm_Used (T : Tx K mg base) : PySem.W.exmOne K (.ref (gA K "Used")) (.ref (gA K "RoadError")) = some true := He.exm_ok (T.d.fact 169)
theorem Tx.na_Elsewhere_what (T : Tx K mg base) : NoAttr K (gA K "Elsewhere") "what" := He.noat_ok (T.d.fact 170)
theorem Tx.xm_Elsewhere (T : Tx K mg base) : PySem.W.exmOne K (.ref (gA K "Elsewhere")) (.ref (gA K "RoadError")) = some true := He.exm_ok (T.d.fact 171)
theorem Tx.na_OutOfTurn_what (T : Tx K mg base) : NoAttr K (gA K "OutOfTurn") "what" := He.noat_ok (T.d.fact 172)
theorem Tx.xm_OutOfTurn (T : Tx K mg base) : PySem.W.exmOne K (.ref (gA K "OutOfTurn")) (.ref (gA K "RoadError")) = some true := He.exm_ok (T.d.fact 173)
theorem Tx.kp_RoadError (T : Tx K mg base) : PySem.W.keepIn K (.ref (gA K "RoadError")) = true := He.keep_ok (T.d.fact 174)
theorem Tx.F_alike (T : Tx K mg base) : FnP K "alike" "alike" s_alike (gA K "alike") := T.d.def_ 0 (d := d_alike)
theorem Tx.F_mark (T : Tx K mg base) : FnP K "mark" "mark" s_mark (gA K "mark") := T.d.def_ 1 (d := d_mark)
theorem Tx.F_digit (T : Tx K mg base) : FnP K "digit" "digit" s_digit (gA K "digit") := T.d.def_ 2 (d := d_digit)
theorem Tx.F_is_leaf (T : Tx K mg base) : FnP K "is_leaf" "is_leaf" s_is_leaf (gA K "is_leaf") := T.d.def_ 3 (d := d_is_leaf)
theorem Tx.F_is_fork (T : Tx K mg base) : FnP K "is_fork" "is_fork" s_is_fork (gA K "is_fork") := T.d.def_ 4 (d := d_is_fork)
theorem Tx.F_Nodes_init (T : Tx K mg base) : FnP K "__init__" "Nodes.__init__" s_Nodes_init (mA K "Nodes" "__init__") := T.d.def_ 5 (d := d_Nodes_init)
theorem Tx.F_Nodes_at (T : Tx K mg base) : FnP K "at" "Nodes.at" s_Nodes_at (mA K "Nodes" "at") := T.d.def_ 6 (d := d_Nodes_at)
theorem Tx.F_Nodes_many (T : Tx K mg base) : FnP K "many" "Nodes.many" s_Nodes_many (mA K "Nodes" "many") := T.d.def_ 7 (d := d_Nodes_many)
theorem Tx.F_Nodes_make (T : Tx K mg base) : FnP K "make" "Nodes.make" s_Nodes_make (mA K "Nodes" "make") := T.d.def_ 8 (d := d_Nodes_make)
theorem Tx.F_Nodes_leaf (T : Tx K mg base) : FnP K "leaf" "Nodes.leaf" s_Nodes_leaf (mA K "Nodes" "leaf") := T.d.def_ 9 (d := d_Nodes_leaf)
theorem Tx.F_Nodes_fork (T : Tx K mg base) : FnP K "fork" "Nodes.fork" s_Nodes_fork (mA K "Nodes" "fork") := T.d.def_ 10 (d := d_Nodes_fork)
theorem Tx.F_Nodes_pairs_in (T : Tx K mg base) : FnP K "pairs_in" "Nodes.pairs_in" s_Nodes_pairs_in (mA K "Nodes" "pairs_in") := T.d.def_ 11 (d := d_Nodes_pairs_in)
theorem Tx.F_value_in (T : Tx K mg base) : FnP K "value_in" "value_in" s_value_in (gA K "value_in") := T.d.def_ 12 (d := d_value_in)
theorem Tx.F_pairs_with (T : Tx K mg base) : FnP K "pairs_with" "pairs_with" s_pairs_with (gA K "pairs_with") := T.d.def_ 13 (d := d_pairs_with)
theorem Tx.F_pairs_without (T : Tx K mg base) : FnP K "pairs_without" "pairs_without" s_pairs_without (gA K "pairs_without") := T.d.def_ 14 (d := d_pairs_without)
theorem Tx.F_with_part (T : Tx K mg base) : FnP K "with_part" "with_part" s_with_part (gA K "with_part") := T.d.def_ 15 (d := d_with_part)
theorem Tx.F_parts_of (T : Tx K mg base) : FnP K "parts_of" "parts_of" s_parts_of (gA K "parts_of") := T.d.def_ 16 (d := d_parts_of)
theorem Tx.F_pairs_of (T : Tx K mg base) : FnP K "pairs_of" "pairs_of" s_pairs_of (gA K "pairs_of") := T.d.def_ 17 (d := d_pairs_of)
theorem Tx.F_unlike_names (T : Tx K mg base) : FnP K "unlike_names" "unlike_names" s_unlike_names (gA K "unlike_names") := T.d.def_ 18 (d := d_unlike_names)
theorem Tx.F_differing (T : Tx K mg base) : FnP K "differing" "differing" s_differing (gA K "differing") := T.d.def_ 19 (d := d_differing)
theorem Tx.F_Busy_init (T : Tx K mg base) : FnP K "__init__" "Busy.__init__" s_Busy_init (mA K "Busy" "__init__") := T.d.def_ 20 (d := d_Busy_init)
theorem Tx.F_AtHome_init (T : Tx K mg base) : FnP K "__init__" "AtHome.__init__" s_AtHome_init (mA K "AtHome" "__init__") := T.d.def_ 21 (d := d_AtHome_init)
theorem Tx.F_NoToken_init (T : Tx K mg base) : FnP K "__init__" "NoToken.__init__" s_NoToken_init (mA K "NoToken" "__init__") := T.d.def_ 22 (d := d_NoToken_init)
theorem Tx.F_Used_init (T : Tx K mg base) : FnP K "__init__" "Used.__init__" s_Used_init (mA K "Used" "__init__") := T.d.def_ 23 (d := d_Used_init)
theorem Tx.F_Elsewhere_init (T : Tx K mg base) : FnP K "__init__" "Elsewhere.__init__" s_Elsewhere_init (mA K "Elsewhere" "__init__") := T.d.def_ 24 (d := d_Elsewhere_init)
theorem Tx.F_OutOfTurn_init (T : Tx K mg base) : FnP K "__init__" "OutOfTurn.__init__" s_OutOfTurn_init (mA K "OutOfTurn" "__init__") := T.d.def_ 25 (d := d_OutOfTurn_init)
theorem Tx.F_Lookout_init (T : Tx K mg base) : FnP K "__init__" "Lookout.__init__" s_Lookout_init (mA K "Lookout" "__init__") := T.d.def_ 26 (d := d_Lookout_init)
theorem Tx.F_Lookout_watch (T : Tx K mg base) : FnP K "watch" "Lookout.watch" s_Lookout_watch (mA K "Lookout" "watch") := T.d.def_ 27 (d := d_Lookout_watch)
theorem Tx.F_Lookout_watched (T : Tx K mg base) : FnP K "watched" "Lookout.watched" s_Lookout_watched (mA K "Lookout" "watched") := T.d.def_ 28 (d := d_Lookout_watched)
theorem Tx.F_Lookout_place_now (T : Tx K mg base) : FnP K "place_now" "Lookout.place_now" s_Lookout_place_now (mA K "Lookout" "place_now") := T.d.def_ 29 (d := d_Lookout_place_now)
theorem Tx.F_Lookout_hear (T : Tx K mg base) : FnP K "hear" "Lookout.hear" s_Lookout_hear (mA K "Lookout" "hear") := T.d.def_ 30 (d := d_Lookout_hear)
theorem Tx.F_Lookout_set_to (T : Tx K mg base) : FnP K "set_to" "Lookout.set_to" s_Lookout_set_to (mA K "Lookout" "set_to") := T.d.def_ 31 (d := d_Lookout_set_to)
theorem Tx.F_Lookout_back (T : Tx K mg base) : FnP K "back" "Lookout.back" s_Lookout_back (mA K "Lookout" "back") := T.d.def_ 32 (d := d_Lookout_back)
theorem Tx.F_Lookout_enter (T : Tx K mg base) : FnP K "enter" "Lookout.enter" s_Lookout_enter (mA K "Lookout" "enter") := T.d.def_ 33 (d := d_Lookout_enter)
theorem Tx.F_Lookout_leave (T : Tx K mg base) : FnP K "leave" "Lookout.leave" s_Lookout_leave (mA K "Lookout" "leave") := T.d.def_ 34 (d := d_Lookout_leave)
theorem Tx.F_Lookout_news (T : Tx K mg base) : FnP K "news" "Lookout.news" s_Lookout_news (mA K "Lookout" "news") := T.d.def_ 35 (d := d_Lookout_news)
theorem Tx.F_Store_init (T : Tx K mg base) : FnP K "__init__" "Store.__init__" s_Store_init (mA K "Store" "__init__") := T.d.def_ 36 (d := d_Store_init)
theorem Tx.F_Store_look_table (T : Tx K mg base) : FnP K "look_table" "Store.look_table" s_Store_look_table (mA K "Store" "look_table") := T.d.def_ 37 (d := d_Store_look_table)
theorem Tx.F_Store_tell (T : Tx K mg base) : FnP K "tell" "Store.tell" s_Store_tell (mA K "Store" "tell") := T.d.def_ 38 (d := d_Store_tell)
theorem Tx.F_Store_empty (T : Tx K mg base) : FnP K "empty" "Store.empty" s_Store_empty (mA K "Store" "empty") := T.d.def_ 39 (d := d_Store_empty)
theorem Tx.F_Store_way_from (T : Tx K mg base) : FnP K "way_from" "Store.way_from" s_Store_way_from (mA K "Store" "way_from") := T.d.def_ 40 (d := d_Store_way_from)
theorem Tx.F_Store_way (T : Tx K mg base) : FnP K "way" "Store.way" s_Store_way (mA K "Store" "way") := T.d.def_ 41 (d := d_Store_way)
theorem Tx.F_Store_looked (T : Tx K mg base) : FnP K "looked" "Store.looked" s_Store_looked (mA K "Store" "looked") := T.d.def_ 42 (d := d_Store_looked)
theorem Tx.F_Store_pairs (T : Tx K mg base) : FnP K "pairs" "Store.pairs" s_Store_pairs (mA K "Store" "pairs") := T.d.def_ 43 (d := d_Store_pairs)
theorem Tx.F_Store_node (T : Tx K mg base) : FnP K "node" "Store.node" s_Store_node (mA K "Store" "node") := T.d.def_ 44 (d := d_Store_node)
theorem Tx.F_Store_made (T : Tx K mg base) : FnP K "made" "Store.made" s_Store_made (mA K "Store" "made") := T.d.def_ 45 (d := d_Store_made)
theorem Tx.F_Store_parted (T : Tx K mg base) : FnP K "parted" "Store.parted" s_Store_parted (mA K "Store" "parted") := T.d.def_ 46 (d := d_Store_parted)
theorem Tx.F_Store_put_at (T : Tx K mg base) : FnP K "put_at" "Store.put_at" s_Store_put_at (mA K "Store" "put_at") := T.d.def_ 47 (d := d_Store_put_at)
theorem Tx.F_Store_put (T : Tx K mg base) : FnP K "put" "Store.put" s_Store_put (mA K "Store" "put") := T.d.def_ 48 (d := d_Store_put)
theorem Tx.F_Store_lone_leaf (T : Tx K mg base) : FnP K "lone_leaf" "Store.lone_leaf" s_Store_lone_leaf (mA K "Store" "lone_leaf") := T.d.def_ 49 (d := d_Store_lone_leaf)
theorem Tx.F_Store_left_at (T : Tx K mg base) : FnP K "left_at" "Store.left_at" s_Store_left_at (mA K "Store" "left_at") := T.d.def_ 50 (d := d_Store_left_at)
theorem Tx.F_Store_without (T : Tx K mg base) : FnP K "without" "Store.without" s_Store_without (mA K "Store" "without") := T.d.def_ 51 (d := d_Store_without)
theorem Tx.F_Stop_init (T : Tx K mg base) : FnP K "__init__" "Stop.__init__" s_Stop_init (mA K "Stop" "__init__") := T.d.def_ 52 (d := d_Stop_init)
theorem Tx.F_Stop_is_of (T : Tx K mg base) : FnP K "is_of" "Stop.is_of" s_Stop_is_of (mA K "Stop" "is_of") := T.d.def_ 53 (d := d_Stop_is_of)
theorem Tx.F_Roads_init (T : Tx K mg base) : FnP K "__init__" "Roads.__init__" s_Roads_init (mA K "Roads" "__init__") := T.d.def_ 54 (d := d_Roads_init)
theorem Tx.F_Roads_stop_at (T : Tx K mg base) : FnP K "stop_at" "Roads.stop_at" s_Roads_stop_at (mA K "Roads" "stop_at") := T.d.def_ 55 (d := d_Roads_stop_at)
theorem Tx.F_Roads_table_behind (T : Tx K mg base) : FnP K "table_behind" "Roads.table_behind" s_Roads_table_behind (mA K "Roads" "table_behind") := T.d.def_ 56 (d := d_Roads_table_behind)
theorem Tx.F_Roads_go_on (T : Tx K mg base) : FnP K "go_on" "Roads.go_on" s_Roads_go_on (mA K "Roads" "go_on") := T.d.def_ 57 (d := d_Roads_go_on)
theorem Tx.F_Roads_put (T : Tx K mg base) : FnP K "put" "Roads.put" s_Roads_put (mA K "Roads" "put") := T.d.def_ 58 (d := d_Roads_put)
theorem Tx.F_Roads_clear (T : Tx K mg base) : FnP K "clear" "Roads.clear" s_Roads_clear (mA K "Roads" "clear") := T.d.def_ 59 (d := d_Roads_clear)
theorem Tx.F_Roads_last (T : Tx K mg base) : FnP K "last" "Roads.last" s_Roads_last (mA K "Roads" "last") := T.d.def_ 60 (d := d_Roads_last)
theorem Tx.F_Roads_walked (T : Tx K mg base) : FnP K "walked" "Roads.walked" s_Roads_walked (mA K "Roads" "walked") := T.d.def_ 61 (d := d_Roads_walked)
theorem Tx.F_Roads_store (T : Tx K mg base) : FnP K "store" "Roads.store" s_Roads_store (mA K "Roads" "store") := T.d.def_ 62 (d := d_Roads_store)
theorem Tx.F_Roads_table (T : Tx K mg base) : FnP K "table" "Roads.table" s_Roads_table (mA K "Roads" "table") := T.d.def_ 63 (d := d_Roads_table)
theorem Tx.F_Roads_looked (T : Tx K mg base) : FnP K "looked" "Roads.looked" s_Roads_looked (mA K "Roads" "looked") := T.d.def_ 64 (d := d_Roads_looked)
theorem Tx.F_Roads_all_at (T : Tx K mg base) : FnP K "all_at" "Roads.all_at" s_Roads_all_at (mA K "Roads" "all_at") := T.d.def_ 65 (d := d_Roads_all_at)
theorem Tx.F_Tokens_init (T : Tx K mg base) : FnP K "__init__" "Tokens.__init__" s_Tokens_init (mA K "Tokens" "__init__") := T.d.def_ 66 (d := d_Tokens_init)
theorem Tx.F_Tokens_issue (T : Tx K mg base) : FnP K "issue" "Tokens.issue" s_Tokens_issue (mA K "Tokens" "issue") := T.d.def_ 67 (d := d_Tokens_issue)
theorem Tx.F_Tokens_check (T : Tx K mg base) : FnP K "check" "Tokens.check" s_Tokens_check (mA K "Tokens" "check") := T.d.def_ 68 (d := d_Tokens_check)
theorem Tx.F_Tokens_last_like (T : Tx K mg base) : FnP K "last_like" "Tokens.last_like" s_Tokens_last_like (mA K "Tokens" "last_like") := T.d.def_ 69 (d := d_Tokens_last_like)
theorem Tx.F_Tokens_use (T : Tx K mg base) : FnP K "use" "Tokens.use" s_Tokens_use (mA K "Tokens" "use") := T.d.def_ 70 (d := d_Tokens_use)
theorem Tx.F_Hall_init (T : Tx K mg base) : FnP K "__init__" "Hall.__init__" s_Hall_init (mA K "Hall" "__init__") := T.d.def_ 71 (d := d_Hall_init)
theorem Tx.F_Hall_declare (T : Tx K mg base) : FnP K "declare" "Hall.declare" s_Hall_declare (mA K "Hall" "declare") := T.d.def_ 72 (d := d_Hall_declare)
theorem Tx.F_Hall_settings (T : Tx K mg base) : FnP K "settings" "Hall.settings" s_Hall_settings (mA K "Hall" "settings") := T.d.def_ 73 (d := d_Hall_settings)
theorem Tx.F_Hall_roads (T : Tx K mg base) : FnP K "roads" "Hall.roads" s_Hall_roads (mA K "Hall" "roads") := T.d.def_ 74 (d := d_Hall_roads)
theorem Tx.F_Hall_worlds (T : Tx K mg base) : FnP K "worlds" "Hall.worlds" s_Hall_worlds (mA K "Hall" "worlds") := T.d.def_ 75 (d := d_Hall_worlds)
theorem Tx.F_Hall_check_world (T : Tx K mg base) : FnP K "check_world" "Hall.check_world" s_Hall_check_world (mA K "Hall" "check_world") := T.d.def_ 76 (d := d_Hall_check_world)
theorem Tx.F_Hall_check_name (T : Tx K mg base) : FnP K "check_name" "Hall.check_name" s_Hall_check_name (mA K "Hall" "check_name") := T.d.def_ 77 (d := d_Hall_check_name)
theorem Tx.F_Hall_place (T : Tx K mg base) : FnP K "place" "Hall.place" s_Hall_place (mA K "Hall" "place") := T.d.def_ 78 (d := d_Hall_place)
theorem Tx.F_Hall_now (T : Tx K mg base) : FnP K "now" "Hall.now" s_Hall_now (mA K "Hall" "now") := T.d.def_ 79 (d := d_Hall_now)
theorem Tx.F_Hall_copy (T : Tx K mg base) : FnP K "copy" "Hall.copy" s_Hall_copy (mA K "Hall" "copy") := T.d.def_ 80 (d := d_Hall_copy)
theorem Tx.F_Hall_enter (T : Tx K mg base) : FnP K "enter" "Hall.enter" s_Hall_enter (mA K "Hall" "enter") := T.d.def_ 81 (d := d_Hall_enter)
theorem Tx.F_Hall_leave (T : Tx K mg base) : FnP K "leave" "Hall.leave" s_Hall_leave (mA K "Hall" "leave") := T.d.def_ 82 (d := d_Hall_leave)
theorem Tx.F_Hall_value_in (T : Tx K mg base) : FnP K "value_in" "Hall.value_in" s_Hall_value_in (mA K "Hall" "value_in") := T.d.def_ 83 (d := d_Hall_value_in)
theorem Tx.F_Hall_set_to (T : Tx K mg base) : FnP K "set_to" "Hall.set_to" s_Hall_set_to (mA K "Hall" "set_to") := T.d.def_ 84 (d := d_Hall_set_to)
theorem Tx.F_Hall_back (T : Tx K mg base) : FnP K "back" "Hall.back" s_Hall_back (mA K "Hall" "back") := T.d.def_ 85 (d := d_Hall_back)
theorem Tx.F_Hall_look_or (T : Tx K mg base) : FnP K "look_or" "Hall.look_or" s_Hall_look_or (mA K "Hall" "look_or") := T.d.def_ 86 (d := d_Hall_look_or)
theorem Tx.F_law_cell_at (T : Tx K mg base) : FnP K "_law_cell_at" "_law_cell_at" s_law_cell_at (gA K "_law_cell_at") := T.d.def_ 87 (d := d_law_cell_at)
theorem Tx.F_law_box (T : Tx K mg base) : FnP K "_law_box" "_law_box" s_law_box (gA K "_law_box") := T.d.def_ 88 (d := d_law_box)
theorem Tx.F_law_take (T : Tx K mg base) : FnP K "_law_take" "_law_take" s_law_take (gA K "_law_take") := T.d.def_ 89 (d := d_law_take)
theorem Tx.F_law_names (T : Tx K mg base) : FnP K "_law_names" "_law_names" s_law_names (gA K "_law_names") := T.d.def_ 90 (d := d_law_names)
theorem Tx.F_law_value (T : Tx K mg base) : FnP K "_law_value" "_law_value" s_law_value (gA K "_law_value") := T.d.def_ 91 (d := d_law_value)
theorem Tx.F_law_twin (T : Tx K mg base) : FnP K "_law_twin" "_law_twin" s_law_twin (gA K "_law_twin") := T.d.def_ 92 (d := d_law_twin)
theorem Tx.F_law_settings (T : Tx K mg base) : FnP K "_law_settings" "_law_settings" s_law_settings (gA K "_law_settings") := T.d.def_ 93 (d := d_law_settings)
theorem Tx.F_law_same (T : Tx K mg base) : FnP K "_law_same" "_law_same" s_law_same (gA K "_law_same") := T.d.def_ 94 (d := d_law_same)
theorem Tx.F_law_tried (T : Tx K mg base) : FnP K "_law_tried" "_law_tried" s_law_tried (gA K "_law_tried") := T.d.def_ 95 (d := d_law_tried)
theorem Tx.F_law_news_right (T : Tx K mg base) : FnP K "_law_news_right" "_law_news_right" s_law_news_right (gA K "_law_news_right") := T.d.def_ 96 (d := d_law_news_right)
theorem Tx.F_law_shown_right (T : Tx K mg base) : FnP K "_law_shown_right" "_law_shown_right" s_law_shown_right (gA K "_law_shown_right") := T.d.def_ 97 (d := d_law_shown_right)
theorem Tx.F_law (T : Tx K mg base) : FnP K "law" "law" s_law (gA K "law") := T.d.def_ 98 (d := d_law)
theorem Tx.eb_Busy (T : Tx K mg base) : errB K "Busy" = true := List.all_eq_true.mp (Bool.and_eq_true_iff.mp (Bool.and_eq_true_iff.mp T.ex).1).1 _ (by decide)
theorem Tx.eb_AtHome (T : Tx K mg base) : errB K "AtHome" = true := List.all_eq_true.mp (Bool.and_eq_true_iff.mp (Bool.and_eq_true_iff.mp T.ex).1).1 _ (by decide)
theorem Tx.eb_NoToken (T : Tx K mg base) : errB K "NoToken" = true := List.all_eq_true.mp (Bool.and_eq_true_iff.mp (Bool.and_eq_true_iff.mp T.ex).1).1 _ (by decide)
theorem Tx.eb_Used (T : Tx K mg base) : errB K "Used" = true := List.all_eq_true.mp (Bool.and_eq_true_iff.mp (Bool.and_eq_true_iff.mp T.ex).1).1 _ (by decide)
theorem Tx.eb_Elsewhere (T : Tx K mg base) : errB K "Elsewhere" = true := List.all_eq_true.mp (Bool.and_eq_true_iff.mp (Bool.and_eq_true_iff.mp T.ex).1).1 _ (by decide)
theorem Tx.eb_OutOfTurn (T : Tx K mg base) : errB K "OutOfTurn" = true := List.all_eq_true.mp (Bool.and_eq_true_iff.mp (Bool.and_eq_true_iff.mp T.ex).1).1 _ (by decide)
theorem oex_of {x : Str} (h : errB K x = true) : OexC K (gA K x) ∧ PySem.W.findIn K (.ref (gA K x)) "__init__" = some (some (.ref (mA K x "__init__"))) ∧ PySem.W.typeIn K (.ref (mA K x "__init__")) = some (.type "function") := by
  unfold errB at h
  obtain ⟨h1, h⟩ := Bool.and_eq_true_iff.mp h
  obtain ⟨h2, h⟩ := Bool.and_eq_true_iff.mp h
  obtain ⟨h3, h⟩ := Bool.and_eq_true_iff.mp h
  obtain ⟨h4, h⟩ := Bool.and_eq_true_iff.mp h
  obtain ⟨h5, h⟩ := Bool.and_eq_true_iff.mp h
  obtain ⟨h6, h7⟩ := Bool.and_eq_true_iff.mp h
  refine ⟨⟨?_, He.eqO_ok h2, of_decide_eq_true h3, of_decide_eq_true h4, h5⟩, He.eqO_ok h6, of_decide_eq_true h7⟩
  unfold oexB at h1
  split at h1
  · rename_i ty dd cd sl e
    split at h1
    · rename_i C' bm k0 k1 k2 k3 n k5 em es
      obtain ⟨a1, h1⟩ := Bool.and_eq_true_iff.mp h1
      obtain ⟨a2, h1⟩ := Bool.and_eq_true_iff.mp h1
      obtain ⟨a3, h1⟩ := Bool.and_eq_true_iff.mp h1
      obtain ⟨a4, h1⟩ := Bool.and_eq_true_iff.mp h1
      obtain ⟨a5, a6⟩ := Bool.and_eq_true_iff.mp h1
      have a1 := of_decide_eq_true a1
      have a2 := of_decide_eq_true a2
      have a3 := of_decide_eq_true a3
      obtain ⟨nm, bs, mro, ns, qn, hd, sn, sub, ab, col, del⟩ := cd
      dsimp only at em a4 a5
      subst em a1 a2 a3 a5
      have hdel : del = false := by simpa using a4
      subst hdel
      have hsl : sl = #[k0, k1, k2, k3, some (.builtin "ValueError.__new__"), k5] := by
        obtain ⟨l⟩ := sl
        simp only at es
        rw [es]
      subst hsl
      exact ⟨nm, qn, ns, bs, bm, sn, sub, ab, col, dd, k0, k1, k2, k3, k5, e, a6⟩
    · cases h1
  · cases h1
theorem Tx.road (T : Tx K mg base) : PySem.W.readsIn K (gA K "RoadError") (.type "type") = true ∧ PySem.W.specialIn K (.ref (gA K "RoadError")) "__getattribute__" = some (some (.builtin "type.__getattribute__")) ∧ PySem.W.findCls K (.ref (gA K "RoadError")) (.type "type") "__init__" = some (.val (.builtin "ValueError.__init__")) := by
  have z := (Bool.and_eq_true_iff.mp (Bool.and_eq_true_iff.mp (Bool.and_eq_true_iff.mp T.ex).1).2).1
  obtain ⟨z1, z2⟩ := Bool.and_eq_true_iff.mp z
  obtain ⟨z2, z3⟩ := Bool.and_eq_true_iff.mp z2
  refine ⟨z1, He.eqO_ok z2, ?_⟩
  split at z3
  · rename_i n q
    have e : n = "ValueError.__init__" := of_decide_eq_true z3
    rw [← e]
    exact q
  · cases z3
theorem Tx.two (T : Tx K mg base) : (He.cT K ("pairs_with", none)).2 ≠ (He.cT K ("Store", some "pairs")).2 :=
  of_decide_eq_true (Bool.and_eq_true_iff.mp (Bool.and_eq_true_iff.mp (Bool.and_eq_true_iff.mp T.ex).1).2).2
theorem Tx.first (T : Tx K mg base) (H : Hp) : SqT K H (gA K "FIRST") [.str "bare"] := He.tupB_ok (Bool.and_eq_true_iff.mp (Bool.and_eq_true_iff.mp T.ex).2).1 H
theorem Tx.noparts (T : Tx K mg base) (H : Hp) : SqT K H (gA K "NO_PARTS") [.int 0, .int 0, .int 0, .int 0] := He.tupB_ok (Bool.and_eq_true_iff.mp (Bool.and_eq_true_iff.mp T.ex).2).2 H
end
end RS

/-! text PB -/
set_option Elab.async false
set_option linter.all false
set_option maxRecDepth 100000
set_option maxHeartbeats 1000000
/-! The ground: a def and its promise (Df), calls by it, what a call keeps of the abstract heap (Kp). -/
namespace RS
open PySem PySem.Spec PyProof.Rows L2
/-! ### defs -/
/-- a def at f that keeps the promise sp; no default stands for a parameter -/
structure Df (P : Program) (w : World) (K : PySem.W.Frag) (mg : Str → Option Value) (base : Heap) (CX : CXT) (k : Nat) (f : Addr) (sp : Sp) : Prop where
  ex : ∃ (fd : FuncData) (ps : List Str), FnOk P w K mg base CX k f fd ps sp ∧ Binds K fd ps []
  kp : PySem.W.keepIn K (.ref f) = true
section
variable {P : Program} {w : World} {K : PySem.W.Frag} {mg : Str → Option Value} {base : Heap} {CX : CXT} {j k : Nat} {f : Addr} {sp sp' : Sp}
theorem Df.mono (D : Df P w K mg base CX j f sp) (h : j ≤ k) : Df P w K mg base CX k f sp := by
  obtain ⟨⟨fd, ps, F, b⟩, q⟩ := D
  exact ⟨⟨fd, ps, F.mono h, b⟩, q⟩
theorem Df.imp (D : Df P w K mg base CX k f sp) (h : ∀ vs H Q E, sp' vs H Q E → sp vs H Q E) : Df P w K mg base CX k f sp' := by
  obtain ⟨⟨fd, ps, F, b⟩, q⟩ := D
  exact ⟨⟨fd, ps, F.imp h, b⟩, q⟩
variable {x qual : Str} {st : Stmt} {N ps : List Str}
abbrev BindP (x qual : Str) (st : Stmt) (ps : List Str) : Prop :=
  ∀ (a b c : Value) (an : Option Addr) (d e : Value) (us : List Value), us.length = ps.length → bindArgs (PySem.W.fnOf x qual (defArgs st) (defBody st) (defScope st) .none a b c an d e) ⟨us, []⟩ = pure (ps.zip us)
/-- a def that lets no exception out -/
theorem df0 (F : FnP K x qual st f) (S : FnScope N ps (defScope st)) (bd : BindP x qual st ps) (len : ∀ vs H Q E, sp vs H Q E → vs.length = ps.length)
    (body : ∀ (cd : Value) (A : Around) (outer : List Env) (s : Shared) (H : Hp) (vs : List V) (Q : VK) (E : XK), Room k (A.deeper (envOfC qual (defScope st) s.heap.objs.size f cd)) → sp vs H Q E →
      ∃ t, PSs (cxOf CX0 P w K mg base N qual (defScope st) f cd A outer s H E).nox (defBody st) t ∧ t { nx := fun _ H' => Q .non H', rt := Q } (start N vs) H) : Df P w K mg base CX0 (k + 1) f sp := by
  obtain ⟨fd, F⟩ := F
  refine ⟨⟨fd, ps, F.ok S len fun cd A outer s H vs Q E hr h => ?_, F.bindsN bd⟩, F.kp⟩
  obtain ⟨t, h1, h2⟩ := body cd A outer s H vs Q E hr h
  exact ⟨t, h1.nox, h2⟩
/-- the same, its code object told -/
theorem df0c {c : Str × Option Str} (F : FnP K x qual st (He.fAd K c)) (S : FnScope N ps (defScope st)) (bd : BindP x qual st ps) (len : ∀ vs H Q E, sp vs H Q E → vs.length = ps.length)
    (body : ∀ (A : Around) (outer : List Env) (s : Shared) (H : Hp) (vs : List V) (Q : VK) (E : XK), Room k (A.deeper (envOfC qual (defScope st) s.heap.objs.size (He.fAd K c) (.ref (He.codeOf K c)))) → sp vs H Q E →
      ∃ t, PSs (cxOf CX0 P w K mg base N qual (defScope st) (He.fAd K c) (.ref (He.codeOf K c)) A outer s H E).nox (defBody st) t ∧ t { nx := fun _ H' => Q .non H', rt := Q } (start N vs) H) : Df P w K mg base CX0 (k + 1) (He.fAd K c) sp := by
  obtain ⟨fd, F⟩ := F
  refine ⟨⟨fd, ps, ?_, F.bindsN bd⟩, F.kp⟩
  obtain ⟨oc, od, dV, kV, doc, pm, an, cdv, ct, osl, rfl, lk, hcd, _, _⟩ := F.ex
  obtain ⟨cc, rfl⟩ := He.codeIn_ref hcd
  have e : He.codeOf K c = cc := He.codeOf_eq lk rfl
  refine fn_of lk hcd S len fun A outer s H vs Q E hr h => ?_
  rw [e] at body
  obtain ⟨t, h1, h2⟩ := body A outer s H vs Q E hr h
  exact ⟨t, h1.nox, h2⟩
/-- a def that may raise -/
theorem dfX (F : FnP K x qual st f) (S : FnScope N ps (defScope st)) (bd : BindP x qual st ps) (len : ∀ vs H Q E, sp vs H Q E → vs.length = ps.length)
    (body : ∀ (cd : Value) (A : Around) (outer : List Env) (s : Shared) (H : Hp) (vs : List V) (Q : VK) (E : XK), Room k (A.deeper (envOfC qual (defScope st) s.heap.objs.size f cd)) → sp vs H Q E →
      ∃ t, PSs (cxOf (L2.CX P w) P w K mg base N qual (defScope st) f cd A outer s H E) (defBody st) t ∧ t { nx := fun _ H' => Q .non H', rt := Q } (start N vs) H) : Df P w K mg base (L2.CX P w) (k + 1) f sp := by
  obtain ⟨fd, F⟩ := F
  exact ⟨⟨fd, ps, F.ok S len fun cd A outer s H vs Q E hr h => body cd A outer s H vs Q E hr h, F.bindsN bd⟩, F.kp⟩
end
/-! ### calls -/
section
variable {X : Cx} {k : Nat} {f C : Addr} {sp : Sp} {x m : Str} {p pos apos : Pos} {e o : Expr} {es : List Expr} {ta : TE} {t : TA} {E : XK} {CX : CXT}
theorem pe_c (D : Df X.prog X.w X.K X.mg X.base CX0 k f sp) (hr : Room k X.A) (hm : X.mg x = some (.ref f)) (ha : PA X (e :: es) t) (hg : Gl X x := by rfl) (hdb : (x == ("__debug__" : Str)) = false := by decide)
    (he : starEach (e :: es) X.env = (false, eval e X.env) :: starEach es X.env := by rfl) (hpl : (backTo pos (starEach es X.env)).any (·.1) = false := by rfl) : PE X (.Call (.Name x p) (e :: es) [] pos) (tCall sp [] E0 t) := by
  obtain ⟨⟨fd, ps, F, b⟩, q⟩ := D
  exact pe_call F hr hg hm q b .nil pass0 ha hdb he hpl
/-- .. that may raise, in a def that may raise alike -/
theorem pe_cX (hx : Passes CX X E) (D : Df X.prog X.w X.K X.mg X.base CX k f sp) (hr : Room k X.A) (hm : X.mg x = some (.ref f)) (ha : PA X (e :: es) t) (hg : Gl X x := by rfl) (hdb : (x == ("__debug__" : Str)) = false := by decide)
    (he : starEach (e :: es) X.env = (false, eval e X.env) :: starEach es X.env := by rfl) (hpl : (backTo pos (starEach es X.env)).any (·.1) = false := by rfl) : PE X (.Call (.Name x p) (e :: es) [] pos) (tCall sp [] E t) := by
  obtain ⟨⟨fd, ps, F, b⟩, q⟩ := D
  exact pe_call F hr hg hm q b .nil hx ha hdb he hpl
abbrev MCall (X : Cx) (o : Expr) (m : Str) (apos : Pos) (es : List Expr) (pos : Pos) (pl : Sem Bool) : Prop :=
  eval (.Call (.Attribute o m apos) es [] pos) X.env = (do
      let ov ← eval o X.env
      standAt apos.atName
      let (f, first) ← holding [ov] (getMethod ov m pl)
      callWith pos f first (backTo pos (starEach es X.env)) (backToKw pos (keywordEach [] X.env)))
theorem pe_m {pl : Sem Bool} (D : Df X.prog X.w X.K X.mg X.base CX0 k f sp) (hr : Room k X.A) (c : Cls X.K C) (hm : Meth X.K C m f) (he : PE X o ta) (ha : PA X (e :: es) t)
    (h1 : starEach (e :: es) X.env = (false, eval e X.env) :: starEach es X.env := by rfl) (h2 : (backTo pos (starEach es X.env)).any (·.1) = false := by rfl) (h3 : MCall X o m apos (e :: es) pos pl := by rfl) :
    PE X (.Call (.Attribute o m apos) (e :: es) [] pos) (tMeth C m sp [] E0 ta t) := by
  obtain ⟨⟨fd, ps, F, b⟩, q⟩ := D
  exact pe_meth (pl := pl) he c hm F hr b .nil pass0 ha h1 h2 h3
theorem pe_m0 {pl : Sem Bool} (D : Df X.prog X.w X.K X.mg X.base CX0 k f sp) (hr : Room k X.A) (c : Cls X.K C) (hm : Meth X.K C m f) (he : PE X o ta) (h3 : MCall X o m apos [] pos pl := by rfl) :
    PE X (.Call (.Attribute o m apos) [] [] pos) (tMeth C m sp [] E0 ta tNil) := by
  obtain ⟨⟨fd, ps, F, b⟩, q⟩ := D
  exact pe_meth0 (pl := pl) he c hm F hr b .nil pass0 h3
theorem pe_mX {pl : Sem Bool} (hx : Passes CX X E) (D : Df X.prog X.w X.K X.mg X.base CX k f sp) (hr : Room k X.A) (c : Cls X.K C) (hm : Meth X.K C m f) (he : PE X o ta) (ha : PA X (e :: es) t)
    (h1 : starEach (e :: es) X.env = (false, eval e X.env) :: starEach es X.env := by rfl) (h2 : (backTo pos (starEach es X.env)).any (·.1) = false := by rfl) (h3 : MCall X o m apos (e :: es) pos pl := by rfl) :
    PE X (.Call (.Attribute o m apos) (e :: es) [] pos) (tMeth C m sp [] E ta t) := by
  obtain ⟨⟨fd, ps, F, b⟩, q⟩ := D
  exact pe_meth (pl := pl) he c hm F hr b .nil hx ha h1 h2 h3
theorem pe_m0X {pl : Sem Bool} (hx : Passes CX X E) (D : Df X.prog X.w X.K X.mg X.base CX k f sp) (hr : Room k X.A) (c : Cls X.K C) (hm : Meth X.K C m f) (he : PE X o ta) (h3 : MCall X o m apos [] pos pl := by rfl) :
    PE X (.Call (.Attribute o m apos) [] [] pos) (tMeth C m sp [] E ta tNil) := by
  obtain ⟨⟨fd, ps, F, b⟩, q⟩ := D
  exact pe_meth0 (pl := pl) he c hm F hr b .nil hx h3
theorem pe_k (D : Df X.prog X.w X.K X.mg X.base CX0 k f sp) (hr : Room (k + 1) X.A) (M : Mk X.K C f) (hm : X.mg x = some (.ref C)) (ha : PA X (e :: es) t) (hg : Gl X x := by rfl) (hdb : (x == ("__debug__" : Str)) = false := by decide)
    (he : starEach (e :: es) X.env = (false, eval e X.env) :: starEach es X.env := by rfl) (hpl : (backTo pos (starEach es X.env)).any (·.1) = false := by rfl) : PE X (.Call (.Name x p) (e :: es) [] pos) (tMake C sp [] E0 t) := by
  obtain ⟨⟨fd, ps, F, b⟩, q⟩ := D
  exact pe_make M F hr hg hm b .nil pass0 ha hdb he hpl
theorem pe_k0 (D : Df X.prog X.w X.K X.mg X.base CX0 k f sp) (hr : Room (k + 1) X.A) (M : Mk X.K C f) (hm : X.mg x = some (.ref C)) (hg : Gl X x := by rfl) (hdb : (x == ("__debug__" : Str)) = false := by decide) :
    PE X (.Call (.Name x p) [] [] pos) (tMake C sp [] E0 tNil) := by
  obtain ⟨⟨fd, ps, F, b⟩, q⟩ := D
  exact pe_make0 M F hr hg hm b .nil pass0 hdb
end
/-! ### operators that serve several kinds of values, the reading picks one -/
section
variable {X : Cx}
def rPlus (K : PySem.W.Frag) : R2 := fun x y H Q => (∃ i j, x = .int i ∧ y = .int j ∧ Q (.int (i + j)) H) ∨ ((∃ i j, x = .str i ∧ y = .str j ∧ i.length + j.length ≤ sizeLine ∧ Q (.str (i ++ j)) H) ∨ rCat x y H Q)
theorem op_plus : OpR X (binaryOp .Add) (rPlus X.K) := OpR.or op_add (OpR.or op_add_str op_cat)
end
theorem sz_le {n : Nat} (h : n ≤ 100000) : n ≤ sizeLine := Nat.le_trans h (by decide)
theorem sz_lt {n : Nat} (h : n < 100000) : n < sizeLine := Nat.lt_of_lt_of_le h (by decide)
/-! ### what a call keeps -/
abbrev Tbs := List (Addr × Str)
/-- an object that never changes, or stands out of M -/
def Ok (M : Addr → Prop) (b : Addr) : HO → Prop
  | .tbl _ => False
  | .tup _ => True
  | .frz _ _ => True
  | .ins _ _ _ => True
  | _ => ¬ M b
/-- an object that the tables do not lean on -/
def Pl : HO → Prop
  | .tbl _ => False
  | .ext _ => False
  | _ => True
/-- nothing is tracked at b, but a table perhaps -/
def NN (H : Hp) (b : Addr) : Prop := ∀ o, H b = some o → ∃ ps, o = .tbl ps
theorem NN.of {H : Hp} {b : Addr} (h : H b = none) : NN H b := fun o e => by rw [h] at e; cases e
structure Kp (T : Tbs) (M : Addr → Prop) (H H' : Hp) : Prop where
  k : ∀ b o, H b = some o → Ok M b o → H' b = some o
  t : LamX.Tabs T H → LamX.Tabs T H'
  s : ∀ b, NN H' b → NN H b
abbrev M0 : Addr → Prop := fun _ => False
theorem tabs_upd {T : Tbs} {H : Hp} {a : Addr} {o o' : HO} (h : H a = some o) (hp : Pl o) (t : LamX.Tabs T H) : LamX.Tabs T (upd H a o') := fun p m => by
  obtain ⟨ps, h1, h2, h3⟩ := t p m
  refine ⟨ps, ?_, h2, fun q cv hc => ?_⟩
  · rw [upd_ne]
    · exact h1
    · intro e; rw [e, h] at h1; cases h1; exact hp
  · obtain ⟨c, e1, e2⟩ := h3 q cv hc
    refine ⟨c, e1, ?_⟩
    rw [upd_ne]
    · exact e2
    · intro e; rw [e, h] at e2; cases e2; exact hp
theorem NN.upd {H : Hp} {a b : Addr} {o : HO} (hp : Pl o ∨ H a = none) (h : NN (upd H a o) b) : NN H b := fun u e => by
  by_cases z : b = a
  · subst z
    rcases hp with hp | hp
    · obtain ⟨ps, q⟩ := h o upd_same
      rw [q] at hp
      exact hp.elim
    · rw [hp] at e; cases e
  · exact h u (by rw [upd_ne z]; exact e)
theorem Ok.nn {M : Addr → Prop} {H : Hp} {a b : Addr} {o : HO} (q : Ok M b o) (h : H b = some o) (hn : NN H a) : b ≠ a := fun e => by
  rw [e] at h
  obtain ⟨ps, z⟩ := hn o h
  rw [z] at q
  exact q
section
variable {T : Tbs} {M N : Addr → Prop} {H H1 H2 : Hp} {a b : Addr} {o o' : HO}
theorem Kp.refl : Kp T M H H := ⟨fun _ _ h _ => h, id, fun _ h => h⟩
theorem Kp.trans (x : Kp T M H H1) (y : Kp T M H1 H2) : Kp T M H H2 := ⟨fun b o h q => y.k b o (x.k b o h q) q, fun t => y.t (x.t t), fun b h => x.s b (y.s b h)⟩
theorem Ok.mono (h : ∀ b, N b → M b) (q : Ok M b o) : Ok N b o := by
  cases o <;> first | exact q | exact fun z => q (h _ z)
theorem Kp.mono (x : Kp T N H H1) (h : ∀ b, N b → M b) : Kp T M H H1 := ⟨fun b o e q => x.k b o e (q.mono h), x.t, x.s⟩
theorem Kp.m0 (x : Kp T M0 H H1) : Kp T M H H1 := x.mono fun _ z => z.elim
theorem Kp.nn (x : Kp T M H H1) (h : H1 a = none) : NN H a := x.s a (.of h)
/-- what is there stays there -/
theorem Kp.new (x : Kp T M H H1) (h : H1 a = none) : Kp T M H (upd H1 a o) :=
  ⟨fun b u e q => by rw [upd_ne (ne_of_none (x.k b u e q) h)]; exact x.k b u e q, fun t => (x.t t).ext fun b u e => by rw [upd_ne (ne_of_none e h)]; exact e, fun b e => x.s b (e.upd (.inr h))⟩
/-- an object of M is written -/
theorem Kp.upd (x : Kp T M H H1) (h : H1 a = some o) (hp : Pl o) (hm : ¬ Ok M a o) (hp' : Pl o' := by trivial) : Kp T M H (L2.upd H1 a o') :=
  ⟨fun b u e q => by
    have z := x.k b u e q
    rw [upd_ne]
    · exact z
    · intro y; rw [y] at z q; rw [h] at z; cases z; exact hm q, fun t => tabs_upd h hp (x.t t), fun b e => x.s b (e.upd (.inl hp'))⟩
/-- an object that is new since H is written -/
theorem Kp.mut (x : Kp T M H H1) (hn : NN H a) (h : H1 a = some o) (hp : Pl o) (hp' : Pl o' := by trivial) : Kp T M H (L2.upd H1 a o') :=
  ⟨fun b u e q => by rw [upd_ne (q.nn e hn)]; exact x.k b u e q, fun t => tabs_upd h hp (x.t t), fun b e => x.s b (e.upd (.inl hp'))⟩
/-- a new instance -/
theorem Kp.made {C dx : Addr} (x : Kp T M H H1) (h1 : H1 a = none) (h2 : H1 dx = none) (ne : dx ≠ a) : Kp T M H (L2.upd (L2.upd H1 dx (.own a)) a (.ins C dx [])) := by
  refine (x.new h2).new ?_
  rw [upd_ne (Ne.symm ne)]
  exact h1
/-- a lambda is made -/
theorem Kp.lam (x : Kp T M H H1) (e : LamX.ExtN H1 H2) (t : LamX.Tabs T H2) : Kp T M H H2 :=
  ⟨fun b u h q => e b u (x.k b u h q) fun ps z => by rw [z] at q; exact q, fun _ => t, fun b h => x.s b fun u hu => by
    cases u with
    | tbl ps => exact ⟨ps, rfl⟩
    | _ => obtain ⟨ps, z⟩ := h _ (e b _ hu (fun ps z => by cases z)); cases z⟩
theorem Kp.tup (x : Kp T M H H1) {xs : List V} (h : H a = some (.tup xs)) : H1 a = some (.tup xs) := x.k _ _ h trivial
theorem Kp.frz (x : Kp T M H H1) {ob : Obj} {u : HO} (h : H a = some (.frz ob u)) : H1 a = some (.frz ob u) := x.k _ _ h trivial
theorem Kp.ins (x : Kp T M H H1) {C dx : Addr} {fs : List (Str × V)} (h : H a = some (.ins C dx fs)) : H1 a = some (.ins C dx fs) := x.k _ _ h trivial
theorem Kp.lst (x : Kp T M H H1) {xs : List V} (h : H a = some (.lst xs)) (n : ¬ M a) : H1 a = some (.lst xs) := x.k _ _ h n
theorem Kp.dK (x : Kp T M H H1) {xs : List (Key × V)} (h : H a = some (.dK xs)) (n : ¬ M a) : H1 a = some (.dK xs) := x.k _ _ h n
theorem Kp.sqT {K : PySem.W.Frag} (x : Kp T M H H1) {xs : List V} (h : SqT K H a xs) : SqT K H1 a xs := by
  rcases h with (h | ⟨o, h⟩) | h
  · exact .inl (.inl (x.tup h))
  · exact .inl (.inr ⟨o, x.frz h⟩)
  · exact .inr h
end
end RS

/-! text PM -/
set_option Elab.async false
set_option linter.all false
set_option maxRecDepth 100000
set_option maxHeartbeats 1000000
/-! Plain mathematics: marks, digits, the trees of a store. No program in sight. -/
namespace RS
open PySem L2
/-! ### marks and digits -/
def markL : Nat → List Nat → Nat
  | _, [] => 0
  | i, c :: r => i * (c - 96) + markL (i + 1) r
def markN (x : Str) : Nat := markL 1 x.cps.toList
def tri : Nat → Nat → Nat
  | _, 0 => 0
  | i, n + 1 => i + tri (i + 1) n
theorem markL_le : ∀ (l : List Nat) (i : Nat), (∀ c ∈ l, c ≤ 122) → markL i l ≤ 26 * tri i l.length
  | [], _, _ => Nat.zero_le _
  | c :: r, i, h => by
    have h1 := h c (List.mem_cons_self ..)
    have h2 := markL_le r (i + 1) fun d m => h d (List.mem_cons_of_mem _ m)
    have h3 : i * (c - 96) ≤ i * 26 := Nat.mul_le_mul_left _ (by omega)
    show i * (c - 96) + markL (i + 1) r ≤ 26 * (i + tri (i + 1) r.length)
    omega
/-- a name: one to eight letters -/
structure GoodN (x : Str) : Prop where
  ne : x.cps.toList ≠ []
  le : x.cps.toList.length ≤ 8
  az : ∀ c ∈ x.cps.toList, 97 ≤ c ∧ c ≤ 122
theorem GoodN.mark_lt {x : Str} (g : GoodN x) : markN x < 1024 := by
  have h := markL_le x.cps.toList 1 fun c m => (g.az c m).2
  have k : ∀ n, n ≤ 8 → 26 * tri 1 n < 1024 := by decide
  exact Nat.lt_of_le_of_lt h (k _ g.le)
def dig (m l : Nat) : Fin 4 := ⟨m / 4 ^ l % 4, Nat.mod_lt _ (by decide)⟩
theorem dig_val (m l : Nat) : (dig m l).val = m / 4 ^ l % 4 := rfl
theorem mod_split (m b : Nat) : m % (b * 4) = m % b + b * (m / b % 4) := Nat.mod_mul
/-- marks below 4 ^ n that have all digits alike below n are one -/
theorem mod_of_digs {a b : Nat} : ∀ n, (∀ j, j < n → dig a j = dig b j) → a % 4 ^ n = b % 4 ^ n
  | 0, _ => by rw [Nat.pow_zero, Nat.mod_one, Nat.mod_one]
  | n + 1, h => by
    have ih := mod_of_digs n fun j hj => h j (by omega)
    have e : a / 4 ^ n % 4 = b / 4 ^ n % 4 := congrArg Fin.val (h n (by omega))
    rw [Nat.pow_succ, mod_split, mod_split, ih, e]
theorem eq_of_digs {a b : Nat} (ha : a < 1024) (hb : b < 1024) (h : ∀ j, j < 5 → dig a j = dig b j) : a = b := by
  have e := mod_of_digs 5 h
  rwa [Nat.mod_eq_of_lt (show a < 4 ^ 5 from ha), Nat.mod_eq_of_lt (show b < 4 ^ 5 from hb)] at e
/-! ### lists of pairs -/
def val : List (Str × V) → Str → Option V
  | [], _ => none
  | (k, v) :: r, n => if k = n then some v else val r n
theorem val_app {n : Str} : ∀ (a b : List (Str × V)), val (a ++ b) n = (val a n).or (val b n)
  | [], b => by simp [val]
  | (k, v) :: r, b => by
    by_cases e : k = n
    · simp [val, e]
    · simp only [List.cons_append, val, if_neg e]; exact val_app r b
theorem val_none {n : Str} : ∀ {a : List (Str × V)}, (∀ q ∈ a, q.1 ≠ n) → val a n = none
  | [], _ => rfl
  | (k, v) :: r, h => by
    rw [val, if_neg (h (k, v) (List.mem_cons_self ..))]
    exact val_none fun q m => h q (List.mem_cons_of_mem _ m)
theorem val_mem {n : Str} {v : V} : ∀ {a : List (Str × V)}, val a n = some v → (n, v) ∈ a
  | [], h => by cases h
  | (k, u) :: r, h => by
    rw [val] at h
    by_cases e : k = n
    · rw [if_pos e] at h
      cases h
      rw [e]
      exact List.mem_cons_self ..
    · rw [if_neg e] at h
      exact List.mem_cons_of_mem _ (val_mem h)
theorem val_of_mem {n : Str} {v : V} : ∀ {a : List (Str × V)}, (a.map (·.1)).Nodup → (n, v) ∈ a → val a n = some v
  | [], _, h => by cases h
  | (k, u) :: r, nd, h => by
    rw [List.map_cons, List.nodup_cons] at nd
    rcases List.mem_cons.mp h with e | m
    · cases e
      rw [val, if_pos rfl]
    · have : k ≠ n := fun e => nd.1 (by rw [e]; exact List.mem_map.mpr ⟨_, m, rfl⟩)
      rw [val, if_neg this]
      exact val_of_mem nd.2 m
theorem val_none_iff {n : Str} {a : List (Str × V)} : val a n = none ↔ n ∉ a.map (·.1) := by
  constructor
  · intro h m
    obtain ⟨q, hq, e⟩ := List.mem_map.mp m
    induction a with
    | nil => cases hq
    | cons p r ih =>
      obtain ⟨k, u⟩ := p
      rw [val] at h
      by_cases e2 : k = n
      · rw [if_pos e2] at h; cases h
      · rw [if_neg e2] at h
        rcases List.mem_cons.mp hq with e3 | m2
        · rw [e3] at e; exact e2 e
        · exact ih h (List.mem_map.mpr ⟨q, m2, e⟩) m2
  · intro h
    exact val_none fun q m e => h (List.mem_map.mpr ⟨q, m, e⟩)
theorem val_perm {a b : List (Str × V)} (p : a.Perm b) (nd : (a.map (·.1)).Nodup) (n : Str) : val a n = val b n := by
  have nd2 : (b.map (·.1)).Nodup := (p.map _).nodup_iff.mp nd
  cases h : val b n with
  | none =>
    rw [val_none_iff] at h ⊢
    exact fun m => h ((p.map _).mem_iff.mp m)
  | some v => exact val_of_mem nd (p.mem_iff.mpr (val_mem h))
theorem val_filter {n m : Str} : ∀ (a : List (Str × V)), val (a.filter fun q => decide (q.1 ≠ m)) n = if n = m then none else val a n
  | [] => by simp [val]
  | (k, v) :: r => by
    have ih := val_filter (n := n) (m := m) r
    by_cases e : k = m
    · rw [List.filter_cons_of_neg (by simp [e]), ih]
      by_cases e2 : n = m
      · rw [if_pos e2, if_pos e2]
      · rw [if_neg e2, if_neg e2, val, if_neg (fun z => e2 (z.symm.trans e))]
    · rw [List.filter_cons_of_pos (by simp [e]), val, val, ih]
      by_cases e2 : n = m
      · rw [if_pos e2, if_neg (fun z => e (z.trans e2)), if_pos e2]
      · rw [if_neg e2, if_neg e2]
/-! ### lists without repeats -/
theorem nodup_sub_le {α : Type} [DecidableEq α] : ∀ {a b : List α}, a.Nodup → (∀ x ∈ a, x ∈ b) → a.length ≤ b.length
  | [], _, _, _ => Nat.zero_le _
  | x :: r, b, nd, h => by
    rw [List.nodup_cons] at nd
    have hx := h x (List.mem_cons_self ..)
    have ih := nodup_sub_le (a := r) (b := b.erase x) nd.2 fun y hy => by
      have hy2 := h y (List.mem_cons_of_mem _ hy)
      exact (List.mem_erase_of_ne (fun e => nd.1 (by rw [← e]; exact hy))).mpr hy2
    rw [List.length_erase_of_mem hx] at ih
    have : 0 < b.length := List.length_pos_of_mem hx
    show r.length + 1 ≤ _
    omega
/-! ### trees -/
inductive T where
  | bare
  | leaf (m : Nat) (ps : List (Str × V))
  | fork (f : Fin 4 → T)
def T.ps : T → List (Str × V)
  | .bare => []
  | .leaf _ ps => ps
  | .fork f => (f 0).ps ++ ((f 1).ps ++ ((f 2).ps ++ (f 3).ps))
def T.sz : T → Nat
  | .fork f => 1 + ((f 0).sz + (f 1).sz + (f 2).sz + (f 3).sz)
  | _ => 1
theorem T.sz_pos : ∀ t : T, 1 ≤ t.sz
  | .bare => Nat.le_refl _
  | .leaf _ _ => Nat.le_refl _
  | .fork f => by unfold T.sz; omega
def isVal : V → Bool
  | .int _ => true
  | .str _ => true
  | _ => false
/-- a tree at a level: S its names, P its marks -/
def T.WF (S : Str → Prop) : T → Nat → (Nat → Prop) → Prop
  | .bare, _, _ => True
  | .leaf m ps, _, P => P m ∧ ps ≠ [] ∧ (∀ q ∈ ps, S q.1 ∧ markN q.1 = m ∧ isVal q.2 = true) ∧ (ps.map (·.1)).Nodup
  | .fork f, l, P => l < 5 ∧ ∀ d, (f d).WF S (l + 1) fun m => P m ∧ dig m l = d
theorem fin4 (d : Fin 4) : d = 0 ∨ d = 1 ∨ d = 2 ∨ d = 3 := by
  obtain ⟨v, h⟩ := d
  match v, h with
  | 0, _ => exact .inl rfl
  | 1, _ => exact .inr (.inl rfl)
  | 2, _ => exact .inr (.inr (.inl rfl))
  | 3, _ => exact .inr (.inr (.inr rfl))
theorem ps_fork {f : Fin 4 → T} : (T.fork f).ps = (f 0).ps ++ ((f 1).ps ++ ((f 2).ps ++ (f 3).ps)) := rfl
theorem mem_fork {f : Fin 4 → T} {q : Str × V} : q ∈ (T.fork f).ps ↔ ∃ d, q ∈ (f d).ps := by
  rw [ps_fork, List.mem_append, List.mem_append, List.mem_append]
  constructor
  · rintro (h | h | h | h)
    · exact ⟨0, h⟩
    · exact ⟨1, h⟩
    · exact ⟨2, h⟩
    · exact ⟨3, h⟩
  · rintro ⟨d, h⟩
    rcases fin4 d with e | e | e | e <;> rw [e] at h
    · exact .inl h
    · exact .inr (.inl h)
    · exact .inr (.inr (.inl h))
    · exact .inr (.inr (.inr h))
section
variable {S : Str → Prop} {t : T} {l : Nat} {P : Nat → Prop}
theorem T.WF.each : ∀ {t : T} {l : Nat} {P : Nat → Prop}, t.WF S l P → ∀ q ∈ t.ps, S q.1 ∧ P (markN q.1) ∧ isVal q.2 = true
  | .bare, _, _, _, q, m => by cases m
  | .leaf k ps, _, _, w, q, m => by
    obtain ⟨a, b, c⟩ := w.2.2.1 q m
    exact ⟨a, by rw [b]; exact w.1, c⟩
  | .fork f, _, _, w, q, m => by
    obtain ⟨d, h⟩ := mem_fork.mp m
    obtain ⟨a, b, c⟩ := T.WF.each (w.2 d) q h
    exact ⟨a, b.1, c⟩
theorem T.WF.mono {S2 : Str → Prop} (hS : ∀ x, S x → S2 x) : ∀ {t : T} {l : Nat} {P P2 : Nat → Prop}, t.WF S l P → (∀ m, P m → P2 m) → t.WF S2 l P2
  | .bare, _, _, _, _, _ => trivial
  | .leaf k ps, _, _, _, w, h => ⟨h _ w.1, w.2.1, fun q m => ⟨hS _ (w.2.2.1 q m).1, (w.2.2.1 q m).2⟩, w.2.2.2⟩
  | .fork f, _, _, _, w, h => ⟨w.1, fun d => T.WF.mono hS (w.2 d) fun m hm => ⟨h m hm.1, hm.2⟩⟩
theorem T.WF.lvl : ∀ {t : T} {l : Nat} {P : Nat → Prop}, t.WF S l P → l ≤ 5 → 3 * t.sz + 1 ≤ 4 ^ (6 - l)
  | .bare, l, _, _, h => by
    have : 4 ^ 1 ≤ 4 ^ (6 - l) := Nat.pow_le_pow_right (by decide) (by omega)
    unfold T.sz; omega
  | .leaf k ps, l, _, _, h => by
    have : 4 ^ 1 ≤ 4 ^ (6 - l) := Nat.pow_le_pow_right (by decide) (by omega)
    unfold T.sz; omega
  | .fork f, l, _, w, h => by
    have h0 := T.WF.lvl (w.2 0) w.1
    have h1 := T.WF.lvl (w.2 1) w.1
    have h2 := T.WF.lvl (w.2 2) w.1
    have h3 := T.WF.lvl (w.2 3) w.1
    have e : 6 - l = (6 - (l + 1)) + 1 := by have := w.1; omega
    rw [e, Nat.pow_succ]
    unfold T.sz
    omega
theorem T.WF.sz_le (w : t.WF S 0 P) : t.sz ≤ 1365 := by
  have h := w.lvl (by decide)
  have e : (4 : Nat) ^ (6 - 0) = 4096 := by decide
  omega
theorem T.WF.nodup : ∀ {t : T} {l : Nat} {P : Nat → Prop}, t.WF S l P → (t.ps.map (·.1)).Nodup
  | .bare, _, _, _ => List.nodup_nil
  | .leaf k ps, _, _, w => w.2.2.2
  | .fork f, l, _, w => by
    have nd := fun d => T.WF.nodup (w.2 d)
    have dj : ∀ d e, d ≠ e → ∀ x, x ∈ (f d).ps.map (·.1) → x ∈ (f e).ps.map (·.1) → False := by
      intro d e ne x h1 h2
      obtain ⟨q1, m1, e1⟩ := List.mem_map.mp h1
      obtain ⟨q2, m2, e2⟩ := List.mem_map.mp h2
      have a1 := ((T.WF.each (w.2 d) q1 m1).2.1).2
      have a2 := ((T.WF.each (w.2 e) q2 m2).2.1).2
      rw [e1] at a1
      rw [e2] at a2
      exact ne (a1.symm.trans a2)
    rw [ps_fork, List.map_append, List.map_append, List.map_append, List.nodup_append, List.nodup_append, List.nodup_append]
    refine ⟨nd 0, ⟨nd 1, ⟨nd 2, nd 3, ?_⟩, ?_⟩, ?_⟩
    · intro x hx y hy e; subst e; exact dj 2 3 (by decide) x hx hy
    · intro x hx y hy e; subst e
      rcases List.mem_append.mp hy with h | h
      · exact dj 1 2 (by decide) x hx h
      · exact dj 1 3 (by decide) x hx h
    · intro x hx y hy e; subst e
      rcases List.mem_append.mp hy with h | h
      · exact dj 0 1 (by decide) x hx h
      rcases List.mem_append.mp h with h | h
      · exact dj 0 2 (by decide) x hx h
      · exact dj 0 3 (by decide) x hx h
/-- a fork's value of a name is the part's by the digit of its mark -/
theorem val_fork {f : Fin 4 → T} (w : (T.fork f).WF S l P) (n : Str) : val (T.fork f).ps n = val (f (dig (markN n) l)).ps n := by
  have no : ∀ d, d ≠ dig (markN n) l → val (f d).ps n = none := fun d ne => val_none fun q m e => ne (by
    have z := ((T.WF.each (w.2 d) q m).2.1).2
    rw [e] at z
    exact z.symm)
  rw [ps_fork, val_app, val_app, val_app]
  rcases fin4 (dig (markN n) l) with e | e | e | e <;> rw [e] at no ⊢
  · rw [no 1 (by decide), no 2 (by decide), no 3 (by decide)]; simp
  · rw [no 0 (by decide), no 2 (by decide), no 3 (by decide)]; simp
  · rw [no 0 (by decide), no 1 (by decide), no 3 (by decide)]; simp
  · rw [no 0 (by decide), no 1 (by decide), no 2 (by decide)]; simp
theorem val_leaf_ne {m : Nat} {ps : List (Str × V)} (w : (T.leaf m ps).WF S l P) {n : Str} (h : markN n ≠ m) : val ps n = none :=
  val_none fun q hm e => h (by rw [← e]; exact (w.2.2.1 q hm).2.1)
def updF (f : Fin 4 → T) (d : Fin 4) (t : T) : Fin 4 → T := fun e => if e = d then t else f e
theorem updF_same {f : Fin 4 → T} {d : Fin 4} {t : T} : updF f d t d = t := if_pos rfl
theorem updF_ne {f : Fin 4 → T} {d e : Fin 4} {t : T} (h : e ≠ d) : updF f d t e = f e := if_neg h
/-- t2 is t but for one name -/
def ButT (t : T) (x : Str) (ov : Option V) (t2 : T) : Prop := ∀ n, val t2.ps n = if n = x then ov else val t.ps n
theorem fork_put {f : Fin 4 → T} {x : Str} {ov : Option V} {t2 : T} (w : (T.fork f).WF S l P) (w2 : t2.WF S (l + 1) fun m => P m ∧ dig m l = dig (markN x) l) (h : ButT (f (dig (markN x) l)) x ov t2) :
    (T.fork (updF f (dig (markN x) l) t2)).WF S l P ∧ ButT (.fork f) x ov (.fork (updF f (dig (markN x) l) t2)) := by
  have w3 : (T.fork (updF f (dig (markN x) l) t2)).WF S l P := ⟨w.1, fun d => by
    by_cases e : d = dig (markN x) l
    · subst e
      rw [updF_same]
      exact w2
    · rw [updF_ne e]
      exact w.2 d⟩
  refine ⟨w3, fun n => ?_⟩
  rw [val_fork w3, val_fork w]
  by_cases e : dig (markN n) l = dig (markN x) l
  · rw [e, updF_same]
    exact h n
  · rw [updF_ne e, if_neg]
    intro z
    rw [z] at e
    exact e rfl
theorem leaf_put {m : Nat} {ps ps2 : List (Str × V)} {x : Str} {v : V} (w : (T.leaf m ps).WF S l P) (hm : markN x = m) (hS : S x) (hv : isVal v = true)
    (hp : ps2.Perm ((ps.filter fun q => decide (q.1 ≠ x)) ++ [(x, v)])) : (T.leaf m ps2).WF S l P ∧ ButT (.leaf m ps) x (some v) (.leaf m ps2) := by
  have nd : (((ps.filter fun q => decide (q.1 ≠ x)) ++ [(x, v)]).map (·.1)).Nodup := by
    rw [List.map_append, List.nodup_append]
    refine ⟨w.2.2.2.sublist (List.filter_sublist.map _), by simp, fun a ha b hb e => ?_⟩
    obtain ⟨q, hq, rfl⟩ := List.mem_map.mp ha
    have hq2 := (List.mem_filter.mp hq).2
    have hb2 : b = x := by simpa using hb
    subst e
    rw [hb2] at hq2
    simp at hq2
  have nd2 : (ps2.map (·.1)).Nodup := (hp.map _).nodup_iff.mpr nd
  refine ⟨⟨w.1, fun e => ?_, fun q hq => ?_, nd2⟩, fun n => ?_⟩
  · rw [e] at hp
    have := hp.length_eq
    simp at this
  · rcases List.mem_append.mp (hp.mem_iff.mp hq) with h | h
    · exact w.2.2.1 q (List.mem_filter.mp h).1
    · have e : q = (x, v) := by simpa using h
      rw [e]
      exact ⟨hS, hm, hv⟩
  · show val ps2 n = if n = x then some v else val ps n
    rw [val_perm hp nd2 n, val_app, val_filter]
    by_cases e : n = x
    · rw [if_pos e, if_pos e, e]; simp [val]
    · rw [if_neg e, if_neg e, val, if_neg (fun z => e z.symm), val]; simp
theorem leaf_del {m : Nat} {ps ps2 : List (Str × V)} {x : Str} (w : (T.leaf m ps).WF S l P) (e : ps2 = ps.filter fun q => decide (q.1 ≠ x)) :
    (ps2 = [] → ButT (.leaf m ps) x none .bare) ∧ (ps2 ≠ [] → (T.leaf m ps2).WF S l P ∧ ButT (.leaf m ps) x none (.leaf m ps2)) := by
  have key : ∀ n, val ps2 n = if n = x then none else val ps n := fun n => by rw [e]; exact val_filter ps
  refine ⟨fun h n => ?_, fun h => ⟨⟨w.1, h, fun q hq => ?_, ?_⟩, key⟩⟩
  · show val [] n = if n = x then none else val ps n
    rw [← h]
    exact key n
  · rw [e] at hq
    exact w.2.2.1 q (List.mem_filter.mp hq).1
  · rw [e]
    exact w.2.2.2.sublist (List.filter_sublist.map _)
abbrev bareF : Fin 4 → T := fun _ => .bare
theorem bare_fork (hl : l < 5) : (T.fork bareF).WF S l P := ⟨hl, fun _ => trivial⟩
/-- one part alone -/
theorem fork_one {d : Fin 4} {t2 : T} (hl : l < 5) (w2 : t2.WF S (l + 1) fun m => P m ∧ dig m l = d) : (T.fork (updF bareF d t2)).WF S l P ∧ ∀ n, val (T.fork (updF bareF d t2)).ps n = val t2.ps n := by
  have w3 : (T.fork (updF bareF d t2)).WF S l P := ⟨hl, fun e => by
    by_cases h : e = d
    · subst h
      rw [updF_same]
      exact w2
    · rw [updF_ne h]
      trivial⟩
  refine ⟨w3, fun n => ?_⟩
  rw [val_fork w3]
  by_cases h : dig (markN n) l = d
  · rw [h, updF_same]
  · rw [updF_ne h]
    show none = _
    exact (val_none fun q m e => h (by
      have z := ((T.WF.each w2 q m).2.1).2
      rw [e] at z
      exact z)).symm
/-- two parts alone -/
theorem fork_two {d e : Fin 4} {t1 t2 : T} (hl : l < 5) (ne : d ≠ e) (w1 : t1.WF S (l + 1) fun m => P m ∧ dig m l = d) (w2 : t2.WF S (l + 1) fun m => P m ∧ dig m l = e) :
    (T.fork (updF (updF bareF d t1) e t2)).WF S l P ∧ ∀ n, val (T.fork (updF (updF bareF d t1) e t2)).ps n = (val t1.ps n).or (val t2.ps n) := by
  have w3 : (T.fork (updF (updF bareF d t1) e t2)).WF S l P := ⟨hl, fun c => by
    by_cases h : c = e
    · subst h
      rw [updF_same]
      exact w2
    · rw [updF_ne h]
      by_cases h2 : c = d
      · subst h2
        rw [updF_same]
        exact w1
      · rw [updF_ne h2]
        trivial⟩
  have no1 : ∀ n, dig (markN n) l ≠ d → val t1.ps n = none := fun n h => val_none fun q m z => h (by
    have y := ((T.WF.each w1 q m).2.1).2
    rw [z] at y
    exact y)
  have no2 : ∀ n, dig (markN n) l ≠ e → val t2.ps n = none := fun n h => val_none fun q m z => h (by
    have y := ((T.WF.each w2 q m).2.1).2
    rw [z] at y
    exact y)
  refine ⟨w3, fun n => ?_⟩
  rw [val_fork w3]
  by_cases h : dig (markN n) l = e
  · rw [h, updF_same, no1 n (by rw [h]; exact Ne.symm ne)]
    rfl
  · rw [updF_ne h, no2 n h]
    by_cases h2 : dig (markN n) l = d
    · rw [h2, updF_same]; simp
    · rw [updF_ne h2, no1 n h2]; rfl
/-- a fork with one part that is not bare, a leaf -/
theorem fork_lone {f : Fin 4 → T} {d : Fin 4} {m : Nat} {ps : List (Str × V)} (w : (T.fork f).WF S l P) (h : ∀ e, e ≠ d → f e = .bare) (hd : f d = .leaf m ps) : (T.leaf m ps).WF S l P ∧ ∀ n, val (T.fork f).ps n = val ps n := by
  have wd := w.2 d
  rw [hd] at wd
  refine ⟨⟨wd.1.1, wd.2⟩, fun n => ?_⟩
  rw [val_fork w]
  by_cases e : dig (markN n) l = d
  · rw [e, hd]; rfl
  · rw [h _ e]
    show none = _
    exact (val_none fun q mq z => e (by
      have y := ((T.WF.each (w.2 d) q (by rw [hd]; exact mq)).2.1).2
      rw [z] at y
      exact y)).symm
end
end RS

/-! text R1 -/
set_option Elab.async false
set_option linter.all false
set_option maxRecDepth 100000
set_option maxHeartbeats 1000000
/-! Rule: sorted(xs, key=lambda x: x[0]), the items pairs whose first is a text. -/
namespace RS
open PySem PySem.Spec PyProof.Rows L2
/-- all objects stay -/
abbrev Kept (h h' : Heap) : Prop := ∀ b o, h.get? b = some o → h'.get? b = some o
theorem Kept.refl {h : Heap} : Kept h h := fun _ _ e => e
theorem Kept.trans {h h1 h2 : Heap} (x : Kept h h1) (y : Kept h1 h2) : Kept h h2 := fun b o e => y b o (x b o e)
theorem Kept.push {h h1 : Heap} (x : Kept h h1) (o : Obj) : Kept h (h1.push o) := fun b u e => Heap.get?_push_of_some _ (x b u e)
theorem Kept.upd {h h1 : Heap} {a : Addr} {f : Obj → Obj} (x : Kept h h1) (n : h.objs.size ≤ a) : Kept h (h1.update a f) := fun b u e =>
  (Heap.get?_update_ne _ _ _ _ (Nat.ne_of_lt (Nat.lt_of_lt_of_le (Heap.lt_size e) n))).trans (x b u e)
section
variable {prog : Program} {w : World} {A : Around} {E : Value → Shared → Prop} {s : Shared}
/-- lambda x: x[0], called with a tuple -/
theorem lam_first {f p c' : Addr} {q x : Str} {params : Arguments} {scope : Scope} {cl : List (Str × Addr)} {pm ctv k : Value} {rest : List Value} {p1 p2 p3 : Pos} {jk : Nat}
    (hf : s.heap.get? f = some (PySem.W.kla_obj "<lambda>" q params (.Subscript (.Name x p1) (.Constant (.int 0) jk p2) p3) scope cl pm c' ctv)) (hc : s.heap.CodeRec (.ref c') q) (lim : s.heap.NoLimit) (dp : A.depth < recursionLimit)
    (hb : bindArgs (PySem.W.kla_fn "<lambda>" q params (.Subscript (.Name x p1) (.Constant (.int 0) jk p2) p3) scope cl pm (.ref c') ctv) ⟨[.ref p], []⟩ = pure [(x, .ref p)]) (hs : scope.kind = .function ∧ scope.isCoroutine = false ∧ scope.isGenerator = false)
    (hcell : ∀ y ∈ scope.names, y.2 ≠ .cell) (hx : scope.names.lookup x = some .local) (hd : (x == ("__debug__" : Str)) = false) (tp : IsTup s.heap p (k :: rest).toArray) :
    wpAny (model prog w) A (call (.ref f) [.ref p]) (fun u s' => u = k ∧ ∃ h' tk, s' = { s with heap := h', toks := tk } ∧ Kept s.heap h') E s := by
  obtain ⟨op, ho, r⟩ := tp
  refine wpAny_call (PySem.W.kla_callFunE dp hf rfl hs.2.1 hs.2.2 rfl hc ?_)
  rw [hb]
  refine wpAny_pure (wpAny_newFunctionEnv hcell (fun y hy => by rw [List.mem_singleton.mp hy]; exact hx) (fun h1 hns hsb => ⟨lim.fresh _ hsb, PySem.W.kla_codeExpr (Subscript_ ?_)⟩) hs.1)
  have kp : Kept s.heap h1 := fun b o e => hsb.extBut b o (Nat.ne_of_lt (Heap.lt_size e)) (Heap.get?_push_of_some _ e)
  refine wpAny_Name (wpAny_loadName_local hs.1 hx hns (show List.lookup x [(x, Value.ref p)].reverse = some (Value.ref p) by simp) (wpAny_Constant_int ?_)) hd
  exact item_tupleL (j := 0) (x := k) ⟨op, kp _ _ ho, r⟩ (by omega) (by omega) (PySem.StrLaws.seqIndex_nonneg (i := 0) (by omega) (by rw [List.length_cons]; omega)) rfl ⟨rfl, _, _, rfl, kp⟩
/-! ### the sort -/
theorem strs_snoc {x : Str} {t : Tok} : ∀ {vs : List Value} {ks : List Str}, StrsAre vs ks → StrsAre (vs ++ [.str x t]) (ks ++ [x])
  | _, _, .nil => .cons x t .nil
  | _, _, .cons y u h => .cons y u (strs_snoc h)
theorem strs_len : ∀ {vs : List Value} {ks : List Str}, StrsAre vs ks → vs.length = ks.length
  | _, _, .nil => rfl
  | _, _, .cons _ _ h => congrArg (· + 1) (strs_len h)
/-- what the sort leaves: pairs of key and item, in the order of the keys -/
def KeyedOut (ks : List Str) (vs out : List Value) : Prop := ∃ ps : List (Str × Value), ps.Perm (ks.zip vs) ∧ out = ps.map Prod.snd ∧ ps.Pairwise fun p q => ltCps q.1.cps.toList p.1.cps.toList = false
theorem keyed_out {keys : Array Value} {vs : List Value} {ks : List Str} (hk : StrsAre keys.toList ks) {xs : Array Keyed} (hp : xs.Perm (keys.zip vs.toArray)) (hs : SortedToK strKind xs xs.size) : KeyedOut ks vs (xs.map (·.2)).toList := by
  have hl : xs.toList.Perm (keys.toList.zip vs) := by
    have z := Array.perm_iff_toList_perm.mp hp
    rw [ksk_zip] at z
    exact z
  have ez : (keys.toList.zip vs).map (fun p : Keyed => (strOf p.1, p.2)) = ks.zip vs := by
    rw [← hk.strs, List.zip_map_left]
    exact List.map_congr_left fun ⟨x, y⟩ _ => rfl
  refine ⟨xs.toList.map fun p : Keyed => (strOf p.1, p.2), by rw [← ez]; exact hl.map _, ?_, ?_⟩
  · rw [Array.toList_map, List.map_map]
    rfl
  · rw [List.pairwise_map, List.pairwise_iff_getElem]
    intro i j hi hj hij
    have hi' : i < xs.size := by simpa using hi
    have hj' : j < xs.size := by simpa using hj
    have z := hs i j (Nat.le_of_lt hij) hj'
    have mem : ∀ p ∈ xs.toList, ∃ x t, p.1 = Value.str x t := fun p m => by
      obtain ⟨a, b⟩ := p
      exact hk.all _ (List.of_mem_zip (hl.mem_iff.mp m)).1
    obtain ⟨x, t, ex⟩ := mem xs[i] (by simp)
    obtain ⟨y, u, ey⟩ := mem xs[j] (by simp)
    rw [KK_str hi' (x := x) (t := t) (q := xs[i].2) (Prod.ext ex rfl), KK_str hj' (x := y) (t := u) (q := xs[j].2) (Prod.ext ey rfl)] at z
    have z2 : decide (y.cps.toList < x.cps.toList) = false := z
    show ltCps (strOf (xs.toList[j]).1).cps.toList (strOf (xs.toList[i]).1).cps.toList = false
    rw [Array.getElem_toList, Array.getElem_toList, ex, ey, ltCps_eq]
    exact z2
theorem upd_seq {h : Heap} {a : Addr} {xs : Array Value} {n : Nat} (ho : h.get? a = some (seqObj "list" xs n)) (ys : Array Value) : ∃ c, (h.update a (Obj.mapSeq fun _ => ys)).get? a = some (seqObj "list" ys c) := ⟨_, get?_update_seq ho fun _ => ys⟩
section
variable {a kS : Addr} {vs : List Value} {ks : List Str} {keys : Array Value} {e e1 : Nat} {R : PySem.Fin → Shared → Prop} {h0 : Heap} {f : Value}
/-- behind the sort, in terms of the heap h0 ahead of it (a and kS stand above it) -/
abbrev Done (h0 : Heap) (a : Addr) (ks : List Str) (vs : List Value) (s : Shared) (R : PySem.Fin → Shared → Prop) : Prop :=
  ∀ h' tk out c, Kept h0 h' → h'.get? a = some (seqObj "list" out c) → KeyedOut ks vs out.toList → R (.done (.ret .none)) { s with heap := h', toks := tk }
theorem key_tail {st : SortSt} (kp : Kept h0 s.heap) (na : h0.objs.size ≤ a) (nk : h0.objs.size ≤ kS) (ne : kS ≠ a) (hk : s.heap.get? kS = some (seqObj "list" keys e)) (ha : s.heap.get? a = some (seqObj "list" #[] e1)) (ss : StrsAre keys.toList ks) (hlen : ks.length = vs.length) (h64 : vs.length < 64)
    (hp : (arrOf st).Perm (keys.zip vs.toArray)) (hs : SortedToK strKind (arrOf st) (arrOf st).size) (hfl : failedOf st = none) (h : Done h0 a ks vs s R) : wpAny (model prog w) A (ksk_tail a false e1 (.ref kS) st) R E s := by
  have hsz : keys.size = vs.length := by
    have z := strs_len ss
    rw [Array.length_toList] at z
    omega
  have hsz2 : ((arrOf st).map (·.2)).size = vs.length := by rw [Array.size_map, hp.size_eq, Array.size_zip, hsz, List.size_toArray, Nat.min_self]
  have s1 := Heap.SameBut.update s.heap kS (Obj.mapSeq fun _ => (#[] : Array Value))
  have ha1 : (s.heap.update kS (Obj.mapSeq fun _ => (#[] : Array Value))).get? a = some (seqObj "list" #[] e1) := (s1.2 a ne.symm).trans ha
  obtain ⟨c2, hc2⟩ := upd_seq ha1 ((arrOf st).map (·.2))
  unfold ksk_tail
  try dsimp only
  refine (wpAny_bind (listUpdate_at hk rfl ?_ (by rw [hsz, sizeLine_eq]; omega) (Nat.zero_le _)))
  refine (wpAny_bind (wpAny_letGo (wpAny_bind (seqEpoch_at ha1 rfl ?_))))
  refine wpAny_bind (listUpdate_at ha1 rfl ?_ (Nat.zero_le _) (by rw [if_neg Bool.false_ne_true, hsz2, sizeLine_eq]; omega))
  rw [hfl]
  simp only [bne_self_eq_false, Bool.false_eq_true, if_false]
  exact wpAny_pure (h _ _ _ c2 ((kp.upd nk).upd na) hc2 (keyed_out ss hp hs))
theorem key_end (kp : Kept h0 s.heap) (na : h0.objs.size ≤ a) (nk : h0.objs.size ≤ kS) (ne : kS ≠ a) (hk : s.heap.get? kS = some (seqObj "list" keys e)) (ha : s.heap.get? a = some (seqObj "list" #[] e1)) (ss : StrsAre keys.toList ks) (hlen : ks.length = vs.length) (h64 : vs.length < 64)
    (h : Done h0 a ks vs s R) : wpAny (model prog w) A (ksk_end a false vs.toArray e1 (.ref kS) keys) R E s := by
  have hsz : keys.size = vs.length := by
    have z := strs_len ss
    rw [Array.length_toList] at z
    omega
  have hzs : (keys.zip vs.toArray).size = vs.length := by rw [Array.size_zip, hsz, List.size_toArray, Nat.min_self]
  have hko : KeysOf strKind (keys.zip vs.toArray) := by
    intro p hp
    rw [ksk_zip] at hp
    obtain ⟨x, y⟩ := p
    obtain ⟨z, t, ez⟩ := ss.all _ (List.of_mem_zip hp).1
    exact ⟨z.cps.toList, by rw [ez]⟩
  unfold ksk_end
  dsimp only
  rw [if_neg Bool.false_ne_true]
  by_cases h2 : vs.toArray.size < 2
  · rw [if_pos h2, if_pos h2]
    refine (wpAny_bind (wpAny_pure (?_)))
    rw [StateT.run_pure]
    refine (wpAny_bind (wpAny_pure (?_)))
    refine key_tail kp na nk ne hk ha ss hlen h64 (st := SortSt.mk' general' (keys.zip vs.toArray) #[] 7 none) (Array.Perm.refl _) ?_ rfl h
    intro i j hij hj
    have hj2 : j < (keys.zip vs.toArray).size := hj
    rw [List.size_toArray] at h2
    have e3 : i = j := by omega
    subst e3
    exact KeyOrd.kle_refl _
  · rw [if_neg h2, if_neg h2]
    rw [List.size_toArray] at h2
    obtain ⟨v1, v2, r, ek⟩ : ∃ v1 v2 r, keys.toList = v1 :: v2 :: r := by
      have hl : 2 ≤ keys.toList.length := by rw [Array.length_toList]; omega
      cases z : keys.toList with
      | nil => rw [z] at hl; simp at hl
      | cons v1 r => cases r with
        | nil => rw [z] at hl; simp at hl
        | cons v2 r => exact ⟨v1, v2, r, rfl⟩
    have ek2 : keys = (v1 :: v2 :: r).toArray := by rw [← ek, Array.toArray_toList]
    have kk : keyKind' keys = pure oneType' := by
      rw [ek2]
      rw [ek] at ss
      exact keyKind_strs ss
    rw [kk]
    refine (wpAny_bind (wpAny_pure (?_)))
    refine wpAny_bind (wpAny_mono (wpS_sortRunsK strKind_oneLt (a₀ := keys.zip vs.toArray) (st := SortSt.mk' oneType' (keys.zip vs.toArray) #[] 7 none)
      (Q := fun _ st' => (arrOf st').Perm (keys.zip vs.toArray) ∧ failedOf st' = none ∧ SortedToK strKind (arrOf st') (keys.zip vs.toArray).size) hko ⟨Array.Perm.refl _, rfl, rfl, rfl⟩ (by rw [hzs]; omega) (by rw [hzs]; exact h64) fun st' a1 a2 a3 => ⟨a1, a2, a3⟩) ?_ fun _ _ z => z)
    rintro ⟨⟨⟩, st'⟩ s' ⟨rfl, hp, hf, hs⟩
    dsimp only
    exact key_tail kp na nk ne hk ha ss hlen h64 hp (by rw [hp.size_eq]; exact hs) hf h
abbrev Turns (prog : Program) (w : World) (A : Around) (h0 : Heap) (f : Value) (vs : List Value) (ks : List Str) : Prop :=
  ∀ (i : Nat) (v : Value) (k : Str), vs[i]? = some v → ks[i]? = some k → ∀ s' : Shared, Kept h0 s'.heap → wpAny (model prog w) A (call f [v]) (fun u s2 => (∃ t, u = Value.str k t) ∧ ∃ h' tk, s2 = { s' with heap := h', toks := tk } ∧ Kept s'.heap h') (fun _ _ => False) s'
theorem key_rest (kp : Kept h0 s.heap) (na : h0.objs.size ≤ a) (nk : h0.objs.size ≤ kS) (ne : kS ≠ a) (hk : s.heap.get? kS = some (seqObj "list" #[] 0)) (ha : s.heap.get? a = some (seqObj "list" #[] e1)) (hlen : ks.length = vs.length) (h64 : vs.length < 64)
    (turn : Turns prog w A h0 f vs ks) (h : Done h0 a ks vs s R) : wpAny (model prog w) A (ksk_rest a f false vs.toArray e1 (.ref kS)) R E s := by
  unfold ksk_rest
  refine wpAny_bind (wpAny_rule (?_))
  rw [List.forIn_toArray]
  refine wpAny_bind (ksk_fold (fun i s' => ∃ h' tk kA e, s' = { s with heap := h', toks := tk } ∧ Kept h0 h' ∧ h'.get? kS = some (seqObj "list" kA e) ∧ h'.get? a = some (seqObj "list" #[] e1) ∧ StrsAre kA.toList (ks.take i)) vs 0 s
    ⟨s.heap, s.toks, #[], 0, rfl, kp, hk, ha, by rw [List.take_zero]; exact .nil⟩ ?_ ?_)
  · rintro j x s' hx ⟨h', tk, kA, e, rfl, kp', hk', ha', ss⟩
    simp only [Nat.zero_add] at ss ⊢
    have hj : j < vs.length := (List.getElem?_eq_some_iff.mp hx).1
    obtain ⟨k, hkj⟩ : ∃ k, ks[j]? = some k := ⟨_, List.getElem?_eq_getElem (by omega)⟩
    have hz : kA.size ≤ vs.length := by
      have z := strs_len ss
      rw [Array.length_toList, List.length_take] at z
      omega
    refine wpAny_bind (wpAny_attempt (wpAny_mono (turn j x k hx hkj _ kp') (fun v s2 he => ?_) fun _ _ hF => hF.elim))
    obtain ⟨⟨t, rfl⟩, g, tk2, rfl, kg⟩ := he
    try dsimp only
    have s1 := Heap.SameBut.update g kS (Obj.mapSeq (·.push (Value.str k t)))
    obtain ⟨c2, hc2⟩ : ∃ c2, (g.update kS (Obj.mapSeq (·.push (Value.str k t)))).get? kS = some (seqObj "list" (kA.push (.str k t)) c2) := ⟨_, get?_update_seq (kg _ _ hk') (·.push (Value.str k t))⟩
    have ek : ks.take (j + 1) = ks.take j ++ [k] := by rw [List.take_add_one, hkj]; rfl
    have ea : (kA.push (Value.str k t)).toList = kA.toList ++ [Value.str k t] := Array.toList_push ..
    refine (wpAny_bind (listUpdate_at (kg _ _ hk') rfl ?_ (by rw [sizeLine_eq]; omega) (by rw [Array.size_push, sizeLine_eq]; omega)))
    exact wpAny_pure ⟨rfl, _, _, kA.push (.str k t), c2, rfl, (kp'.trans kg).upd nk, hc2, (s1.2 a ne.symm).trans (kg _ _ ha'), by rw [ea, ek]; exact strs_snoc ss⟩
  · rintro s' ⟨h', tk, kA, e, rfl, kp', hk', ha', ss⟩
    rw [List.take_of_length_le (by omega)] at ss
    refine wpAny_bind (listItems_at hk' rfl ?_)
    exact key_end (s := { s with heap := h', toks := tk }) kp' na nk ne hk' ha' ss hlen h64 h
theorem key_sort {n : Nat} (kp : Kept h0 s.heap) (na : h0.objs.size ≤ a) (ho : s.heap.get? a = some (seqObj "list" vs.toArray n)) (hlen : ks.length = vs.length) (h64 : vs.length < 64) (turn : Turns prog w A h0 f vs ks) (h : Done h0 a ks vs s R) :
    wpAny (model prog w) A (ksk_tree a f false) R E s := by
  have ha : a < s.heap.objs.size := Heap.lt_size ho
  obtain ⟨e1, ho1⟩ := upd_seq ho #[]
  have hkS : ((s.heap.update a (Obj.mapSeq fun _ => (#[] : Array Value))).push (seqObj "tuple" vs.toArray 0)).objs.size = s.heap.objs.size + 1 := by rw [size_push', Heap.size_update]
  unfold ksk_tree
  refine wpAny_bind (listItems_at ho rfl (wpAny_bind (listUpdate_at ho rfl ?_ (by rw [List.size_toArray, sizeLine_eq]; omega) (Nat.zero_le _))))
  refine wpAny_bind (seqEpoch_at ho1 rfl (wpAny_bind (wpAny_newTuple ?_ (by show vs.length ≤ _; rw [sizeLine_eq]; omega))))
  refine wpAny_bind (wpAny_newList (wpAny_holding ?_) (Nat.zero_le _))
  refine key_rest (h0 := h0) (s := { s with heap := ((s.heap.update a (Obj.mapSeq fun _ => (#[] : Array Value))).push (seqObj "tuple" vs.toArray 0)).push (seqObj "list" #[] 0) }) (kS := ((s.heap.update a (Obj.mapSeq fun _ => (#[] : Array Value))).push (seqObj "tuple" vs.toArray 0)).objs.size)
    (((kp.upd na).push _).push _) na (by rw [hkS]; exact Nat.le_succ_of_le (Nat.le_trans na (Nat.le_of_lt ha))) (by rw [hkS]; exact Nat.ne_of_gt (Nat.lt_succ_of_lt ha)) (Heap.get?_push_size _ rfl) (Heap.get?_push_of_some _ (Heap.get?_push_of_some _ ho1)) hlen h64 turn h
theorem key_sorted {l : Addr} {Q : Value → Shared → Prop} (hl : s.heap.IsList l vs.toArray) (hlen : ks.length = vs.length) (h64 : vs.length < 64) {q : Addr} (turn : Turns prog w A.in1.in1 s.heap (.ref q) vs ks)
    (h : ∀ D h' tk out c, Kept s.heap h' → s.heap.objs.size ≤ D → h'.get? D = some (seqObj "list" out c) → KeyedOut ks vs out.toList → Q (.ref D) { s with heap := h', toks := tk }) :
    wpAny (model prog w) A (call (.builtin "sorted") [.ref l] [(Str.ofString "key", .ref q)]) Q E s := by
  refine call_function_entry_kw kind_sorted plain_sorted entry_sorted (ksk_s1 _ _) ?_
  unfold Builtin.«sorted»
  refine (wpAny_bind (m := checkCount "sorted" 1 1 _) (wpAny_pure (?_)))
  refine (wpAny_bind (collect_list hl ?_ (by rw [sizeLine_eq]; omega)))
  refine (wpAny_bind (wpAny_newList ?_ (by rw [sizeLine_eq]; omega)))
  have hsz : ((s.heap.push (seqObj "list" #[] 0)).update s.heap.objs.size (Obj.mapSeq (· ++ vs.toArray))).objs.size = s.heap.objs.size + 1 := (Heap.size_update ..).trans (size_push' ..)
  have hoL : (((s.heap.push (seqObj "list" #[] 0)).update s.heap.objs.size (Obj.mapSeq (· ++ vs.toArray))).push (seqObj "list" vs.toArray 0)).get? (s.heap.objs.size + 1) = some (seqObj "list" vs.toArray 0) := hsz ▸ Heap.get?_push_size _ rfl
  have kp : Kept s.heap (((s.heap.push (seqObj "list" #[] 0)).update s.heap.objs.size (Obj.mapSeq (· ++ vs.toArray))).push (seqObj "list" vs.toArray 0)) := ((Kept.refl.push _).upd (Nat.le_refl _)).push _
  show wpAny _ _ _ _ _ { s with heap := ((s.heap.push (seqObj "list" #[] 0)).update s.heap.objs.size (Obj.mapSeq (· ++ vs.toArray))).push (seqObj "list" vs.toArray 0) }
  rw [hsz]
  refine wpAny_bind (wpAny_holding (wpAny_call_entry_kw slot_list_sort ⟨_, hoL, rfl⟩ entry_list_sort ?_ (ksk_l1 _ _)))
  show wpAny (model prog w) A.in1.in1 (Builtin.«list.sort» ⟨[.ref (s.heap.objs.size + 1)], [(Str.ofString "key", .ref q)]⟩) _ _ _
  rw [ksk_t1]
  exact key_sort (h0 := s.heap) kp (Nat.le_succ _) hoL hlen h64 turn fun h' tk out c k' o' z => ⟨_, rfl, wpAny_pure ⟨_, rfl, h _ h' tk out c k' (Nat.le_succ _) o' z⟩⟩
end
end
end RS

/-! text R2 -/
set_option Elab.async false
set_option linter.all false
set_option maxRecDepth 100000
set_option maxHeartbeats 1000000
/-! Rule by values: sorted(xs, key=lambda p: p[0]), the items pairs whose first is a text. -/
namespace RS
open PySem PySem.Spec PyProof.Rows L2
/-- texts in order -/
def strLe (a b : Str) : Prop := ltCps b.cps.toList a.cps.toList = false
/-- a pair at an address: its first, its second -/
abbrev Pr := Addr × Str × V
def prV (p : Pr) : V := .ref p.1
def Prs (K : PySem.W.Frag) (H : Hp) (ps : List Pr) : Prop := ∀ p ∈ ps, SqT K H p.1 [.str p.2.1, p.2.2]
def tSK (K : PySem.W.Frag) (T : Tbs) (t : TA) : TE := fun σ H Q => t σ H fun vs H1 => LamX.Tabs T H1 ∧ ∃ (l : Addr) (ps : List Pr), vs = [.ref l] ∧ SqL K H1 l (ps.map prV) ∧ ps.length < 64 ∧ Prs K H1 ps ∧
  ∀ (H2 : Hp) (D : Addr) (qs : List Pr), LamX.ExtN H1 H2 → LamX.Tabs T H2 → qs.Perm ps → qs.Pairwise (fun a b => strLe a.2.1 b.2.1) → H2 D = none → Q (.ref D) (upd H2 D (.lst (qs.map prV)))
theorem extN_sqL {K : PySem.W.Frag} {H H1 : Hp} {a : Addr} {xs : List V} (e : LamX.ExtN H H1) (h : SqL K H a xs) : SqL K H1 a xs := by
  rcases h with (h | ⟨o, h⟩) | h
  · exact .inl (.inl (e _ _ h fun ps z => by cases z))
  · exact .inl (.inr ⟨o, e _ _ h fun ps z => by cases z⟩)
  · exact .inr h
theorem extN_sqT {K : PySem.W.Frag} {H H1 : Hp} {a : Addr} {xs : List V} (e : LamX.ExtN H H1) (h : SqT K H a xs) : SqT K H1 a xs := by
  rcases h with (h | ⟨o, h⟩) | h
  · exact .inl (.inl (e _ _ h fun ps z => by cases z))
  · exact .inl (.inr ⟨o, e _ _ h fun ps z => by cases z⟩)
  · exact .inr h
theorem vals_map_get {α : Type} {f : α → V} : ∀ {l : List α} {us : List Value} {i : Nat} {x : α}, Vals (l.map f) us → l[i]? = some x → ∃ u, us[i]? = some u ∧ RelV (f x) u := fun {l us i x} r h => r.get (by rw [List.getElem?_map, h]; rfl)
section
variable {X : Cx}
theorem pe_sortKey {T : Tbs} {c P : Addr} {k : Nat} {e : Expr} {t : TA} {y : Str} {params : Arguments} {scope : Scope} {jk : Nat} {p p1 p2 p3 lpos kpos pos : Pos} (hg : Gl X "sorted") (hm : X.mg "sorted" = none) (ha : PA X [e] t)
    (TB : LamX.TabB X.base X.mg c P) (hcode : X.env.code = .ref c) (hmT : (P, X.env.qual ++ "<lambda>") ∈ T) (hu : ∀ p ∈ T, p.1 = P → p.2 = X.env.qual ++ "<lambda>") (hr : Room k X.A)
    (hdef : defaultsOf params X.env = ([], []) := by rfl) (hfree : ∀ y ∈ scope.names, y.2 ≠ .free ∧ y.2 ≠ .cell := by decide +kernel) (hs : scope.kind = .function ∧ scope.isCoroutine = false ∧ scope.isGenerator = false := by decide +kernel) (hx : scope.names.lookup y = some .local := by decide +kernel) (hd : (y == ("__debug__" : Str)) = false := by decide)
    (hb : ∀ (q : Str) (cl : List (Str × Addr)) (pm cv ctv u : Value), bindArgs (PySem.W.kla_fn "<lambda>" q params (.Subscript (.Name y p1) (.Constant (.int 0) jk p2) p3) scope cl pm cv ctv) ⟨[u], []⟩ = pure [(y, u)] := by intros; rfl)
    (he : backTo pos (starEach [e] X.env) = (false, eval e X.env) :: backTo pos (starEach [] X.env) := by rfl) (hpl : (backTo pos (starEach [e] X.env)).any (·.1) = false := by rfl) :
    PE X (.Call (.Name "sorted" p) [e] [⟨some "key", .Lambda params (.Subscript (.Name y p1) (.Constant (.int 0) jk p2) p3) scope lpos, kpos⟩] pos) (tSK X.K T t) := by
  refine ⟨fun pins s σ H Q I h => ?_⟩
  refine wpAny_Call_Name_kw (ld_blt I hg hm Boot.«sorted» ?_ (by decide))
  refine callWith_kw (thn (ha.run pos pins s σ H _ I h) fun us s1 ⟨vs, H1, I1, r1, hT, l, ps, ev, hl, h64, htup, q⟩ => ?_) he hpl rfl rfl
  subst ev
  obtain rfl := Vals.ref1 r1
  show wpAny _ _ (evalAll [(do let v ← eval (.Lambda params (.Subscript (.Name y p1) (.Constant (.int 0) jk p2) p3) scope lpos) X.env; standAt pos; pure v)]) _ _ s1
  refine wpAny_evalAll_cons (wpAny_bind (LamX.lam_make2 I1 TB hcode hmT hu hT hdef (fun z m f => absurd f (hfree z m).1) fun f c' pm ctv H2 s2 I2 eN T2 hf hfn hfr hco => wpAny_bind (wpAny_standAt (wpAny_pure (wpAny_evalAll_nil ?_)))))
  show wpAny (model X.prog X.w) X.A (call (.builtin "sorted") [.ref l] [(Str.ofString "key", .ref f)]) _ _ s2
  obtain ⟨its, rv, hls, hz⟩ := I2.list (extN_sqL eN hl)
  obtain ⟨⟨oc, vs2, t2, hoc, hdc, hvc⟩, _, _⟩ := I2.hok c' _ hco
  have hln : ps.length = its.length := by
    have z := rv.length
    rw [List.length_map] at z
    exact z
  refine key_sorted (ks := ps.map fun p => p.2.1) hls.isList (by rw [List.length_map]; exact hln) (by omega) (fun i v kx hv hk s' kp => ?_) fun D h' tk out c2 kp hD ho ⟨zs, zp, ze, zo⟩ => ?_
  · rw [List.getElem?_map] at hk
    cases hi : ps[i]? with
    | none => rw [hi] at hk; cases hk
    | some pr =>
      rw [hi] at hk
      cases hk
      obtain ⟨u, hu1, hu2⟩ := vals_map_get rv hi
      rw [hv] at hu1
      cases hu1
      obtain rfl : v = Value.ref pr.1 := hu2
      obtain ⟨its2, r2, ⟨ob, hob, hrest⟩, _⟩ := I2.tuple (extN_sqT eN (htup pr (List.mem_of_getElem? hi)))
      obtain ⟨u1, u2, rfl, ⟨tt, rfl⟩, e2⟩ := vals2 r2
      refine wpAny_mono (lam_first (cl := cloFrom X.env.cells scope.names []) (kp _ _ hf) ⟨c', oc, vs2, t2, rfl, kp _ _ hoc, hdc, hvc⟩ (I2.ok.mod.nolimit.keeps fun b o eb => kp _ _ (I2.bk b o eb)) hr.depth (hb _ _ _ _ _ _) hs (fun z m => (hfree z m).2) hx hd ⟨ob, kp _ _ hob, hrest⟩) (fun u s3 z => ?_) fun _ _ z => z
      exact ⟨⟨tt, z.1⟩, z.2⟩
  · obtain ⟨qs, pq, eq⟩ := perm_lift (fun z : Pr × Value => (z.1.2.1, z.2)) zp (ps.zip its) (by rw [List.zip_map_left] <;> rfl)
    have hall : ∀ z ∈ qs, z.2 = Value.ref z.1.1 := fun z m => by
      obtain ⟨j, hj⟩ := List.mem_iff_getElem?.mp (pq.mem_iff.mp m)
      obtain ⟨j1, j2⟩ := List.getElem?_zip_eq_some.mp hj
      obtain ⟨u, hu1, hu2⟩ := vals_map_get rv j1
      rw [j2] at hu1
      cases hu1
      exact hu2
    have hout : out.toList = (qs.map (·.1)).map fun p => Value.ref p.1 := by
      rw [ze, ← eq, List.map_map, List.map_map]
      exact List.map_congr_left fun z m => hall z m
    have hperm : (qs.map (·.1)).Perm ps := by
      have z := pq.map (·.1)
      rw [List.map_fst_zip (by omega)] at z
      exact z
    have hsrt : (qs.map (·.1)).Pairwise (fun a b => strLe a.2.1 b.2.1) := by
      rw [← eq, List.pairwise_map] at zo
      rw [List.pairwise_map]
      exact zo
    have hn : H2 D = none := I2.hok.fresh hD
    refine ⟨.ref D, upd H2 D (.lst ((qs.map (·.1)).map prV)), I2.laid (t' := tk) kp hD ⟨?_, out.toList, c2, ?_, ?_⟩, rfl, q H2 D _ eN T2 hperm hsrt hn⟩
    · rw [List.length_map, hperm.length_eq, sizeLine_eq]
      omega
    · rw [hout]
      exact vals_maps prV (fun p => Value.ref p.1) _ fun _ _ => rfl
    · rw [Array.toArray_toList]
      exact ho
end
end RS

/-! text R3 -/
set_option Elab.async false
set_option linter.all false
set_option maxRecDepth 100000
set_option maxHeartbeats 1000000
/-! Rules by values: xs.extend(tuple), tuple(xs) that stands frozen, dict(tuple of pairs), d.update(e), RoadError.__init__(self, text). -/
namespace RS
open PySem PySem.Spec PyProof.Rows L2
theorem ext_tup (l : Addr) (items : Array Value) (n : Nat) (b : Addr) (items2 : Array Value) (n2 : Nat) (dd : Option Addr) (sl : Array (Option Value)) (hs0 : ¬(!items.isEmpty && Builtin.List.listTooLong (items.size + items2.size)) = true) (hs1 : items.size ≤ sizeLine) (hs2 : items.size + items2.size ≤ sizeLine + 1) :
    Meets (Builtin.«list.extend» ⟨[.ref l, .ref b], []⟩) (fun _ R s => s.heap.get? l = some { cls := .type "list", dict := none, data := .seq items n, slots := #[] } ∧ s.heap.get? b = some { cls := .type "tuple", dict := dd, data := .seq items2 n2, slots := sl } ∧
      R (.ok (.ret Value.none)) { s with heap := s.heap.update l (Obj.mapSeq fun x => x ++ items2), toks := s.toks }) :=
  .of_wp fun prog w A R s h => by
    obtain ⟨hp, g, d, tk, os⟩ := s
    obtain ⟨hl, hb, h⟩ := h
    have f1 := AutoSeq1.idx_int
    have f2 := AutoSeq1.sub_tuple_tuple
    have f3 := AutoSeq1.sub_list_list
    have f4 := AutoSeq1.sub_tuple_list
    have f5 := AutoSeq1.sub_list_tuple
    have hz' : (items ++ items2).size ≤ sizeLine + 1 := by
      rw [Array.size_append]
      exact hs2
    wp_walk using (wpAny_updateSeq hl rfl (hz := hs1) (_hz' := hz')), wpAny_loadPart' hl, wpAny_loadPart' hb
    exact ⟨_, rfl, h⟩
section
variable {X : Cx}
def rExtT (K : PySem.W.Frag) : V → List V → Hp → VK → Prop := fun x vs H Q => ∃ l b xs zs, x = .ref l ∧ vs = [.ref b] ∧ H l = some (.lst xs) ∧ SqT K H b zs ∧ xs.length + zs.length ≤ sizeLine ∧ Q .non (upd H l (.lst (xs ++ zs)))
theorem mt_extT : MtM X "list.extend" (rExtT X.K) := by
  intro pins s σ H x vs v us Q I rx rv h
  obtain ⟨l, b, xs, zs, rfl, rfl, hH, hB, hz, q⟩ := h
  cases rx
  obtain ⟨u, rfl, ru⟩ := rv.one
  cases ru
  obtain ⟨z, its, n, r, hl, e⟩ := I.lstM hH
  obtain ⟨its2, r2, ⟨⟨cls, dd, data, sl⟩, ho, hc, n2, hd⟩, _⟩ := I.tuple hB
  simp only at hc hd
  subst hc hd
  have hl2 := r2.length
  have hsz : its.toArray.size + its2.toArray.size ≤ sizeLine := by rw [List.size_toArray, List.size_toArray]; omega
  have hlong : ¬ (!its.toArray.isEmpty && Builtin.List.listTooLong (its.toArray.size + its2.toArray.size)) = true := by rw [notLongL hsz, Bool.and_false]; exact Bool.false_ne_true
  refine call_meets F.slot_list_extend ⟨_, e, rfl⟩ F.entry_list_extend (F.args_list_extend_2 _ _) (ext_tup l its.toArray n b its2.toArray n2 dd sl hlong (by rw [List.size_toArray]; omega) (by omega)) ⟨e, ho, ?_⟩
  exact ⟨.non, _, I.lset (its' := its ++ its2) hH e (by simp) (r.append r2) (by rw [List.length_append]; omega), rfl, q⟩
/-- an extend's argument: a list or a tuple -/
theorem mt_ext2 : MtM X "list.extend" (fun x vs H Q => rExtend x vs H Q ∨ rExtT X.K x vs H Q) := by
  intro pins s σ H x vs v us Q I rx rv h
  rcases h with h | h
  · exact mt_extend pins s σ H x vs v us Q I rx rv h
  · exact mt_extT pins s σ H x vs v us Q I rx rv h
/-- a tuple that stands frozen, of no dict -/
def FzT (H : Hp) (a : Addr) (xs : List V) : Prop := ∃ o : Obj, H a = some (.frz o (.tup xs)) ∧ o.cls = .type "tuple" ∧ o.dict = none
theorem FzT.sq {K : PySem.W.Frag} {H : Hp} {a : Addr} {xs : List V} (h : FzT H a xs) : SqT K H a xs := let ⟨o, e, _⟩ := h; .inl (.inr ⟨o, e⟩)
theorem FzT.kp {T : Tbs} {M : Addr → Prop} {H H1 : Hp} {a : Addr} {xs : List V} (h : FzT H a xs) (k : Kp T M H H1) : FzT H1 a xs := let ⟨o, e, r⟩ := h; ⟨o, k.frz e, r⟩
/-- tuple(xs) of a list -/
theorem call_tupF : CallR X (.type "tuple") (fun xs H Q => ∃ p ys, xs = [.ref p] ∧ SqL X.K H p ys ∧ ∀ l o, H l = none → o.cls = .type "tuple" → o.dict = none → Q (.ref l) (upd H l (.frz o (.tup ys)))) := by
  intro pins s σ H xs us Q I r h
  obtain ⟨p, ys, rfl, hq, q⟩ := h
  obtain ⟨u, rfl, rx⟩ := vals1 r
  cases rx
  obtain ⟨its, r', pl, hz⟩ := I.list hq
  have hlen := r'.length
  refine call_tuple_list pl.isList (fun h' kp => ?_) (by rw [List.size_toArray]; omega)
  have I1 : Inv X pins σ H { s with heap := h' } := I.kept (t' := s.toks) kp
  refine ⟨.ref h'.objs.size, upd H h'.objs.size (.frz { cls := .type "tuple", data := .seq its.toArray } (.tup ys)), I1.laid (t' := s.toks) (fun b o e => Heap.get?_push_of_some _ e) (Nat.le_refl _) ⟨Heap.get?_push_size _ rfl, hz, its, r', IsTup.new _ _⟩, rfl, q _ _ (I1.hok.fresh (Nat.le_refl _)) rfl rfl⟩
theorem pairs_us {pins : List (Addr × Obj)} {σ : L2.St} {H : Hp} {s : Shared} (I : Inv X pins σ H s) : ∀ {ps : List Addr} {kvs : List (Key × V)}, Paired (fun p kv => SqT X.K H p [kV kv.1, kv.2]) ps kvs →
    ∃ (prs : List (Key × Value)) (us : List (Value × Value)), KV kvs prs ∧ prs.length = ps.length ∧ us.length = ps.length ∧ ∀ (j : Nat) (k v : Value), us[j]? = some (k, v) → ∃ b q, ps[j]? = some b ∧ prs[j]? = some (q, v) ∧ IsTup s.heap b #[k, v] ∧ keyIs q k = true
  | _, _, .nil => ⟨[], [], .nil, rfl, rfl, fun j k v e => by simp at e⟩
  | _, _, .cons (a := p) (b := kv) h t => by
    obtain ⟨prs, us, r, h1, h2, h3⟩ := pairs_us I t
    obtain ⟨its, rv, ht, _⟩ := I.tuple h
    obtain ⟨u, y, rfl, ru, ry⟩ := vals2 rv
    refine ⟨(kv.1, y) :: prs, (u, y) :: us, .cons ⟨rfl, ry⟩ r, congrArg (· + 1) h1, congrArg (· + 1) h2, fun j k v e => ?_⟩
    cases j with
    | zero =>
      rw [List.getElem?_cons_zero] at e
      cases e
      exact ⟨p, kv.1, rfl, rfl, ht, kV_is (P := X.prog) (w := X.w) ru⟩
    | succ j =>
      rw [List.getElem?_cons_succ] at e
      obtain ⟨b, q, e1, e2, e3⟩ := h3 j k v e
      exact ⟨b, q, by rw [List.getElem?_cons_succ]; exact e1, by rw [List.getElem?_cons_succ]; exact e2, e3⟩
/-- dict(t) of a tuple of pairs (key, value) that stands frozen -/
theorem call_dictF (hcalm : X.calm = true) : CallR X (.type "dict") (fun xs H Q => ∃ (a : Addr) (ps : List Addr) (kvs : List (Key × V)), xs = [.ref a] ∧ FzT H a (ps.map V.ref) ∧ Paired (fun p kv => SqT X.K H p [kV kv.1, kv.2]) ps kvs ∧
    ∀ p, H p = none → Q (.ref p) (upd H p (.dK (mergeK [] kvs)))) := by
  intro pins s σ H xs us Q I r q
  obtain ⟨a, ps, kvs, ex, ⟨o, hf, hoc, hod⟩, hp, q⟩ := q
  subst ex
  obtain ⟨u, eu, rx⟩ := vals1 r
  subst eu
  cases rx
  obtain ⟨hg, hz, its, rv, o', ho', hc', n, hd'⟩ := I.hok a _ hf
  have eo : o' = o := Option.some.inj (ho'.symm.trans hg)
  subst eo
  have ei := refs_at rv
  subst ei
  rw [List.length_map] at hz
  obtain ⟨prs, us, rel, hl, hl2, hpr⟩ := pairs_us I hp
  refine PySem.call_dict_pairs (knd := mixKind X.prog X.w) (kvs := prs) (PairArg.tuple a (ps.map Value.ref).toArray (fun j => ps.getD j 0) us) (I.ok.hd hcalm) ⟨⟨_, n, ho', hc', hod, hd'⟩, ?_, fun j k v e => ?_⟩ ⟨hl.trans hl2.symm, fun j k v e => ?_⟩ (by rw [hl2]; exact hz) fun h' tk hd2 k => ?_
  · rw [List.size_toArray, List.length_map, hl2]
  · obtain ⟨b, q, e1, e2, e3, e4⟩ := hpr j k v e
    have eb : ps.getD j 0 = b := by rw [List.getD_eq_getElem?_getD, e1]; rfl
    show (List.map Value.ref ps).toArray[j]? = some (Value.ref (ps.getD j 0)) ∧ PairAt s.heap (ps.getD j 0) k v
    rw [eb, List.getElem?_toArray, List.getElem?_map, e1]
    exact ⟨rfl, .inl e3⟩
  · obtain ⟨b, q, e1, e2, e3, e4⟩ := hpr j k v e
    exact ⟨q, e2, e4⟩
  · have hm : (s.heap.objs.size == sysModules) = false := beq_eq_false_iff_ne.mpr (Nat.ne_of_gt I.big)
    have hlen : (mergeK [] kvs).length ≤ sizeLine := by
      refine Nat.le_trans (length_mergeK kvs []) ?_
      rw [List.length_nil, Nat.zero_add, rel.length, hl]
      exact hz
    exact ⟨.ref s.heap.objs.size, upd H s.heap.objs.size (.dK (mergeK [] kvs)), I.laid (t' := tk) (fun b o e => k b o (by simp) e) (Nat.le_refl _) (show ObjOk X.prog X.w _ _ _ (.dK (mergeK [] kvs)) from ⟨hlen, hm, merged [] prs, KV.merge rel .nil, hd2⟩), rfl, q _ (I.hok.fresh (Nat.le_refl _))⟩
/-- d.update(e) -/
def rUpdD : V → List V → Hp → VK → Prop := fun x vs H Q => ∃ (a b : Addr) (xs ys : List (Key × V)), x = .ref a ∧ vs = [.ref b] ∧ a ≠ b ∧ H a = some (.dK xs) ∧ H b = some (.dK ys) ∧ xs.length + ys.length ≤ sizeLine ∧ Q .non (upd H a (.dK (mergeK xs ys)))
theorem mt_updD : MtR X "dict.update" rUpdD := by
  intro pins s σ H x vs v us Q I rx rv h
  obtain ⟨a, b, xs, ys, rfl, rfl, hab, hA, hB, hz, q⟩ := h
  cases rx
  obtain ⟨u, rfl, ru⟩ := vals1 rv
  cases ru
  obtain ⟨z1, m1, vs1, r1, d1⟩ := I.hok a _ hA
  obtain ⟨z2, m2, vs2, r2, d2⟩ := I.hok b _ hB
  have e1 := Paired.length r1
  have e2 := Paired.length r2
  refine call_meetsIn PySem.F.slot_dict_update d1.typeIs PySem.F.entry_dict_update (PySem.F.args_dict_update_2 _ _) (meets_dict_update (mixKind X.prog X.w) a b hab m2) ⟨vs1, vs2, d1, d2, by omega, fun h' d1' d2' hs => ?_⟩
  have hl : (mergeK xs ys).length ≤ sizeLine := by
    refine Nat.le_trans (length_mergeK ys xs) ?_
    omega
  have J : Inv X pins σ (upd H a (.dK (mergeK xs ys))) { s with heap := h' } :=
    I.write (t' := s.toks) (x := a) (e := a) (o := .dK (mergeK xs ys)) (by rw [hA]; exact True.intro) (.inl rfl) (fun c o hc e => (hs.2 c hc).trans e) (let ⟨o, _, _, e, _⟩ := d1'; ⟨o, e⟩) ⟨hl, m1, merged vs1 vs2, KV.merge r2 r1, d1'⟩
  exact ⟨.non, _, J, rfl, q⟩
/-- RoadError.__init__(self, text): the class's __init__ is ValueError's -/
theorem pe_roadinit {pl : Sem Bool} {C0 : Addr} {x : Str} {e : Expr} {es : List Expr} {ta : TA} {p1 p2 pos : Pos} (hg : Gl X x) (hm : X.mg x = some (.ref C0))
    (hr : PySem.W.readsIn X.K C0 (.type "type") = true ∧ PySem.W.specialIn X.K (.ref C0) "__getattribute__" = some (some (.builtin "type.__getattribute__")) ∧ PySem.W.findCls X.K (.ref C0) (.type "type") "__init__" = some (.val (.builtin "ValueError.__init__"))) (ha : PA X (e :: es) ta)
    (hc : eval (.Call (.Attribute (.Name x p1) "__init__" p2) (e :: es) [] pos) X.env = (do
      let ov ← eval (.Name x p1) X.env
      standAt p2.atName
      let (f, first) ← holding [ov] (getMethod ov "__init__" pl)
      callWith pos f first (backTo pos (starEach (e :: es) X.env)) (backToKw pos (keywordEach [] X.env))) := by rfl)
    (hdb : (x == ("__debug__" : Str)) = false := by decide) (he : starEach (e :: es) X.env = (false, eval e X.env) :: starEach es X.env := by rfl) (hpl : (backTo pos (starEach es X.env)).any (·.1) = false := by rfl) :
    PE X (.Call (.Attribute (.Name x p1) "__init__" p2) (e :: es) [] pos) (tVeI X.K ta) := by
  refine ⟨fun pins s σ H Q I h => ?_⟩
  refine PySem.W.methodCall_KW (ld_glob I hg hm ?_ hdb) hc
  refine PySem.W.method_cls I.kIn hr.2.1 (PySem.W.cls_value I.kIn hr.1 hr.2.2 (by decide +kernel) ?_)
  show wpAny _ _ (callWith pos (Value.builtin "ValueError.__init__") [] (backTo pos (starEach (e :: es) X.env)) []) _ _ _
  refine callWith_method1 (thn (ha.run pos pins _ σ H _ (I.tok _) h) fun us s1 ⟨vs, H1, I1, r1, a, C, ws, ev, hl, T, ea, q⟩ => ?_) he hpl
  subst ev
  cases r1 with
  | @cons _ u0 _ ur ra rw' =>
    obtain rfl : u0 = Value.ref a := ra
    exact oinit_ok T I1 ea (by rw [← Paired.length rw', sizeLine_eq]; omega) fun s' J => ⟨.non, H1, J, rfl, q⟩
end
end RS

/-! text R4 -/
set_option Elab.async false
set_option linter.all false
set_option maxRecDepth 100000
set_option maxHeartbeats 1000000
/-! Sets of texts: set(xs), sorted(of it). -/
namespace RS
open PySem PySem.Spec PyProof.Rows L2
/-- a member's text -/
def keyS (e : Int × Value) : Str := strOf e.2
def GoodS (w : World) (e : Int × Value) : Prop := ∃ x t, e.2 = Value.str x t ∧ e.1 = hashStr w x
/-- a set of the texts L (each once), its table in order -/
def SetS (w : World) (h : Heap) (a : Addr) (L : List Str) : Prop :=
  ∃ o es ep t, h.get? a = some o ∧ o.ExactSet ∧ o.data = .set es ep t ∧ (∀ e ∈ es.toList, GoodS w e) ∧ (es.toList.map keyS).Perm L ∧ L.Nodup ∧ es.size < scanBound ∧ t.fits es.size = true ∧ Ris t.place.toList ∧ (w.params.followText "set-order" = true ∨ t.led = true)
section
variable {P : Program} {w : World} {h h' : Heap} {a : Addr} {L : List Str}
theorem SetS.at (R : SetS w h a L) (k : ∀ o, h.get? a = some o → h'.get? a = some o) : SetS w h' a L := let ⟨o, es, ep, t, ho, r⟩ := R; ⟨o, es, ep, t, k o ho, r⟩
theorem goodS_elems {l : List (Int × Value)} (g : ∀ e ∈ l, GoodS w e) : ElemsOf (PySem.strKind P w) l := fun e m => by
  obtain ⟨x, t, h1, h2⟩ := g e m
  exact ⟨⟨x, by rw [h1]; exact keyIs_str x t, h2⟩, by rw [h1]; rfl⟩
theorem goodS_is {e : Int × Value} (g : GoodS w e) (k : Str) : (PySem.strKind P w).is k e.2 = true ↔ keyS e = k := by
  obtain ⟨x, t, h1, _⟩ := g
  unfold keyS
  rw [h1]
  constructor
  · intro z
    obtain ⟨u, q⟩ := Value.isStrOf_shape (x := k) (v := Value.str x t) z
    injection q
  · intro z
    have z2 : x = k := z
    rw [z2]
    exact keyIs_str k t
end
section
variable {P : Program} {w : World} {A : Around} {E : Value → Shared → Prop} {s : Shared} {a : Addr} {L : List Str}
theorem setS_tail {g : Bool → Sem Unit} (hg : ∀ (b : Bool) (s1 : Shared) (Q' : Unit → Shared → Prop), Q' () s1 → wpAny (model P w) A (g b) Q' E s1)
    {o : Obj} {es es1 : Array (Int × Value)} {ep : Nat} {t t2 : SetTable} {L' : List Str} (ho : s.heap.get? a = some o) (hex : o.ExactSet) (hd : o.data = .set es ep t)
    (g1 : ∀ e ∈ es1.toList, GoodS w e) (p1 : (es1.toList.map keyS).Perm L') (n1 : L'.Nodup) (hb1 : es1.size < scanBound) (hf2 : t2.fits es1.size = true) (hr : Ris t2.place.toList) (hl : w.params.followText "set-order" = true ∨ t2.led = true)
    {wasDummy : Bool} {R : Option Bool → Shared → Prop} (hR : ∀ h', Heap.SameBut a s.heap h' → SetS w h' a L' → R (some true) { s with heap := h' }) :
    wpAny (model P w) A (do
        storeSet a es1 t2
        if (!wasDummy && t2.tooFull) = true then do
            g (relayAll t2 es1 (SetTable.grown es1.size)).2.2
            storeSet a (relayAll t2 es1 (SetTable.grown es1.size)).1 (relayAll t2 es1 (SetTable.grown es1.size)).2.1
            pure (some true)
          else pure (some true)) R E s := by
  refine (wpAny_bind (wpAny_storeSet_of ho hd (?_) (fits_of_scanBound hb1)))
  have ho1 := store_at (es' := es1) (t' := t2) ho hd
  have sb1 := Heap.SameBut.update s.heap a (Obj.putSet es1 t2)
  split
  · have pm := relayAll_perm t2 es1 (SetTable.grown es1.size)
    have z1 := relayAll_fits t2 es1 (SetTable.grown es1.size)
    have z2 := relayAll_ris t2 es1 (SetTable.grown es1.size)
    have z3 := relayAll_led t2 es1 (SetTable.grown es1.size)
    generalize relayAll t2 es1 (SetTable.grown es1.size) = Z at pm z1 z2 z3 ⊢
    obtain ⟨es2, t3, gave⟩ := Z
    dsimp only at pm z1 z2 z3 ⊢
    have hsz : es2.size = es1.size := by rw [← Array.length_toList, pm.length_eq, Array.length_toList]
    have hb2 : es2.size < scanBound := hsz ▸ hb1
    refine (wpAny_bind (hg _ _ _ (wpAny_bind (wpAny_storeSet_of ho1 rfl (?_) (fits_of_scanBound hb2)))))
    exact wpAny_pure (hR _ (sb1.trans (Heap.SameBut.update _ a _)) ⟨_, es2, _, t3, store_at (es' := es2) (t' := t3) ho1 rfl, hex, rfl, fun e m => g1 e (pm.mem_iff.mp m), (pm.map keyS).trans p1, n1, hb2, z1, z2, hl.imp id fun z => by rw [z3]; exact z⟩)
  · exact wpAny_pure (hR _ sb1 ⟨_, es1, _, t2, ho1, hex, rfl, g1, p1, n1, hb1, hf2, hr, hl⟩)
def addS (L : List Str) (k : Str) : List Str := if k ∈ L then L else k :: L
theorem setS_add {k : Str} {tk : Tok} {Q : Bool → Shared → Prop} (R : SetS w s.heap a L) (room : L.length + 1 < scanBound) (hQ : ∀ b h', Heap.SameBut a s.heap h' → SetS w h' a (addS L k) → Q b { s with heap := h' }) :
    wpAny (model P w) A (setAddHashed a (.str k tk) ((PySem.strKind P w).hash k)) Q E s := by
  obtain ⟨o, es, ep, t, ho, hex, hd, g, pL, nL, hb, hf, hr, hl⟩ := R
  have hkey : (PySem.strKind P w).is k (.str k tk) = true := keyIs_str k tk
  have hsc : (Value.str k tk).scannable = true := rfl
  have hel : ElemsOf (PySem.strKind P w) es.toList := goodS_elems g
  unfold setAddHashed setAddHashedIn
  refine (wpAny_holding (wpAny_bind (wpAny_setState_of ho hd hf (?_))))
  dsimp only
  rw [byScan_of hsc hb hel]
  simp only [↓reduceIte]
  unfold setAddByScan
  refine (wpAny_bind (wpAny_bind (wpAny_rule (wpAny_bind (wpAny_setScan_of hkey ho hd hf hel (?_))))))
  cases hfi : List.findIdx? (fun e => (PySem.strKind P w).is k e.2) es.toList with
  | some j =>
    dsimp only
    obtain ⟨hj, pj, _⟩ := List.findIdx?_eq_some_iff_getElem.mp hfi
    have hk : k ∈ L := pL.mem_iff.mp (List.mem_map.mpr ⟨es.toList[j], List.getElem_mem hj, (goodS_is (P := P) (g _ (List.getElem_mem hj)) k).mp pj⟩)
    refine (wpAny_pure (wpAny_pure (hQ _ _ (Heap.SameBut.refl a s.heap) ?_)))
    unfold addS
    rw [if_pos hk]
    exact ⟨o, es, ep, t, ho, hex, hd, g, pL, nL, hb, hf, hr, hl⟩
  | none =>
    dsimp only
    have hnk : k ∉ L := fun z => by
      obtain ⟨e, m, q⟩ := List.mem_map.mp (pL.mem_iff.mpr z)
      have c := List.findIdx?_eq_none_iff.mp hfi e m
      rw [(goodS_is (P := P) (g e m) k).mpr q] at c
      cases c
    have hgw : ∀ (b : Bool) {s1 : Shared} {Q' : Unit → Shared → Prop}, Q' () s1 → wpAny (model P w) A (match b with | true => rule "set.scan.the-table-gave-way" | false => pure ()) Q' E s1 := fun b s1 Q' q => by
      cases b
      · exact wpAny_pure q
      · exact wpAny_rule q
    have pm := layNew_perm t es ((PySem.strKind P w).hash k) (.str k tk)
    have z1 := layNew_fits t es ((PySem.strKind P w).hash k) (.str k tk)
    have z2 := layNew_ris t es ((PySem.strKind P w).hash k) (.str k tk) hr
    have z3 := layNew_led t es ((PySem.strKind P w).hash k) (.str k tk)
    generalize layNew t es ((PySem.strKind P w).hash k) (.str k tk) = Z at pm z1 z2 z3 ⊢
    obtain ⟨es1, t1, wasDummy, gave⟩ := Z
    dsimp only at pm z1 z2 z3 ⊢
    rw [Array.toList_push] at pm
    have pc : es1.toList.Perm (((PySem.strKind P w).hash k, Value.str k tk) :: es.toList) := pm.trans (List.perm_append_singleton _ _)
    have g1 : ∀ e ∈ es1.toList, GoodS w e := fun e m => by
      rcases List.mem_cons.mp (pc.mem_iff.mp m) with z | z
      · rw [z]; exact ⟨k, tk, rfl, rfl⟩
      · exact g e z
    have p1 : (es1.toList.map keyS).Perm (k :: L) := (pc.map keyS).trans (pL.cons k)
    have n1 : (k :: L).Nodup := List.nodup_cons.mpr ⟨hnk, nL⟩
    have hb1 : es1.size < scanBound := by
      have e := p1.length_eq
      rw [List.length_map, Array.length_toList, List.length_cons] at e
      omega
    have hled : w.params.followText "set-order" = true ∨ t1.led = true := hl.imp id fun z => by rw [z3]; exact z
    have fin : ∀ h', Heap.SameBut a s.heap h' → SetS w h' a (k :: L) → Q true { s with heap := h' } := fun h' sb r => hQ true h' sb (by unfold addS; rw [if_neg hnk]; exact r)
    refine (wpAny_bind (hgw _ (?_)))
    split
    · refine wpAny_bind ?_
      rw [hashByValue_scannable 8 hsc]
      refine wpAny_pure ?_
      refine setS_tail ?_ ho hex hd g1 p1 n1 hb1 ?_ ?_ ?_ ?_
      · intro b s1 Q' q
        cases b
        · exact wpAny_pure q
        · exact wpAny_rule q
      · first | (split <;> first | exact z1 | exact SetTable.fits_plain_off z1) | exact z1
      · first | (split <;> exact z2) | exact z2
      · first | (split <;> exact hled) | exact hled
      · intro h' sb r
        exact wpAny_pure (fin h' sb r)
    · refine wpAny_bind (wpAny_pure ?_)
      simp only [↓reduceIte]
      refine setS_tail ?_ ho hex hd g1 p1 n1 hb1 z1 z2 hled ?_
      · intro b s1 Q' q
        cases b
        · exact wpAny_pure q
        · exact wpAny_rule q
      · intro h' sb r
        exact wpAny_pure (fin h' sb r)
/-! ### set(xs) -/
/-- the first i texts of xs, each once -/
def metS (xs : List Str) : Nat → List Str
  | 0 => []
  | i + 1 => addS (metS xs i) (xs.getD i Str.empty)
theorem metS_len (xs : List Str) : ∀ i, (metS xs i).length ≤ i
  | 0 => Nat.le_refl _
  | i + 1 => by
    have ih := metS_len xs i
    show (addS (metS xs i) _).length ≤ i + 1
    unfold addS
    split
    · omega
    · rw [List.length_cons]; omega
theorem mem_addS {L : List Str} {k x : Str} : x ∈ addS L k ↔ x = k ∨ x ∈ L := by
  unfold addS
  split
  · rename_i h
    exact ⟨.inr, fun z => z.elim (fun e => e ▸ h) id⟩
  · exact List.mem_cons
theorem mem_metS (xs : List Str) : ∀ i, i ≤ xs.length → ∀ x, x ∈ metS xs i ↔ x ∈ xs.take i
  | 0, _, x => by rw [List.take_zero]; exact Iff.rfl
  | i + 1, h, x => by
    have e : xs[i]? = some (xs.getD i Str.empty) := by rw [List.getD_eq_getElem?_getD, List.getElem?_eq_getElem (show i < xs.length by omega)]; rfl
    show x ∈ addS _ _ ↔ _
    rw [mem_addS, mem_metS xs i (by omega) x, List.take_add_one, e, List.mem_append]
    exact ⟨fun z => z.elim (fun q => .inr (List.mem_singleton.mpr q)) .inl, fun z => z.elim .inr fun q => .inl (List.mem_singleton.mp q)⟩
theorem set_loop {I : Addr} {fp wr : List Addr} {G : Array GenState → Array GenState → Prop} {n : Nat} {Pv : Nat → Value → Prop} {St : Nat → Shared → Prop} {R : Result → Shared → Prop} (W : WalksS P w A.in1 I fp wr G n Pv St) (S : Addr) (hSf : S ∉ fp)
    (xs : List Str) (hval : ∀ i v, Pv i v → ∃ t, v = .str (xs.getD i Str.empty) t) (hb : n + 1 < scanBound) : ∀ (k i : Nat) (s : Shared), n - i = k → i ≤ n → St i s → SetS w s.heap S (metS xs i) →
      (∀ s', Moved (S :: wr) G s s' → SetS w s'.heap S (metS xs n) → R (.ok (.ret .none)) s') → codeAny (model P w) A (.builtin "set.update.loop" ⟨[.ref S, .ref I], []⟩) R s := by
  have hSw : S ∉ wr := fun h => hSf (W.sub _ h)
  have hsub : ∀ b ∈ wr, b ∈ S :: wr := fun b hb => List.mem_cons_of_mem _ hb
  intro k
  induction k with
  | zero =>
    intro i s hk hi hst hS hR
    have hin : i = n := by omega
    subst hin
    refine (codeAny_builtin PyProof.Rows.F.entry_set_update_loop (?_))
    rw [(Around.under_plainId PyProof.Rows.F.plain_set_update_loop _)]
    show (wpAny _ A.in1 (pyNext (.ref I) >>= _) _ _ s)
    exact wpAny_bind (W.done s _ _ hst fun s' hm => wpAny_pure (hR s' (hm.mono hsub) (hS.at fun o e => hm.heap S o hSw e)))
  | succ k ih =>
    intro i s hk hi hst hS hR
    have hlt : i < n := by omega
    refine (codeAny_builtin PyProof.Rows.F.entry_set_update_loop (?_))
    rw [(Around.under_plainId PyProof.Rows.F.plain_set_update_loop _)]
    show (wpAny _ A.in1 (pyNext (.ref I) >>= _) _ _ s)
    refine (wpAny_bind (W.item i s _ _ hlt hst fun v s' hP hst' hm => (?_)))
    obtain ⟨t, rfl⟩ := hval i v hP
    have hS' : SetS w s'.heap S (metS xs i) := hS.at fun o e => hm.heap S o hSw e
    show wpAny _ A.in1 (holding [Value.str (xs.getD i Str.empty) t] (setAdd S (.str (xs.getD i Str.empty) t)) >>= _) _ _ s'
    refine wpAny_bind (wpAny_holding (?_))
    unfold setAdd
    refine (wpAny_holding (wpAny_bind ((PySem.strKind P w).pyHash (k := xs.getD i Str.empty) (keyIs_str (xs.getD i Str.empty) t) ?_)))
    have hroom : (metS xs i).length + 1 < scanBound := by have := metS_len xs i; omega
    refine setS_add (tk := t) (s := { s' with toks := s'.toks + 1 }) hS' hroom fun b h' hsb hS2 => ?_
    refine wpAny_pure ⟨plainId_quiet PyProof.Rows.F.plain_set_update_loop _, ih (i + 1) _ (by omega) hlt (W.frame _ s' _ _ hst' (Nat.le_succ _) fun b hb o e => (hsb.2 b fun h => hSf (h ▸ hb)).trans e) hS2 fun s2 hm2 hS3 => ?_⟩
    exact hR s2 (Moved.trans W.gtrans ((hm.mono hsub).then_heap (Nat.le_succ _) fun b o hb e => (hsb.2 b fun h => hb (by rw [h]; exact List.mem_cons_self)).trans e) hm2) hS3
/-- behind the walk over the list -/
abbrev AfterSet (w : World) (s : Shared) (xs : List Str) (Q : Value → Shared → Prop) : Prop :=
  ∀ (h' : Heap) (tk : Nat), SetS w h' s.heap.objs.size (metS xs xs.length) → Kept s.heap h' → Q (.ref s.heap.objs.size) { s with heap := h', toks := tk }
theorem new_set1 (x : Value) {Q1 : Value → Shared → Prop}
    (h : Q1 (.ref s.heap.objs.size) { s with heap := s.heap.push { cls := .type "set", dict := none, data := .set #[] 0 (.fresh 0 0 (!w.params.followText "set-order")) } }) :
    codeAny (model P w) A (.call (.builtin "set.__new__") ⟨[.type "set", x], []⟩) (wants Q1 E) s := by
  refine codeAny_of_tree ?_
  show wpAny _ A.in1 (do checkBuiltinCall "set.__new__" ⟨[.type "set", x], []⟩; again (.builtin "set.__new__" ⟨[.type "set", x], []⟩)) _ _ s
  refine (wpAny_bind (wpAny_of_eq (PySem.F.newCall_set_1 x) (wpAny_pure ⟨plainId_quiet PySem.F.plain_set_new _, codeAny_builtin PySem.F.entry_set_new (?_)⟩)))
  rw [(Around.under_plainId PySem.F.plain_set_new _)]
  unfold Builtin.«set.__new__» Builtin.Frozenset.newClass
  have hsub := sub_set_self
  obtain ⟨hp, g, d, tk, os⟩ := s
  dsimp only
  wp_walk
  refine wpAny_askSetting (wpAny_pure (?_))
  dsimp only
  simp only [newObj]
  exact (wpAny_bind (wpAny_alloc (wpAny_pure (wpAny_pure h))))
theorem call_set_strs {l : Addr} {items : Array Value} {xs : List Str} {Q : Value → Shared → Prop} (hh : A.handled = none) (hl : s.heap.IsList l items) (hi : StrsAre items.toList xs) (hb : xs.length + 1 < scanBound) (h : AfterSet w s xs Q) :
    wpAny (model P w) A (call (.type "set") [.ref l]) Q E s := by
  obtain ⟨c, tl, hmro⟩ := PySem.F.called_set.mro
  have hmade := PySem.F.called_set.made
  have hsub := PySem.F.called_set.sub
  have hsz : items.size = xs.length := by
    have z := strs_len hi
    rw [Array.length_toList] at z
    exact z
  refine (wpAny_call (codeAny_of_tree (?_)))
  show wpAny _ _ (callAny (.type "set") _) _ _ _
  refine (wpAny_pure ⟨Code.quiet_builtin _ (by decide +kernel), codeAny_builtin PySem.F.entry_type_call (?_)⟩)
  rw [(Around.under_plain (weight_type_call_type "set" [.ref l] []) rfl)]
  have h1 := PySem.F.called_set.notType
  have h2 := PySem.F.called_set.canCreate
  have hct := PySem.F.typeCall_set_1 (.ref l)
  repeat (any_goals (first | assumption | wp_step))
  refine codeAny_mono (new_set1 (.ref l) (E := E) (Q1 := fun obj s1 => obj = .ref s.heap.objs.size ∧ s1 = { s with heap := s.heap.push { cls := .type "set", dict := none, data := .set #[] 0 (.fresh 0 0 (!w.params.followText "set-order")) } }) ⟨rfl, rfl⟩) fun r s1 hr => ?_
  cases r with
  | error e => exact hr
  | ok fl =>
    cases fl with
    | ret obj =>
      obtain ⟨rfl, rfl⟩ := hr
      have hS : (s.heap.push { cls := .type "set", dict := none, data := .set #[] 0 (.fresh 0 0 (!w.params.followText "set-order")) }).get? s.heap.objs.size = some { cls := .type "set", dict := none, data := .set #[] 0 (.fresh 0 0 (!w.params.followText "set-order")) } := Heap.get?_push_size _ rfl
      have hT : Shared.TypeIs { s with heap := s.heap.push { cls := .type "set", dict := none, data := .set #[] 0 (.fresh 0 0 (!w.params.followText "set-order")) } } (.ref s.heap.objs.size) "set" := ⟨_, hS, rfl⟩
      have hli := PySem.F.called_set.init.lookup
      have hbi := PySem.F.called_set.init.bind (.ref s.heap.objs.size)
      repeat (any_goals (first | assumption | wp_step))
      refine codeAny_mono (codeAny_call_builtin (R := wants (fun r s2 => r = .none ∧ ∃ h' tk, s2 = { s with heap := h', toks := tk } ∧ SetS w h' s.heap.objs.size (metS xs xs.length) ∧ Kept s.heap h') E) PySem.F.called_set.init.plain PySem.F.entry_set_init (check_set_init_1 hT ?_)) fun r2 s2 hr2 => ?_
      · obtain ⟨ol, hol, hcl, nl, hdl⟩ := hl
        obtain ⟨ocls, odict, odata, oslots⟩ := ol
        simp only at hcl hdl
        subst hcl hdl
        have hol' := Heap.get?_push_of_some { cls := .type "set", dict := none, data := .set #[] 0 (.fresh 0 0 (!w.params.followText "set-order")) } hol
        have hsls := PySem.F.sub_list_set
        have hslf := PySem.F.sub_list_frozenset
        have hne : (Value.type "list" == Value.type "dict") = false := by decide
        have hl1 : (s.heap.push { cls := .type "set", dict := none, data := .set #[] 0 (.fresh 0 0 (!w.params.followText "set-order")) }).IsList l items := ⟨_, hol', rfl, nl, rfl⟩
        unfold Builtin.«set.__init__» noKeywords Builtin.Frozenset.updateFrom
        generalize hPI : pyIter = PI
        wp_walk
        subst hPI
        refine (wpAny_pyIter_list hl1 (wpAny_bind (wpAny_runValue (?_))))
        have hlS : l < s.heap.objs.size := Heap.lt_size hol
        have hneI : l ≠ (s.heap.push { cls := .type "set", dict := none, data := .set #[] 0 (.fresh 0 0 (!w.params.followText "set-order")) }).objs.size := by
          rw [Heap.size_push]
          exact Nat.ne_of_lt (Nat.lt_succ_of_lt hlS)
        have hSf : s.heap.objs.size ∉ [(s.heap.push { cls := .type "set", dict := none, data := .set #[] 0 (.fresh 0 0 (!w.params.followText "set-order")) }).objs.size, l] := by
          rw [Heap.size_push]
          intro z
          rcases List.mem_cons.mp z with z | z
          · exact Nat.ne_of_lt (Nat.lt_succ_self _) z
          · exact Nat.ne_of_gt hlS (List.mem_singleton.mp z)
        have hval : ∀ (i : Nat) (v : Value), items[i]? = some v → ∃ t, v = Value.str (xs.getD i Str.empty) t := fun i v hv => by
          have gen : ∀ {vs : List Value} {ks : List Str}, StrsAre vs ks → ∀ (i : Nat) (v : Value), vs[i]? = some v → ∃ t, v = Value.str (ks.getD i Str.empty) t := by
            intro vs ks r
            induction r with
            | nil => intro i v q; simp at q
            | cons x t _ ih =>
              intro i v q
              cases i with
              | zero => rw [List.getElem?_cons_zero] at q; cases q; exact ⟨t, rfl⟩
              | succ i => rw [List.getElem?_cons_succ] at q; exact ih i v q
          exact gen hi i v (by rw [Array.getElem?_toList]; exact hv)
        refine set_loop ((Walks.list (show A.in1.in1.in1.handled = none from hh) _ l hneI items).toS) s.heap.objs.size hSf xs hval (by rw [hsz]; exact hb) (items.size - 0) 0 _ (by omega) (Nat.zero_le _) ⟨⟨_, Heap.get?_push_size _ rfl, rfl, rfl⟩, hl1.push _⟩ ?_ ?_
        · refine ⟨_, #[], 0, _, Heap.get?_push_of_some _ hS, ⟨rfl, rfl, rfl⟩, rfl, (fun e he => by simp at he), List.Perm.refl _, List.nodup_nil, (by decide), (by rfl), List.Pairwise.nil, ?_⟩
          show _ ∨ (!w.params.followText "set-order") = true
          cases w.params.followText "set-order"
          · exact .inr rfl
          · exact .inl rfl
        · intro s' hm hS'
          obtain ⟨h', g', d', tk', os'⟩ := s'
          have eg : g' = s.gens := hm.gens
          have ed : d' = s.drawn := hm.drawn
          have eo : os' = s.os := hm.os
          subst eg ed eo
          refine (wpAny_pure (wpAny_pure ⟨rfl, h', tk', rfl, by rw [← hsz]; exact hS', fun b o e => ?_⟩))
          have hb0 : b < s.heap.objs.size := Heap.lt_size e
          refine hm.heap b o (fun z => ?_) (Heap.get?_push_of_some _ (Heap.get?_push_of_some _ e))
          rcases List.mem_cons.mp z with z | z
          · exact Nat.ne_of_lt hb0 z
          · have z2 := List.mem_singleton.mp z
            rw [Heap.size_push] at z2
            exact Nat.ne_of_lt (Nat.lt_succ_of_lt hb0) z2
      · cases r2 with
        | error e => exact hr2
        | ok fl2 =>
          cases fl2 with
          | ret r =>
            obtain ⟨rfl, h', tk, rfl, hS', hk'⟩ := hr2
            repeat (any_goals (first | assumption | wp_step))
            exact h _ _ hS' hk'
          | _ => exact hr2.elim
    | _ => exact hr.elim
/-! ### sorted(set) -/
theorem sorted_setS {Q : Value → Shared → Prop} (R : SetS w s.heap a L) (hh : A.handled = none) (h64 : L.length < 64)
    (hQ : ∀ s' p (out : Array Value) (c : Nat) (ys : List Str), Kept s.heap s'.heap → s'.gens = s.gens → s'.os = s.os → s.heap.objs.size ≤ p → s'.heap.get? p = some (seqObj "list" out c) → StrsAre out.toList ys → ys.Perm L → sortedS ys = true → Q (.ref p) s') :
    wpAny (model P w) A (call (.builtin "sorted") [.ref a]) Q E s := by
  obtain ⟨o, es, ep, t, ho, hex, hd, g, pL, nL, hb, hf, hr, hl⟩ := R
  refine (Calls.call_function_entry kind_sorted plain_sorted entry_sorted (args_sorted1 _) (?_))
  unfold Builtin.«sorted»
  refine (wpAny_bind (m := checkCount "sorted" 1 1 _) (wpAny_pure (?_)))
  refine wpAny_bind (collect_set (A := A.in1) hh ⟨o, ho, hex.1, hd⟩ hf hb hr hl fun s1 vs k1 hz g1 o1 pm => ?_)
  have hI : StrsAre vs (vs.map strOf) := strsAre_map vs fun v hv => by
    obtain ⟨e, he, q⟩ := List.mem_map.mp (pm.mem_iff.mp hv)
    obtain ⟨x, tk, h1, _⟩ := g e he
    exact ⟨x, tk, by rw [← q]; exact h1⟩
  have pk : (vs.map strOf).Perm L := by
    have q := pm.map strOf
    rw [List.map_map] at q
    exact q.trans pL
  have hvl : vs.length = L.length := by
    have e := pk.length_eq
    rw [List.length_map] at e
    exact e
  refine (wpAny_bind (wpAny_newList (?_) (by rw [hvl, sizeLine_eq]; omega)))
  have hoL : (s1.heap.push (seqObj "list" vs.toArray 0)).get? s1.heap.objs.size = some (seqObj "list" vs.toArray 0) := Heap.get?_push_size _ rfl
  refine wpAny_bind (wpAny_holding (wpAny_call_entry slot_list_sort ⟨_, hoL, rfl⟩ entry_list_sort (list_sort_treeK strKind_oneLt hoL hI.keysOf (fun v1 v2 rest e => keyKind_strs (by rw [← e]; exact hI)) (by rw [hvl]; exact h64) fun st' a1 a2 => ⟨_, rfl, ?_⟩) (args_list_sort _)))
  obtain ⟨ys, b1, b2, b3⟩ := sorted_out_str hI a1 a2
  obtain ⟨c, hc⟩ := sortedHeap_at (vs := vs) (out := (arrOf st').map (·.2)) hoL
  refine wpAny_pure ⟨_, rfl, hQ _ s1.heap.objs.size _ c ys (fun b u e => ?_) g1 o1 hz hc b1 (b2.trans pk) b3⟩
  have hlt := Heap.lt_size (k1 b u e)
  show (sortedHeap (s1.heap.push (seqObj "list" vs.toArray 0)) s1.heap.objs.size vs _).get? b = some u
  rw [sortedHeap_old (Nat.ne_of_lt hlt) (by rw [size_push']; exact Nat.lt_succ_of_lt hlt)]
  exact Heap.get?_push_of_some _ (k1 b u e)
end
/-! ### by values -/
def SetSO (w : World) (a : Addr) (L : List Str) : HO := .ext fun h => SetS w h a L
theorem setSO_new {w : World} {P : Program} {H : Hp} {h : Heap} {a : Addr} {L : List Str} (R : SetS w h a L) : ObjOk P w H h a (SetSO w a L) := by
  have ⟨o, _, _, _, ho, _⟩ := R
  exact ⟨R, ⟨o, ho⟩, fun h1 h2 p k => SetS.at p k⟩
section
variable {X : Cx}
theorem cr_setS (hc : X.calm = true) : CallR X (.type "set") (fun vs H Q => ∃ (l : Addr) (xs : List Str), vs = [.ref l] ∧ SqL X.K H l (xs.map V.str) ∧ xs.length < 1000 ∧
    ∀ (p : Addr) (L : List Str), L.Nodup → (∀ x, x ∈ L ↔ x ∈ xs) → L.length ≤ xs.length → H p = none → Q (.ref p) (upd H p (SetSO X.w p L))) := by
  intro pins s σ H vs us Q I r h
  obtain ⟨l, xs, rfl, hs, hz, q⟩ := h
  obtain rfl := Vals.ref1 r
  obtain ⟨its, rv, pl, _⟩ := I.list hs
  have hi : StrsAre its.toArray.toList xs := rv.strs
  refine call_set_strs (I.ok.hd hc) pl.isList hi (by unfold scanBound; omega) fun h' tk R kp => ?_
  have nd : (metS xs xs.length).Nodup := by obtain ⟨_, _, _, _, _, _, _, _, _, n, _⟩ := R; exact n
  refine ⟨.ref s.heap.objs.size, upd H s.heap.objs.size (SetSO X.w s.heap.objs.size (metS xs xs.length)), I.laid (t' := tk) kp (Nat.le_refl _) (setSO_new R), rfl, q _ _ nd (fun x => ?_) (metS_len xs _) (I.hok.fresh (Nat.le_refl _))⟩
  rw [mem_metS xs _ (Nat.le_refl _), List.take_of_length_le (Nat.le_refl _)]
theorem cr_sortSet (hc : X.calm = true) : CallR X (.builtin "sorted") (fun vs H Q => ∃ (a : Addr) (L : List Str), vs = [.ref a] ∧ H a = some (SetSO X.w a L) ∧ L.length < 64 ∧
    ∀ (ys : List Str) (p : Addr), ys.Perm L → sortedS ys = true → H p = none → Q (.ref p) (upd H p (.lst (ys.map V.str)))) := by
  intro pins s σ H vs us Q I r h
  obtain ⟨a, L, rfl, ha, h64, q⟩ := h
  obtain rfl := Vals.ref1 r
  have R : SetS X.w s.heap a L := (I.hok a _ ha).1
  refine sorted_setS R (I.ok.hd hc) h64 fun s' p out c ys k g o hp hg hi hs hm => ?_
  have hlen : (ys.map V.str).length ≤ sizeLine := by rw [List.length_map, hs.length_eq, sizeLine_eq]; omega
  have hn : H p = none := I.hok.fresh hp
  have J : Inv X pins σ (upd H p (.lst (ys.map V.str))) s' := I.call' (ch := []) o (Un.laid k hp hn) (I.hok.laid k hp ⟨hlen, out.toList, c, vals_of_strs hi, by rw [Array.toArray_toList]; exact hg⟩) (by rw [g]; exact I.bare) (fun _ z => nomatch z)
  exact ⟨.ref p, _, J, rfl, q ys p hs hm hn⟩
end
end RS

/-! text R5 -/
set_option Elab.async false
set_option linter.all false
set_option maxRecDepth 100000
set_option maxHeartbeats 1000000
/-! for i, sign in enumerate(text, start=k). -/
namespace RS
open PySem PySem.Spec PyProof.Rows L2
/-- the signs of x, each with its count in a new pair -/
def Itx (x : Str) (k : Int) : It :=
  ⟨fun i _ => i < x.cps.size, fun i H v H' => ∃ T c, v = .ref T ∧ H T = none ∧ x.cps[i]? = some c ∧ H' = upd H T (.tup [.int (k + (i : Nat)), .str ⟨#[c]⟩]), fun i _ => x.cps.size ≤ i⟩
section
variable {P : Program} {w : World} {K : PySem.W.Frag} {elts : List Expr} {kk : Nat} {tpos : Pos}
theorem turn_txt (x : Str) (t : Tok) (k : Int) (e it : Addr) (hne : e ≠ it) :
    Turn P w K (.Tuple elts kk tpos) (Itx x k) [e, it] e (fun i h => i ≤ x.cps.size ∧ (∃ old, IsEnum h e it (k + (i : Nat)) old) ∧ h.IsStrIter it (strIterType x) x t i) where
  mem := List.mem_cons_self ..
  obj := fun i h ⟨_, ⟨old, he⟩, o, ho, hc, hd⟩ b hb => by
    rcases List.mem_cons.mp hb with z | z
    · rw [z]; exact ⟨_, he, fun v q => nomatch q⟩
    · rw [List.mem_singleton.mp z]; exact ⟨o, ho, fun v q => by rw [hd] at q; cases q⟩
  keep := fun i h h' ⟨hl, ⟨old, he⟩, hi⟩ q => let ⟨o, ho, r⟩ := hi
    ⟨hl, ⟨old, q e (by simp) _ he⟩, o, q it (by simp) o ho, r⟩
  item := by
    intro X hP hw hK hc i pins s σ H E I hf ⟨hl, he, hi⟩ hg
    subst hP hw hK
    have hh : X.A.in1.handled = none := I.ok.hd hc
    have W := WalksT.enumFrom (A := X.A) k (Draws.text (prog := X.prog) (w := X.w) hh it x t) e hne (by intro z; exact hne (List.mem_singleton.mp z)) (List.mem_singleton.mpr rfl)
    refine W.item i s _ E hg ⟨he, hi⟩ fun T vals h' tk hv hT hTup hMid hk => ⟨_, rfl, W.go elts kk tpos i T _ _ E hMid fun h2 st hk2 => ?_⟩
    obtain ⟨tt, y, ⟨c, u, hcx, rfl⟩, rfl⟩ := hv
    obtain ⟨oT, hoT, hcT, nT, hdT⟩ := hTup
    have hT2 : h2.get? T = some oT := hk2 T oT (W.apart i T h' hMid) hoT
    have new : ObjOk X.prog X.w (upd H T (.tup [.int (k + (i : Nat)), .str ⟨#[c]⟩])) h2 T (.tup [.int (k + (i : Nat)), .str ⟨#[c]⟩]) := ⟨by show 2 ≤ sizeLine; decide, [.int (k + (i : Nat)) tt, .str ⟨#[c]⟩ u], .cons ⟨_, rfl⟩ (.cons ⟨_, rfl⟩ .nil), ⟨oT, hT2, hcT, nT, hdT⟩⟩
    have I1 : Inv X pins σ (upd H T (.tup [.int (k + (i : Nat)), .str ⟨#[c]⟩])) { s with heap := h2, toks := tk } := I.turnedNew (ch := [e, it]) (fun b ob hb q => hk2 b ob hb (hk b ob hb q)) hf hT new
    refine ⟨.ref T, _, I1, rfl, ⟨T, c, rfl, I.hok.fresh hT, hcx, rfl⟩, ⟨hg, st.1, st.2⟩, fun b hb => ?_⟩
    obtain ⟨ob, hob⟩ : ∃ ob, s.heap.get? b = some ob := by
      rcases List.mem_cons.mp hb with z | z
      · obtain ⟨old, q⟩ := he; exact ⟨_, by rw [z]; exact q⟩
      · obtain ⟨o, q, _⟩ := hi; exact ⟨o, by rw [List.mem_singleton.mp z]; exact q⟩
    rw [upd_ne (Nat.ne_of_lt (Nat.lt_of_lt_of_le (Heap.lt_size hob) hT))]
    exact (hf b hb).1
  done := by
    intro X hP hw hK hc i pins s σ H E I hf ⟨hl, he, hi⟩ hg
    subst hP hw hK
    have hh : X.A.in1.handled = none := I.ok.hd hc
    have W := WalksT.enumFrom (A := X.A) k (Draws.text (prog := X.prog) (w := X.w) hh it x t) e hne (by intro z; exact hne (List.mem_singleton.mp z)) (List.mem_singleton.mpr rfl)
    have ei : i = x.cps.size := Nat.le_antisymm hl hg
    subst ei
    refine W.done s _ E ⟨he, hi⟩ fun h' tk hk => ⟨rfl, ?_⟩
    exact I.step (g' := s.gens) (d' := s.drawn) (ch := [e, it]) (fun b hb => ⟨(hf b hb).2.2.2.1, (hf b hb).2.1, (hf b hb).2.2.2.2.1, (hf b hb).2.2.2.2.2⟩) (fun b o _ _ hc q _ => hk b o hc q) (fun b o _ _ hc q _ => ⟨o.slots, hk b o hc q⟩) (fun _ _ _ _ n => n) (fun b o hc q => ⟨o, hk b o hc q⟩) (fun _ _ q => q) (fun _ _ _ q => q) (fun b ps q => ⟨#[], by rw [q]; simp⟩) (fun m hm => by
      obtain ⟨o, es, ep, ho, r⟩ := hm
      exact ⟨o, es, ep, hk _ o (fun z => (hf _ z).2.1 rfl) ho, r⟩) (fun b u q => (I.hok b u q).stay (fun c v hc z => hk c v (fun y => by
        have n := (hf c y).1
        rcases hc with w' | w'
        · rw [w', q] at n; cases n
        · rw [n] at w'; cases w') z) (fun _ z => z) fun _ _ z => z) I.bare
  self := fun A i s Q E ⟨_, ⟨_, he⟩, _⟩ h => wpAny_pyIter_enum he h
end
section
variable {X : Cx}
def iTxt (ta : TA) (ts : TE) : TI := fun σ H R => ta σ H fun vs H1 => ts σ H1 fun u H2 => ∃ (x : Str) (k : Int), vs = [.str x] ∧ u = .int k ∧ 0 ≤ k ∧ k < 1000 ∧ R (Itx x k) H2
theorem callWith_tyKw {M : Model} {A : Around} {E : Value → Shared → Prop} {s : Shared} {pos : Pos} {T : String} {args : List (Bool × Sem Value)} {kws : List (Option Str × Sem Value)} {Q : Value → Shared → Prop} (hplain : args.any (·.1) = false) (hkw : kws.any (·.1.isNone) = false)
    (h : wpAny M A (evalArgs (.type T) true args kws) (fun a s1 => wpAny M A (call (.type T) a.pos a.kw) Q E s1) E s) : wpAny M A (callWith pos (.type T) [] args kws) Q E s := by
  unfold callWith
  refine (wpAny_bind (wpAny_holding (wpAny_mono h (fun a s1 h1 => wpAny_bind (wpAny_standAt (?_))) fun _ _ x => x)))
  simp only [hplain, hkw, Bool.or_false]
  exact wpAny_bind (wpAny_pure (wpAny_bind (wpAny_mono h1 (fun r s2 hr => wpAny_bind (wpAny_holding (wpAny_point (wpAny_pure hr)))) fun _ _ x => x)))
theorem pi_enumTxt {e es : Expr} {ta : TA} {ts : TE} {p pos kpos tpos : Pos} {elts : List Expr} {kk : Nat} (hg : Gl X "enumerate") (hm : X.mg "enumerate" = none) (ha : PA X [e] ta) (hs : PE X es ts)
    (hpl : (backTo pos (starEach [e] X.env)).any (·.1) = false := by rfl) (h0 : starEach [e] X.env = [(false, eval e X.env)] := by rfl) :
    PI X (.Tuple elts kk tpos) (.Call (.Name "enumerate" p) [e] [⟨some "start", es, kpos⟩] pos) (iTxt ta ts) := by
  refine ⟨fun pins s σ H R I h => ?_⟩
  refine wpAny_Call_Name_kw (ld_blt I hg hm boot_enumerate ?_ (by decide))
  refine callWith_tyKw hpl rfl (evalArgs_kw2 rfl ?_ h0)
  refine thn (ha.run pos pins s σ H _ I h) fun us s1 ⟨vs, H1, I1, r1, q1⟩ => ?_
  · refine kwAll_cons (thn (hs.run pins s1 σ H1 _ I1 q1) fun u2 s2 ⟨v2, H2, I2, r2, x, k, ev, ek, h0, h1, q⟩ => kwAll_nil ?_)
    subst ev ek
    obtain ⟨u, rfl, ru⟩ := vals1 r1
    obtain ⟨t, rfl⟩ := ru
    obtain ⟨t2, rfl⟩ := r2
    refine enum_begins_start (begins_text x t) trivial (by omega) (by omega) fun h' he ho hsz hk => wpAny_pyIter_enum he ?_
    have I3 : Inv X pins σ H2 { s2 with heap := h' } := I2.kept (t' := s2.toks) hk
    refine ⟨s2.heap.objs.size + 1, [s2.heap.objs.size + 1, s2.heap.objs.size], _, _, H2, rfl, I3, turn_txt x t k (s2.heap.objs.size + 1) s2.heap.objs.size (Nat.succ_ne_self _), ⟨Nat.zero_le _, ⟨.none, by simpa using he⟩, _, ho, rfl, rfl⟩, fun b hb => ?_, q⟩
    have hle : s2.heap.objs.size ≤ b := by
      rcases List.mem_cons.mp hb with z | z
      · rw [z]; exact Nat.le_add_right _ _
      · rw [List.mem_singleton.mp z]; exact Nat.le_refl _
    exact I2.fpOk hle (I2.hok.fresh hle)
end
end RS

/-! text R6 -/
set_option Elab.async false
set_option linter.all false
set_option maxRecDepth 100000
set_option maxHeartbeats 1000000
/-! list(zip(t, u)) of two tuples of one length. -/
namespace RS
open PySem PySem.Spec PyProof.Rows L2
section
variable {prog : Program} {w : World} {A : Around} {E : Value → Shared → Prop} {s : Shared}
theorem zt_item {z TI TO T i1 i2 l1 l2 : Addr} {f : Bool} {oT : Obj} {k : Nat} {xs ys : Array Value} {x y : Value} {Q : Option Value → Shared → Prop} (D : ZipApart z TI TO i1 i2 l1 l2)
    (hz : IsZipHeld s.heap z TI TO T f) (hT : s.heap.get? T = some oT) (hTI : IsPair s.heap TI (.ref i1) (.ref i2))
    (h1 : s.heap.IsTupleIter i1 l1 k) (h2 : s.heap.IsTupleIter i2 l2 k) (hl1 : s.heap.IsTuple l1 xs) (hl2 : s.heap.IsTuple l2 ys) (hx : xs[k]? = some x) (hy : ys[k]? = some y)
    (hQ : ∀ h', IsZipHeld h' z TI TO T true → h'.IsTupleIter i1 l1 (k + 1) → h'.IsTupleIter i2 l2 (k + 1) → IsPair h' s.heap.objs.size x y → h'.objs.size = s.heap.objs.size + 1 →
      (∀ c o, c ≠ z → c ≠ i1 → c ≠ i2 → s.heap.get? c = some o → h'.get? c = some o) → Q (some (.ref s.heap.objs.size)) { s with heap := h' }) :
    wpAny (model prog w) A (pyNext (.ref z)) Q E s := by
  have hTy : s.TypeIs (.ref z) "zip" := ⟨_, hz, rfl⟩
  unfold pyNext
  refine wpAny_bind (wpAny_attempt (wpAny_callSpecial?_slot (name := Str.ofString "__next__") hTy PySem.F.slot_zip_next (wpAny_call_entry PySem.F.slot_zip_next hTy PySem.F.entry_zip_next ?_ (PySem.F.args_zip_next_1 _))))
  show (wpAny _ _ (field (.ref z) 2 >>= _) _ _ _)
  refine (wpAny_bind (wpAny_field hz rfl (x := .bool false) rfl (?_)))
  show (wpAny _ _ (field (.ref z) 3 >>= _) _ _ _)
  refine (wpAny_bind (wpAny_field hz rfl (x := .ref TI) rfl (wpAny_bind (wpAny_seqItems hTI rfl (?_)))))
  show (wpAny _ _ (Builtin.SmallTypes.ownedTupleIsFree (.ref z) >>= _) _ _ _)
  refine wpAny_bind (wpAny_tupleHeld_zip hz hT fun ha hza hsa => ?_)
  simp only [Bool.false_eq_true, if_false]
  refine (wpAny_bind (?_))
  rw [← Array.forIn_toList]
  simp only [List.forIn_cons, List.forIn_nil]
  refine (wpAny_bind (wpAny_bind (wpAny_holding (?_))))
  show (wpAny _ _ (Builtin.SmallTypes.nextOf (.ref i1) >>= _) _ _ _)
  refine wpAny_bind (RZ.nextOf_tuple_item (s := { s with heap := ha }) (h1.extBut hsa.extBut D.i1z) (hl1.extBut hsa.extBut D.l1z) hx fun hb h1b hsb => wpAny_pure (wpAny_pure ?_))
  refine (wpAny_bind (wpAny_bind (wpAny_holding (?_))))
  show (wpAny _ _ (Builtin.SmallTypes.nextOf (.ref i2) >>= _) _ _ _)
  refine wpAny_bind (RZ.nextOf_tuple_item (s := { s with heap := hb }) ((h2.extBut hsa.extBut D.i2z).extBut hsb.extBut D.i12.symm) ((hl2.extBut hsa.extBut D.l2z).extBut hsb.extBut D.l2i1) hy fun hc h2c hsc => wpAny_pure (wpAny_pure (wpAny_pure ?_)))
  show (wpAny _ _ (newTuple [x, y] >>= _) _ _ _)
  refine wpAny_bind (wpAny_newTuple (wpAny_pure ⟨_, rfl, wpAny_pure ?_⟩))
  have hsz : hc.objs.size = s.heap.objs.size := by rw [hsc.1, hsb.1, hsa.1]
  have hz3 : IsZipHeld hc z TI TO T true := hsc.extBut _ _ D.i2z.symm (hsb.extBut _ _ D.i1z.symm hza)
  have h13 : hc.IsTupleIter i1 l1 (k + 1) := h1b.extBut hsc.extBut D.i12
  have hp : IsPair (hc.push { cls := .type "tuple", data := .seq #[x, y] }) hc.objs.size x y := Heap.get?_push_size _ rfl
  have hz4 : (hc.push { cls := .type "tuple", data := .seq #[x, y] }).objs.size = hc.objs.size + 1 := Heap.size_push ..
  show Q (some (.ref hc.objs.size)) _
  rw [hsz] at hp hz4 ⊢
  exact hQ _ (Heap.get?_push_of_some _ hz3) (h13.at fun o e => Heap.get?_push_of_some _ e) (h2c.at fun o e => Heap.get?_push_of_some _ e) hp hz4 fun c o c1 c2 c3 e => Heap.get?_push_of_some _ (hsc.extBut _ _ c3 (hsb.extBut _ _ c2 (hsa.extBut _ _ c1 e)))
theorem zt_end {z TI TO T i1 i2 l1 l2 : Addr} {f : Bool} {oT : Obj} {k : Nat} {xs : Array Value} {Q : Option Value → Shared → Prop} (hh : A.handled = none) (D : ZipApart z TI TO i1 i2 l1 l2)
    (hz : IsZipHeld s.heap z TI TO T f) (hT : s.heap.get? T = some oT) (hTI : IsPair s.heap TI (.ref i1) (.ref i2))
    (h1 : s.heap.IsTupleIter i1 l1 k) (hl1 : s.heap.IsTuple l1 xs) (hx : xs[k]? = none)
    (hQ : ∀ h', (∀ c o, c ≠ z → c ≠ i1 → s.heap.get? c = some o → h'.get? c = some o) → Q none { s with heap := h' }) : wpAny (model prog w) A (pyNext (.ref z)) Q E s := by
  have hTy : s.TypeIs (.ref z) "zip" := ⟨_, hz, rfl⟩
  unfold pyNext
  refine wpAny_bind (wpAny_attempt (wpAny_callSpecial?_slot (name := Str.ofString "__next__") hTy PySem.F.slot_zip_next (wpAny_call_entry PySem.F.slot_zip_next hTy PySem.F.entry_zip_next ?_ (PySem.F.args_zip_next_1 _))))
  show (wpAny _ _ (field (.ref z) 2 >>= _) _ _ _)
  refine (wpAny_bind (wpAny_field hz rfl (x := .bool false) rfl (?_)))
  show (wpAny _ _ (field (.ref z) 3 >>= _) _ _ _)
  refine (wpAny_bind (wpAny_field hz rfl (x := .ref TI) rfl (wpAny_bind (wpAny_seqItems hTI rfl (?_)))))
  show (wpAny _ _ (Builtin.SmallTypes.ownedTupleIsFree (.ref z) >>= _) _ _ _)
  refine wpAny_bind (wpAny_tupleHeld_zip hz hT fun ha hza hsa => ?_)
  simp only [Bool.false_eq_true, if_false]
  refine (wpAny_bind (?_))
  rw [← Array.forIn_toList]
  simp only [List.forIn_cons, List.forIn_nil]
  refine (wpAny_bind (wpAny_bind (wpAny_holding (?_))))
  show (wpAny _ _ (Builtin.SmallTypes.nextOf (.ref i1) >>= _) _ _ _)
  refine wpAny_bind (RZ.nextOf_tuple_end (s := { s with heap := ha }) hh (h1.extBut hsa.extBut D.i1z) (hl1.extBut hsa.extBut D.l1z) hx fun hb e hsb he => ?_)
  obtain ⟨o, ho, hc⟩ := he
  refine wpAny_bind (wpAny_isInstance (T := "StopIteration") (b := true) ⟨o, ho, hc⟩ isSubtype_stop ?_)
  exact wpAny_pure (hQ _ fun c o c1 c2 x => hsb _ _ c2 (hsa.extBut _ _ c1 x))
/-! ### the walk -/
/-- the state ahead of turn i -/
structure ZSt (z TI TO i1 i2 l1 l2 : Addr) (xs ys : Array Value) (i : Nat) (h : Heap) : Prop where
  ti : IsPair h TI (.ref i1) (.ref i2)
  a : h.IsTupleIter i1 l1 i
  b : h.IsTupleIter i2 l2 i
  la : h.IsTuple l1 xs
  lb : h.IsTuple l2 ys
  zz : (i = 0 ∧ IsZip h z TI TO .none ∧ IsPair h TO .none .none) ∨ ∃ T f oT, IsZipHeld h z TI TO T f ∧ h.get? T = some oT
theorem ZSt.upd {z TI TO i1 i2 l1 l2 S : Addr} {xs ys : Array Value} {i : Nat} {h h' : Heap} (x : ZSt z TI TO i1 i2 l1 l2 xs ys i h) (k : ∀ b o, b ≠ S → h.get? b = some o → h'.get? b = some o) (hS : ∃ o, h'.get? S = some o)
    (n : z ≠ S ∧ TI ≠ S ∧ TO ≠ S ∧ i1 ≠ S ∧ i2 ≠ S ∧ l1 ≠ S ∧ l2 ≠ S) : ZSt z TI TO i1 i2 l1 l2 xs ys i h' where
  ti := k _ _ n.2.1 x.ti
  a := x.a.at fun o e => k _ o n.2.2.2.1 e
  b := x.b.at fun o e => k _ o n.2.2.2.2.1 e
  la := x.la.at fun o e => k _ o n.2.2.2.2.2.1 e
  lb := x.lb.at fun o e => k _ o n.2.2.2.2.2.2 e
  zz := x.zz.imp (fun q => ⟨q.1, k _ _ n.1 q.2.1, k _ _ n.2.2.1 q.2.2⟩) fun ⟨T, f, oT, q, r⟩ => by
    by_cases e : T = S
    · obtain ⟨o, ho⟩ := hS
      exact ⟨T, f, o, k _ _ n.1 q, by rw [e]; exact ho⟩
    · exact ⟨T, f, oT, k _ _ n.1 q, k _ _ e r⟩
/-- the pairs made -/
structure ZMade (xs ys : Array Value) (lo : Addr) (h : Heap) (as : List Addr) : Prop where
  rise : as.Pairwise (· < ·)
  above : ∀ a ∈ as, lo ≤ a
  pairs : ∀ (j : Nat) (a : Addr), as[j]? = some a → ∃ x y, xs[j]? = some x ∧ ys[j]? = some y ∧ IsPair h a x y
theorem ZMade.keep {xs ys : Array Value} {lo : Addr} {h h' : Heap} {as : List Addr} (g : ZMade xs ys lo h as) (k : ∀ a ∈ as, ∀ o, h.get? a = some o → h'.get? a = some o) : ZMade xs ys lo h' as :=
  ⟨g.rise, g.above, fun j a e => let ⟨x, y, e1, e2, e3⟩ := g.pairs j a e; ⟨x, y, e1, e2, k a (List.mem_of_getElem? e) _ e3⟩⟩
theorem zt_loop {R : Result → Shared → Prop} {z TI TO i1 i2 l1 l2 S lo : Addr} {xs ys : Array Value} {res : Value} {h1 : Heap} (hh : A.handled = none) (D : ZipApart z TI TO i1 i2 l1 l2) (hxy : xs.size = ys.size) (hn : xs.size ≤ 1000)
    (nS : z ≠ S ∧ TI ≠ S ∧ TO ≠ S ∧ i1 ≠ S ∧ i2 ≠ S ∧ l1 ≠ S ∧ l2 ≠ S) (low : z < lo ∧ TI < lo ∧ TO < lo ∧ i1 < lo ∧ i2 < lo ∧ S < lo)
    (hR : ∀ h' tk acc c as, (∀ b o, b ≠ S → b ≠ z → b ≠ TO → b ≠ i1 → b ≠ i2 → h1.get? b = some o → h'.get? b = some o) → h'.get? S = some { cls := .type "list", dict := none, data := .seq acc c, slots := #[] } → as.length = xs.size → ZMade xs ys lo h' as → acc.toList = as.map Value.ref → R (.ok (.ret res)) { s with heap := h', toks := tk }) :
    ∀ (k i : Nat) (h : Heap) (tk c : Nat) (acc : Array Value) (as : List Addr), xs.size - i = k → i ≤ xs.size → ZSt z TI TO i1 i2 l1 l2 xs ys i h → (∀ b o, b ≠ S → b ≠ z → b ≠ TO → b ≠ i1 → b ≠ i2 → h1.get? b = some o → h.get? b = some o) → lo ≤ h.objs.size →
      h.get? S = some { cls := .type "list", dict := none, data := .seq acc c, slots := #[] } → acc.toList = as.map Value.ref → as.length = i → ZMade xs ys lo h as → 0 < xs.size →
      codeAny (model prog w) A (.builtin "list.extend.loop" ⟨[.ref S, .ref z, res], []⟩) R { s with heap := h, toks := tk } := by
  obtain ⟨n1, n2, n3, n4, n5, n6, n7⟩ := nS
  intro k
  induction k with
  | zero =>
    intro i h tk c acc as hk hi st kp hlo hS hacc hal hG h0
    refine (codeAny_builtin PySem.F.entry_extend_loop (?_))
    rw [(Around.under_plainId PySem.F.plain_extend_loop _)]
    show (wpAny _ A.in1 (pyNext (.ref z) >>= _) _ _ _)
    have hend : xs[i]? = none := Array.getElem?_eq_none (by omega)
    rcases st.zz with ⟨e0, _⟩ | ⟨T, f, oT, q, r⟩
    · omega
    · refine wpAny_bind (zt_end (s := { s with heap := h, toks := tk }) hh D q r st.ti st.a st.la hend fun h' hk' => ?_)
      refine wpAny_pure (hR h' tk acc c as (fun b o b1 b2 b3 b4 b5 e => hk' b o b2 b4 (kp b o b1 b2 b3 b4 b5 e)) (hk' S _ n1.symm n4.symm hS) (by omega) (hG.keep fun a ha o e => ?_) hacc)
      have hl := hG.above a ha
      exact hk' a o (Nat.ne_of_gt (Nat.lt_of_lt_of_le low.1 hl)) (Nat.ne_of_gt (Nat.lt_of_lt_of_le low.2.2.2.1 hl)) e
  | succ k ih =>
    intro i h tk c acc as hk hi st kp hlo hS hacc hal hG h0
    have hlt : i < xs.size := by omega
    have hsz : acc.size = i := by rw [← Array.length_toList, hacc, List.length_map, hal]
    refine (codeAny_builtin PySem.F.entry_extend_loop (?_))
    rw [(Around.under_plainId PySem.F.plain_extend_loop _)]
    show (wpAny _ A.in1 (pyNext (.ref z) >>= _) _ _ _)
    have hx : xs[i]? = some xs[i] := Array.getElem?_eq_getElem hlt
    have hy : ys[i]? = some (ys[i]'(hxy ▸ hlt)) := Array.getElem?_eq_getElem (hxy ▸ hlt)
    have go : ∀ h', h'.IsTupleIter i1 l1 (i + 1) → h'.IsTupleIter i2 l2 (i + 1) → IsPair h' h.objs.size xs[i] (ys[i]'(hxy ▸ hlt)) → h'.objs.size = h.objs.size + 1 → (∀ c o, c ≠ z → c ≠ TO → c ≠ i1 → c ≠ i2 → h.get? c = some o → h'.get? c = some o) →
        (∃ T f oT, IsZipHeld h' z TI TO T f ∧ h'.get? T = some oT) →
        wpAny (model prog w) A.in1 (updateSeq S (·.push (Value.ref h.objs.size)) >>= fun _ => again (.builtin "list.extend.loop" ⟨[.ref S, .ref z, res], []⟩)) (fun fin s' => match fin with | .done f => R (.ok f) s' | .again c' => c'.quiet = true ∧ codeAny (model prog w) A c' R s') (fun e s' => R (.error e) s') { s with heap := h', toks := tk } := by
      intro h' ha hb hp hz' hkp hheld
      have hS' := hkp S _ n1.symm n3.symm n4.symm n5.symm hS
      have up : ∀ b o, b ≠ S → h'.get? b = some o → (h'.update S (Obj.mapSeq (·.push (Value.ref h.objs.size)))).get? b = some o := fun b o hb e => (Heap.get?_update_other _ _ (Ne.symm hb)).trans e
      have hSl : S < h.objs.size := Heap.lt_size hS
      have hS2 := Heap.get?_update_self (Obj.mapSeq (·.push (Value.ref h.objs.size))) hS' rfl
      have st1 : ZSt z TI TO i1 i2 l1 l2 xs ys (i + 1) h' := ⟨hkp _ _ D.TIz D.TITO D.TIi1 D.TIi2 st.ti, ha, hb, st.la.at fun o e => hkp _ o D.l1z D.l1TO D.l1i1 D.l1i2 e, st.lb.at fun o e => hkp _ o D.l2z D.l2TO D.l2i1 D.l2i2 e, .inr hheld⟩
      refine wpAny_bind (wpAny_updateSeq hS' rfl (wpAny_pure ⟨plainId_quiet PySem.F.plain_extend_loop _, ih (i + 1) _ tk _ (acc.push (Value.ref h.objs.size)) (as ++ [h.objs.size]) (by omega) hlt (st1.upd up ⟨_, hS2⟩ ⟨n1, n2, n3, n4, n5, n6, n7⟩)
        (fun b o b1 b2 b3 b4 b5 e => up b o b1 (hkp b o b2 b3 b4 b5 (kp b o b1 b2 b3 b4 b5 e))) (by rw [Heap.size_update, hz']; exact Nat.le_succ_of_le hlo) hS2 (by rw [Array.toList_push, hacc, List.map_append]; rfl) (by rw [List.length_append, hal]; rfl) ⟨?_, ?_, ?_⟩ h0⟩) (by rw [hsz, sizeLine_eq]; omega) (by show (acc.push (Value.ref h.objs.size)).size ≤ sizeLine + 1; rw [Array.size_push, hsz, sizeLine_eq]; omega))
      · refine List.pairwise_append.mpr ⟨hG.rise, List.pairwise_singleton _ _, fun a ha b hb => ?_⟩
        rw [List.mem_singleton.mp hb]
        obtain ⟨j, hj⟩ := List.mem_iff_getElem?.mp ha
        obtain ⟨_, _, _, _, e⟩ := hG.pairs j a hj
        exact Heap.lt_size e
      · intro a ha
        rcases List.mem_append.mp ha with ha | ha
        · exact hG.above a ha
        · rw [List.mem_singleton.mp ha]; exact hlo
      · intro j b hj
        rcases Nat.lt_trichotomy j as.length with q | q | q
        · rw [List.getElem?_append_left q] at hj
          obtain ⟨x, y, e1, e2, e3⟩ := hG.pairs j b hj
          have hb := hG.above b (List.mem_of_getElem? hj)
          exact ⟨x, y, e1, e2, up b _ (Nat.ne_of_gt (Nat.lt_of_lt_of_le low.2.2.2.2.2 hb)) (hkp b _ (Nat.ne_of_gt (Nat.lt_of_lt_of_le low.1 hb)) (Nat.ne_of_gt (Nat.lt_of_lt_of_le low.2.2.1 hb)) (Nat.ne_of_gt (Nat.lt_of_lt_of_le low.2.2.2.1 hb)) (Nat.ne_of_gt (Nat.lt_of_lt_of_le low.2.2.2.2.1 hb)) e3)⟩
        · subst q
          rw [List.getElem?_append_right (Nat.le_refl _), Nat.sub_self, List.getElem?_cons_zero] at hj
          cases hj
          exact ⟨_, _, by rw [hal]; exact hx, by rw [hal]; exact hy, up _ _ (Nat.ne_of_gt hSl) hp⟩
        · rw [List.getElem?_eq_none (by rw [List.length_append, List.length_singleton]; omega)] at hj
          cases hj
    rcases st.zz with ⟨e0, q, qo⟩ | ⟨T, f, oT, q, r⟩
    · refine wpAny_bind (RZ.pyNext_zipT_item (s := { s with heap := h, toks := tk }) D q st.ti qo st.a st.b st.la st.lb hx hy fun h' a1 a2 a3 a4 a5 a6 a7 => ?_)
      exact go h' a3 a4 a5 a6 a7 ⟨h.objs.size, false, _, a1, a5⟩
    · refine wpAny_bind (zt_item (s := { s with heap := h, toks := tk }) D q r st.ti st.a st.b st.la st.lb hx hy fun h' a1 a3 a4 a5 a6 a7 => ?_)
      have hTne : ∀ c, c = T → ∃ o, h'.get? c = some o := fun c e => by
        by_cases e1 : T = z
        · exact ⟨_, by rw [e, e1]; exact a1⟩
        · by_cases e2 : T = i1
          · obtain ⟨o, ho, _⟩ := a3; exact ⟨o, by rw [e, e2]; exact ho⟩
          · by_cases e3 : T = i2
            · obtain ⟨o, ho, _⟩ := a4; exact ⟨o, by rw [e, e3]; exact ho⟩
            · exact ⟨oT, by rw [e]; exact a7 T oT e1 e2 e3 r⟩
      obtain ⟨o2, ho2⟩ := hTne T rfl
      exact go h' a3 a4 a5 a6 (fun c o c1 _ c3 c4 e => a7 c o c1 c3 c4 e) ⟨T, true, o2, a1, ho2⟩
theorem nolen_zip : typeLookup (.type "zip") "__len__" = pure none := by rw [typeLookup_type, builtinLookup_eq_fast]; kernel_rfl
theorem nohint_zip : typeLookup (.type "zip") "__length_hint__" = pure none := by rw [typeLookup_type, builtinLookup_eq_fast]; kernel_rfl
theorem list_zip {z TI TO i1 i2 l1 l2 : Addr} {xs ys : Array Value} {Q : Value → Shared → Prop} (hh : A.handled = none) (D : ZipApart z TI TO i1 i2 l1 l2) (hxy : xs.size = ys.size) (h0 : 0 < xs.size) (hn : xs.size ≤ 1000)
    (hz : IsZip s.heap z TI TO .none) (hTO : IsPair s.heap TO .none .none) (st : ZSt z TI TO i1 i2 l1 l2 xs ys 0 s.heap) (hQ : ∀ h' tk acc c as, (∀ b o, b ≠ z → b ≠ TO → b ≠ i1 → b ≠ i2 → s.heap.get? b = some o → h'.get? b = some o) → h'.get? s.heap.objs.size = some { cls := .type "list", dict := none, data := .seq acc c, slots := #[] } →
      as.length = xs.size → ZMade xs ys (s.heap.objs.size + 1) h' as → acc.toList = as.map Value.ref → Q (.ref s.heap.objs.size) { s with heap := h', toks := tk }) :
    wpAny (model prog w) A (call (.type "list") [.ref z]) Q E s := by
  have lz : z < s.heap.objs.size := Heap.lt_size hz
  have lTI : TI < s.heap.objs.size := Heap.lt_size st.ti
  have lTO : TO < s.heap.objs.size := Heap.lt_size hTO
  have l1' : i1 < s.heap.objs.size := by obtain ⟨_, e, _⟩ := st.a; exact Heap.lt_size e
  have l2' : i2 < s.heap.objs.size := by obtain ⟨_, e, _⟩ := st.b; exact Heap.lt_size e
  have l3' : l1 < s.heap.objs.size := by obtain ⟨_, e, _⟩ := st.la; exact Heap.lt_size e
  have l4' : l2 < s.heap.objs.size := by obtain ⟨_, e, _⟩ := st.lb; exact Heap.lt_size e
  refine callType_codes (Q₁ := fun obj s1 => obj = .ref s.heap.objs.size ∧ s1 = { s with heap := s.heap.push { cls := .type "list", data := .seq #[] } }) PySem.F.called_list (PySem.F.typeCall_list_1 _) PySem.F.entry_list_init (code_list_new _ ⟨rfl, rfl⟩) fun obj s1 hs1 => ?_
  obtain ⟨rfl, rfl⟩ := hs1
  have hS : (s.heap.push { cls := .type "list", data := .seq #[] }).get? s.heap.objs.size = some { cls := .type "list", data := .seq #[] } := Heap.get?_push_size _ rfl
  refine ⟨⟨_, hS, rfl⟩, PySem.F.args_list_init_2 _ _, ?_⟩
  show wpAny _ A.in1.in1 (do let old ← Builtin.List.listItems (.ref s.heap.objs.size); Builtin.List.listUpdate (.ref s.heap.objs.size) (fun _ => #[]); letGo old.toList.reverse; Builtin.List.listExtendWith (.ref s.heap.objs.size) (.ref z) .none) _ _ _
  refine wpAny_bind (listItems_at hS rfl ?_)
  refine wpAny_bind (listUpdate_at hS rfl ?_ (Nat.zero_le _) (Nat.zero_le _))
  have hS2 := Heap.get?_update_self (Obj.mapSeq (fun _ => (#[] : Array Value))) hS rfl
  refine wpAny_bind (wpAny_letGo ?_)
  have sz2 : ((s.heap.push { cls := .type "list", data := .seq #[] }).update s.heap.objs.size (Obj.mapSeq fun _ => (#[] : Array Value))).objs.size = s.heap.objs.size + 1 := (Heap.size_update ..).trans (size_push' ..)
  have nS : z ≠ s.heap.objs.size ∧ TI ≠ s.heap.objs.size ∧ TO ≠ s.heap.objs.size ∧ i1 ≠ s.heap.objs.size ∧ i2 ≠ s.heap.objs.size ∧ l1 ≠ s.heap.objs.size ∧ l2 ≠ s.heap.objs.size := ⟨Nat.ne_of_lt lz, Nat.ne_of_lt lTI, Nat.ne_of_lt lTO, Nat.ne_of_lt l1', Nat.ne_of_lt l2', Nat.ne_of_lt l3', Nat.ne_of_lt l4'⟩
  have k2 : ∀ b o, b ≠ s.heap.objs.size → s.heap.get? b = some o → ((s.heap.push { cls := .type "list", data := .seq #[] }).update s.heap.objs.size (Obj.mapSeq fun _ => (#[] : Array Value))).get? b = some o := fun b o hb e => (Heap.get?_update_other _ _ (Ne.symm hb)).trans (Heap.get?_push_of_some _ e)
  have st2 := st.upd k2 ⟨_, hS2⟩ nS
  generalize (s.heap.push { cls := .type "list", data := .seq #[] }).update s.heap.objs.size (Obj.mapSeq fun _ => (#[] : Array Value)) = h2 at hS2 sz2 k2 st2 ⊢
  have hz2 : IsZip h2 z TI TO .none := k2 _ _ nS.1 hz
  have hT2 : Shared.TypeIs { s with heap := h2 } (.ref z) "zip" := ⟨_, hz2, rfl⟩
  unfold Builtin.List.listExtendWith
  refine (wpAny_bind (wpAny_typeOf hT2 (?_)))
  have e1 : Builtin.List.listSameRef (.ref s.heap.objs.size) (.ref z) = false := by simp [Builtin.List.listSameRef, nS.1.symm]
  have e2 : (Value.type "zip" == Value.type "list") = false := by decide
  have e3 : (Value.type "zip" == Value.type "tuple") = false := by decide
  simp only [e1, e2, e3, Bool.or_false, Bool.false_eq_true, if_false]
  refine wpAny_bind (wpAny_pyIter_zip hz2 (wpAny_bind (wpAny_holding ?_)))
  unfold Builtin.List.listLengthHint
  refine (wpAny_bind (wpAny_specialOf hT2 nolen_zip (?_)))
  show (wpAny _ _ (specialOf (Value.ref z) (Str.ofString "__length_hint__") >>= _) _ _ _)
  refine (wpAny_bind (wpAny_specialOf hT2 nohint_zip (wpAny_pure (?_))))
  show wpAny _ _ (rule "list.extend.makes-room" >>= fun _ => Builtin.List.listTouch (.ref s.heap.objs.size) >>= fun _ => again (.builtin "list.extend.loop" ⟨[.ref s.heap.objs.size, .ref z, .none], []⟩)) _ _ _
  refine (wpAny_bind (wpAny_rule (wpAny_bind (?_))))
  show (wpAny _ _ (updateSeq s.heap.objs.size (·.push .none) >>= fun _ => updateSeq s.heap.objs.size (·.pop)) _ _ _)
  refine wpAny_bind (wpAny_updateSeq hS2 rfl ?_)
  have hS3 := Heap.get?_update_self (Obj.mapSeq (·.push Value.none)) hS2 rfl
  refine wpAny_updateSeq hS3 rfl ?_
  have hS4 := Heap.get?_update_self (Obj.mapSeq (·.pop)) hS3 rfl
  have k4 : ∀ b o, b ≠ s.heap.objs.size → h2.get? b = some o → ((h2.update s.heap.objs.size (Obj.mapSeq (·.push Value.none))).update s.heap.objs.size (Obj.mapSeq (·.pop))).get? b = some o := fun b o hb e => (Heap.get?_update_other _ _ (Ne.symm hb)).trans ((Heap.get?_update_other _ _ (Ne.symm hb)).trans e)
  have st4 := st2.upd k4 ⟨_, hS4⟩ nS
  have sz4 : ((h2.update s.heap.objs.size (Obj.mapSeq (·.push Value.none))).update s.heap.objs.size (Obj.mapSeq (·.pop))).objs.size = s.heap.objs.size + 1 := (Heap.size_update ..).trans ((Heap.size_update ..).trans sz2)
  refine wpAny_pure ⟨plainId_quiet PySem.F.plain_extend_loop _, ?_⟩
  refine zt_loop (s := s) (lo := s.heap.objs.size + 1) (h1 := s.heap) (show A.in1.handled = none from hh) D hxy hn nS ⟨Nat.lt_succ_of_lt lz, Nat.lt_succ_of_lt lTI, Nat.lt_succ_of_lt lTO, Nat.lt_succ_of_lt l1', Nat.lt_succ_of_lt l2', Nat.lt_succ_self _⟩ (fun h' tk acc c as hk' hS' hl hG hacc => ⟨rfl, hQ h' tk acc c as (fun b o b2 b3 b4 b5 e => hk' b o (Nat.ne_of_lt (Heap.lt_size e)) b2 b3 b4 b5 e) hS' hl hG hacc⟩)
    xs.size 0 _ _ _ #[] [] rfl (Nat.zero_le _) st4 (fun b o b1 _ _ _ _ e => k4 b o b1 (k2 b o b1 e)) (by rw [sz4]; exact Nat.le_refl _) hS4 rfl rfl ⟨List.Pairwise.nil, (fun _ h => nomatch h), (fun j a h => by simp at h)⟩ h0
end
/-! ### by values -/
/-- new pairs at ts of the items of xs and ys -/
def PairsAt (H : Hp) (ts : List Addr) (xs ys : List V) : Prop := ts.length = xs.length ∧ ∀ (j : Nat) (t : Addr) (x y : V), ts[j]? = some t → xs[j]? = some x → ys[j]? = some y → H t = some (.tup [x, y])
def tListZip (K : PySem.W.Frag) (t : TA) : TE := fun σ H Q => t σ H fun vs H1 => ∃ (a b : Addr) (xs ys : List V), vs = [.ref a, .ref b] ∧ SqT K H1 a xs ∧ SqT K H1 b ys ∧ xs.length = ys.length ∧ 0 < xs.length ∧ xs.length ≤ 1000 ∧
  ∀ (H' : Hp) (l : Addr) (ts : List Addr), (∀ b o, H1 b = some o → H' b = some o) → H1 l = none → (∀ t ∈ ts, H1 t = none) → H' l = some (.lst (ts.map V.ref)) → PairsAt H' ts xs ys → Q (.ref l) H'
section
variable {X : Cx} {a b : Expr} {t : TA} {p p2 pos pos2 : Pos}
theorem pe_listZip (hc : X.calm = true) (hg : Gl X "list") (hm : X.mg "list" = none) (hg2 : Gl X "zip") (hm2 : X.mg "zip" = none) (ha : PA X [a, b] t)
    (h1 : starEach [.Call (.Name "zip" p2) [a, b] [] pos2] X.env = (false, eval (.Call (.Name "zip" p2) [a, b] [] pos2) X.env) :: starEach [] X.env := by rfl) (h2 : starEach [a, b] X.env = (false, eval a X.env) :: starEach [b] X.env := by rfl) (h3 : (backTo pos2 (starEach [b] X.env)).any (·.1) = false := by rfl) :
    PE X (.Call (.Name "list" p) [.Call (.Name "zip" p2) [a, b] [] pos2] [] pos) (tListZip X.K t) := by
  refine ⟨fun pins s σ H Q I h => ?_⟩
  refine (wpAny_Call_Name_kw (ld_blt I hg hm Boot.«list» (?_) (by decide)))
  refine (PyProof.Rows.callWith_type1 (?_) h1 rfl)
  rw [h1]
  show wpAny _ _ (spliced ((false, eval (.Call (.Name "zip" p2) [a, b] [] pos2) X.env) :: backTo pos (starEach [] X.env))) _ _ s
  refine Calls.spliced_cons (wpAny_Call_Name_kw (ld_blt I hg2 hm2 Boot.«zip» (PyProof.Rows.callWith_type1 ?_ h2 h3) (by decide)))
  refine thn (ha.run pos2 pins s σ H _ I h) fun us s1 ⟨vs, H1, I1, r1, l1, l2, xs, ys, ev, hx, hy, hxy, h0, hn, q⟩ => ?_
  subst ev
  obtain ⟨u1, u2, rfl, ru1, ru2⟩ := vals2 r1
  obtain rfl : u1 = Value.ref l1 := ru1
  obtain rfl : u2 = Value.ref l2 := ru2
  obtain ⟨ix, rx, tx, _⟩ := I1.tuple hx
  obtain ⟨iy, ry, ty, _⟩ := I1.tuple hy
  have ex : ix.toArray.size = xs.length := by rw [List.size_toArray]; exact rx.length.symm
  have ey : iy.toArray.size = ys.length := by rw [List.size_toArray]; exact ry.length.symm
  have ll1 : l1 < s1.heap.objs.size := by obtain ⟨_, e, _⟩ := tx; exact Heap.lt_size e
  have ll2 : l2 < s1.heap.objs.size := by obtain ⟨_, e, _⟩ := ty; exact Heap.lt_size e
  refine RZ.call_zipT (xs := ix.toArray) (ys := iy.toArray) tx ty fun h' g1 g2 g3 g4 g5 hsz hk => Calls.spliced_nil ?_
  have nn : ∀ {a b : Nat} (n : Addr), n < a → a ≤ b → n ≠ b := fun n h k => Nat.ne_of_lt (Nat.lt_of_lt_of_le h k)
  have D : ZipApart (s1.heap.objs.size + 4) (s1.heap.objs.size + 2) (s1.heap.objs.size + 3) s1.heap.objs.size (s1.heap.objs.size + 1) l1 l2 := by
    refine ⟨?_, ?_, ?_, ?_, ?_, ?_, ?_, ?_, ?_, ?_, ?_, ?_, ?_, ?_, ?_, ?_, ?_, ?_⟩ <;> first
      | exact nn l1 ll1 (Nat.le_add_right _ _)
      | exact nn l2 ll2 (Nat.le_add_right _ _)
      | exact Nat.ne_of_lt ll1
      | exact Nat.ne_of_lt ll2
      | (show (_ : Nat) ≠ _; omega)
  refine list_zip (s := { s1 with heap := h' }) (xs := ix.toArray) (ys := iy.toArray) (show X.A.handled = none from I1.ok.hd hc) D (by rw [ex, ey]; exact hxy) (by rw [ex]; exact h0) (by rw [ex]; exact hn) g1 g3 ⟨g2, g4, g5, tx.keeps hk, ty.keeps hk, .inl ⟨rfl, g1, g3⟩⟩ fun h2 tk acc c as k2 hS hl hG hacc => ?_
  have kall : Kept s1.heap h2 := fun b o e => k2 b o (nn b (Heap.lt_size e) (Nat.le_add_right _ _)) (nn b (Heap.lt_size e) (Nat.le_add_right _ _)) (Nat.ne_of_lt (Heap.lt_size e)) (nn b (Heap.lt_size e) (Nat.le_add_right _ _)) (hk b o e)
  have hle : s1.heap.objs.size ≤ h'.objs.size := by rw [hsz]; exact Nat.le_add_right _ _
  have J1 : Inv X pins σ H1 { s1 with heap := h2, toks := tk } := I1.kept (t' := tk) kall
  have hn0 : H1 h'.objs.size = none := I1.hok.fresh hle
  have nd : as.Nodup := List.Pairwise.imp (fun h => Nat.ne_of_lt h) hG.rise
  have J2 : Inv X pins σ (upd H1 h'.objs.size (.lst (as.map V.ref))) { s1 with heap := h2, toks := tk } :=
    J1.take (h' := h2) (t' := tk) (fun b ob _ e => e) (I1.fpOk hle hn0) ⟨by rw [List.length_map, hl, ex, sizeLine_eq]; omega, acc.toList, c, by rw [hacc]; exact LiI.vals_refs as, by rw [Array.toArray_toList]; exact hS⟩
  obtain ⟨H2, J3, g, qt⟩ := DX.takeT (P := fun b vs => ∃ (j : Nat) (x y : V), as[j]? = some b ∧ xs[j]? = some x ∧ ys[j]? = some y ∧ vs = [x, y]) I1 as _ J2 nd fun b hb => by
    obtain ⟨j, hj⟩ := List.mem_iff_getElem?.mp hb
    obtain ⟨u, v, e1, e2, e3⟩ := hG.pairs j b hj
    have hbl : h'.objs.size < b := hG.above b hb
    rw [List.getElem?_toArray] at e1 e2
    obtain ⟨x, f1, f2⟩ := DX.pget rx e1
    obtain ⟨y, f3, f4⟩ := DX.pget ry e2
    refine ⟨Nat.le_trans hle (Nat.le_of_lt hbl), ?_, [x, y], ⟨j, x, y, hj, f1, f3, rfl⟩, fun H3 => ⟨by show 2 ≤ sizeLine; decide, [u, v], .cons f2 (.cons f4 .nil), ⟨_, e3, rfl, _, rfl⟩⟩⟩
    rw [upd_ne (Nat.ne_of_gt hbl)]
    exact I1.hok.fresh (Nat.le_trans hle (Nat.le_of_lt hbl))
  have gr : ∀ b o, H1 b = some o → H2 b = some o := fun b o e => g b o (by rw [upd_ne (ne_of_none e hn0)]; exact e)
  refine ⟨.ref h'.objs.size, H2, J3, rfl, q H2 _ as gr hn0 (fun t ht => I1.hok.fresh (Nat.le_trans hle (Nat.le_of_lt (hG.above t ht)))) (g _ _ upd_same) ⟨by rw [hl, ex], fun j t x y ht hx' hy' => ?_⟩⟩
  obtain ⟨vs, ⟨i, x2, y2, i1, i2, i3, ev⟩, hH⟩ := qt t (List.mem_of_getElem? ht)
  have eij : i = j := (List.getElem?_inj (List.getElem?_eq_some_iff.mp i1).1 nd).mp (i1.trans ht.symm)
  subst eij
  rw [i2] at hx'
  rw [i3] at hy'
  cases hx'
  cases hy'
  rw [hH, ev]
end
end RS

/-! text R7 -/
set_option Elab.async false
set_option linter.all false
set_option maxRecDepth 100000
set_option maxHeartbeats 1000000
/-! sorted(d.items()): the keys ints alone, or texts alone. -/
namespace RS
open PySem PySem.Spec PyProof.Rows L2
def kLt : Key → Key → Bool
  | .inl i, .inl j => decide (i < j)
  | .inr x, .inr y => decide (x.cps.toList < y.cps.toList)
  | _, _ => false
/-- one kind of keys -/
def OneK (ks : List Key) : Prop := (∀ k ∈ ks, ∃ i, k = .inl i) ∨ ∀ k ∈ ks, ∃ x, k = .inr x
/-- a text or an int -/
def FlV (v : V) : Prop := (∃ x, v = .str x) ∨ ∃ i, v = .int i
theorem pairs_get {prog : Program} {w : World} {K : Type} [DecidableEq K] {knd : PySem.KeyKind prog w K} : ∀ {es : List DictEntry} {vs : List (K × Value)}, PySem.Pairs knd es vs → ∀ (j : Nat) (e : DictEntry), es[j]? = some e → ∃ kv, vs[j]? = some kv ∧ knd.is kv.1 e.key = true ∧ e.val = kv.2
  | _, _, .nil, j, e, h => by simp at h
  | _, _, .cons h1 h2 _, 0, e, h => by
    rw [List.getElem?_cons_zero] at h
    cases h
    exact ⟨_, rfl, h1, h2⟩
  | _, _, .cons _ _ t, j + 1, e, h => by
    rw [List.getElem?_cons_succ] at h
    obtain ⟨kv, e1, r⟩ := pairs_get t j e h
    exact ⟨kv, by rw [List.getElem?_cons_succ]; exact e1, r⟩
theorem pairs_len {prog : Program} {w : World} {K : Type} [DecidableEq K] {knd : PySem.KeyKind prog w K} : ∀ {es : List DictEntry} {vs : List (K × Value)}, PySem.Pairs knd es vs → es.length = vs.length
  | _, _, .nil => rfl
  | _, _, .cons _ _ t => congrArg (· + 1) (pairs_len t)
/-- b is a pair of the key k and the value v in the heap -/
def KPair (h : Heap) (b : Addr) (k : Key) (v : V) (kv u : Value) : Prop := IsTup h b #[kv, u] ∧ keyIs k kv = true ∧ RelV v u
/-- the rank of a pair, by its address -/
def rkOf (ρ : Key → Int) (l : List (Addr × (Key × V))) : Value → Int
  | .ref b => ((l.lookup b).map fun e => ρ e.1).getD 0
  | _ => 0
theorem look_zip {α : Type} : ∀ (as : List Addr) (es : List α) (j : Nat) (b : Addr) (e : α), as.Nodup → as[j]? = some b → es[j]? = some e → (as.zip es).lookup b = some e
  | [], _, j, b, e, _, h, _ => by simp at h
  | _ :: _, [], j, b, e, _, _, h => by simp at h
  | a :: as, x :: es, 0, b, e, _, h1, h2 => by
    simp only [List.getElem?_cons_zero, Option.some.injEq] at h1 h2
    subst h1 h2
    simp [List.zip_cons_cons, List.lookup_cons]
  | a :: as, x :: es, j + 1, b, e, n, h1, h2 => by
    simp only [List.getElem?_cons_succ] at h1 h2
    obtain ⟨n1, n2⟩ := List.nodup_cons.mp n
    have ne : b ≠ a := fun z => n1 (z ▸ List.mem_of_getElem? h1)
    have nb : (b == a) = false := beq_eq_false_iff_ne.mpr ne
    rw [List.zip_cons_cons, List.lookup_cons, nb]
    exact look_zip as es j b e n2 h1 h2
section
variable {P : Program} {w : World} {A : Around} {E : Value → Shared → Prop} {s : Shared}
theorem kp_firsts {h : Heap} : ∀ (as : List Addr), (∀ a ∈ as, ∃ k v kv u, KPair h a k v kv u) → ∃ fs : List Value, PySem.W.KatTups h (as.map Value.ref) fs ∧ fs.length = as.length ∧ ∀ f ∈ fs, ∃ a ∈ as, ∃ k v u, KPair h a k v f u
  | [], _ => ⟨[], PySem.W.KatTups.nil, rfl, fun f hf => by simp at hf⟩
  | a :: as, x => by
    obtain ⟨fs, k, hl, hi⟩ := kp_firsts as fun u hu => x u (List.mem_cons_of_mem _ hu)
    obtain ⟨k1, v, kv, u, ⟨o, ho, hc, n, hd⟩, hk, hr⟩ := x a (List.mem_cons_self ..)
    refine ⟨kv :: fs, PySem.W.KatTups.cons ho hc hd rfl k, congrArg (· + 1) hl, fun f hf => ?_⟩
    rcases List.mem_cons.mp hf with rfl | hf
    · exact ⟨a, List.mem_cons_self .., k1, v, u, ⟨o, ho, hc, n, hd⟩, hk, hr⟩
    · obtain ⟨b, hb, r⟩ := hi f hf
      exact ⟨b, List.mem_cons_of_mem _ hb, r⟩
theorem kp_lt {a b : Addr} {k k' : Key} {v v' : V} {kv kv' u u' : Value} {Q : Bool → Shared → Prop} (x : KPair s.heap a k v kv u) (y : KPair s.heap b k' v' kv' u') (hT : OneK [k, k']) (hs : k = k' → u = u' ∧ FlV v) (hQ : Q (kLt k k') s) :
    wpAny (model P w) A (keyLt' (tuples' true) (.ref a) (.ref b)) Q E s := by
  obtain ⟨⟨o, ho, hc, n, hd⟩, hk, hr⟩ := x
  obtain ⟨⟨o', ho', hc', n', hd'⟩, hk', hr'⟩ := y
  refine PySem.W.kat_lt ho hd ho' hd' ?_
  show PySem.W.KatLex P w A true (decide (2 < 2)) Q [(kv, kv'), (u, u')] 0 s
  refine PySem.W.kat_cons ((mixKind P w).eqBool hk hk' ?_)
  refine PySem.W.kat_go (fun e => ?_) (fun e => ?_)
  · have e1 : k = k' := of_decide_eq_true e
    obtain ⟨rfl, hf⟩ := hs e1
    subst e1
    have irr : kLt k k = false := by
      cases k with
      | inl i => exact decide_eq_false (Int.lt_irrefl _)
      | inr z => exact decide_eq_false (List.lt_irrefl _)
    rw [irr] at hQ
    refine PySem.W.kat_yes (PySem.W.kat_cons ?_)
    rcases hf with ⟨z, rfl⟩ | ⟨i, rfl⟩
    · obtain ⟨t, rfl⟩ := hr
      refine SeqAt.EqAt.str_str z t z t P w _ _ (PySem.W.kat_go (fun _ => PySem.W.kat_yes (PySem.W.kat_nil hQ)) fun e0 => ?_)
      rw [beq_self_eq_true] at e0
      cases e0
    · obtain ⟨t, rfl⟩ := hr
      refine SeqAt.EqAt.int_int i t i t P w _ _ (PySem.W.kat_go (fun _ => PySem.W.kat_yes (PySem.W.kat_nil hQ)) fun e0 => ?_)
      rw [beq_self_eq_true] at e0
      cases e0
  · refine PySem.W.kat_no ?_
    rcases hT with hT | hT
    · obtain ⟨i, rfl⟩ := hT k (by simp)
      obtain ⟨j, rfl⟩ := hT k' (by simp)
      obtain ⟨t, rfl⟩ := Value.isInt_shape hk
      obtain ⟨t', rfl⟩ := Value.isInt_shape hk'
      exact oneLt_int hQ
    · obtain ⟨i, rfl⟩ := hT k (by simp)
      obtain ⟨j, rfl⟩ := hT k' (by simp)
      obtain ⟨t, rfl⟩ := Value.isStrOf_shape hk
      obtain ⟨t', rfl⟩ := Value.isStrOf_shape hk'
      exact oneLt_str hQ
theorem kp_kind {as : List Addr} {ks : List Key} (hT : OneK ks) (h2 : 2 ≤ as.length) (x : ∀ a ∈ as, ∃ k v kv u, k ∈ ks ∧ KPair s.heap a k v kv u) (Q : SortKind → Shared → Prop) (h : Q (tuples' true) s) : wpAny (model P w) A (keyKind' (as.map Value.ref).toArray) Q E s := by
  have two : ∀ T : Value, (∀ f, (∃ a ∈ as, ∃ k v u, k ∈ ks ∧ KPair s.heap a k v f u) → PySem.W.Looks (model P w) s.heap (typeOf f) T) → (T == T) = true → (T != Value.type "tuple") = true → wpAny (model P w) A (keyKind' (as.map Value.ref).toArray) Q E s := by
    intro T hL h1 h3
    have key : ∀ (l : List Addr), (∀ a ∈ l, ∃ k v kv u, k ∈ ks ∧ KPair s.heap a k v kv u) → ∃ fs : List Value, PySem.W.KatTups s.heap (l.map Value.ref) fs ∧ fs.length = l.length ∧ ∀ f ∈ fs, ∃ a ∈ l, ∃ k v u, k ∈ ks ∧ KPair s.heap a k v f u := by
      intro l
      induction l with
      | nil => intro _; exact ⟨[], PySem.W.KatTups.nil, rfl, fun f hf => by simp at hf⟩
      | cons a l ih =>
        intro hx
        obtain ⟨fs, k, hl, hi⟩ := ih fun u hu => hx u (List.mem_cons_of_mem _ hu)
        obtain ⟨k1, v, kv, u, hm, ⟨o, ho, hc, n, hd⟩, hk, hr⟩ := hx a (List.mem_cons_self ..)
        refine ⟨kv :: fs, PySem.W.KatTups.cons ho hc hd rfl k, congrArg (· + 1) hl, fun f hf => ?_⟩
        rcases List.mem_cons.mp hf with rfl | hf
        · exact ⟨a, List.mem_cons_self .., k1, v, u, hm, ⟨o, ho, hc, n, hd⟩, hk, hr⟩
        · obtain ⟨b, hb, r⟩ := hi f hf
          exact ⟨b, List.mem_cons_of_mem _ hb, r⟩
    obtain ⟨fs, k, hl, hi⟩ := key as x
    refine PySem.W.kat_kind (T := T) k (by omega) (fun f hf => hL f (hi f hf)) h1 ?_
    rw [h3]
    exact h
  rcases hT with hT | hT
  · refine two (.type "int") (fun f hf => ?_) rfl (by decide)
    obtain ⟨a, _, k, v, u, hm, _, hk, _⟩ := hf
    obtain ⟨i, rfl⟩ := hT k hm
    obtain ⟨t, rfl⟩ := Value.isInt_shape hk
    exact PySem.W.Looks.now
  · refine two (.type "str") (fun f hf => ?_) rfl (by decide)
    obtain ⟨a, _, k, v, u, hm, _, hk, _⟩ := hf
    obtain ⟨i, rfl⟩ := hT k hm
    obtain ⟨t, rfl⟩ := Value.isStrOf_shape hk
    exact PySem.W.Looks.now
end
/-! ### by values -/
section
variable {X : Cx}
def rItemsK : V → List V → Hp → VK → Prop := fun x xs H Q => ∃ (a : Addr) (kvs : List (Key × V)), x = .ref a ∧ xs = [] ∧ H a = some (.dK kvs) ∧ ∀ p, H p = none → Q (.ref p) (upd H p (DX.itemsO p a))
theorem mt_itemsK : MtR X "dict.items" rItemsK := by
  intro pins s σ H x xs v us Q I rx rxs h
  obtain ⟨a, kvs, rfl, rfl, ha, q⟩ := h
  cases rx
  cases rxs
  obtain ⟨z, hd, vs, rel, o, es, ep, ho, hx, hdat, _⟩ := dk_of I.hok ha
  refine DT.callItems (es := es) (ep := ep) hd ⟨o, ho, hx, hdat⟩ ?_
  exact ⟨.ref s.heap.objs.size, upd H s.heap.objs.size (DX.itemsO s.heap.objs.size a), I.laid (t' := s.toks) (fun b u e => Heap.get?_push_of_some _ e) (Nat.le_refl _) (DX.itemsO_ok (Heap.get?_push_size _ rfl)), rfl, q _ (I.hok.fresh (Nat.le_refl _))⟩
/-- pairs at addresses, with their keys and values -/
abbrev Kr := Addr × (Key × V)
def rSortK : List V → Hp → VK → Prop := fun vs H Q => ∃ (p a : Addr) (kvs : List (Key × V)) (ρ : Key → Int), vs = [.ref p] ∧ H p = some (DX.itemsO p a) ∧ H a = some (.dK kvs) ∧ kvs.length < 64 ∧ OneK (kvs.map (·.1)) ∧ (∀ e ∈ kvs, FlV e.2) ∧
  (∀ e ∈ kvs, ∀ f ∈ kvs, kLt e.1 f.1 = decide (ρ e.1 < ρ f.1)) ∧
  ∀ (H' : Hp) (l : Addr) (ps : List Kr), (∀ b o, H b = some o → H' b = some o) → (ps.map (·.2)).Perm kvs → ps.Pairwise (fun e f => ρ e.2.1 ≤ ρ f.2.1) → H l = none → (∀ z ∈ ps, H z.1 = none) → H' l = some (.lst (ps.map fun z => V.ref z.1)) →
    (∀ z ∈ ps, H' z.1 = some (.tup [kV z.2.1, z.2.2])) → Q (.ref l) H'
theorem cr_sortK (hc : X.calm = true) : CallR X (.builtin "sorted") rSortK := by
  intro pins s σ H xs us Q I r h
  obtain ⟨p, a, kvs, ρ, rfl, hp, ha, h64, hT, hfl, hρ, q⟩ := h
  obtain rfl := Vals.ref1 r
  have view : s.heap.IsItemsView p a := (show ObjOk X.prog X.w H s.heap p (DX.itemsO p a) from I.hok p _ hp).1
  obtain ⟨z, hd, vs, rel, o, es, ep, ho, hx, hdat, _, hpairs, hnd⟩ := dk_of I.hok ha
  have l1 : kvs.length = vs.length := Paired.length rel
  have l2 : es.size = vs.length := by rw [← Array.length_toList]; exact pairs_len hpairs
  have hh : X.A.handled = none := I.ok.hd hc
  refine DT.sortedI (es := es) (ep := ep) hh view ⟨o, ho, hx, hdat⟩ (by rw [sizeLine_eq]; omega) fun h' tk as hk hlt hl hG => ?_
  have lak : as.length = kvs.length := by omega
  have nd : as.Nodup := List.Pairwise.imp (fun h => Nat.ne_of_lt h) hG.rise
  have ndk : (kvs.map (·.1)).Nodup := by
    have e : kvs.map (·.1) = vs.map (·.1) := by
      have gen : ∀ {a : List (Key × V)} {b : List (Key × Value)}, KV a b → a.map (·.1) = b.map (·.1) := by
        intro a b r
        induction r with
        | nil => rfl
        | cons h _ ih => rw [List.map_cons, List.map_cons, h.1, ih]
      exact gen rel
    rw [e]
    exact hnd
  have pr : ∀ (j : Nat) (b : Addr), as[j]? = some b → ∃ (e : Key × V) (kv u : Value), kvs[j]? = some e ∧ keyIs e.1 kv = true ∧ RelV e.2 u ∧ h'.get? b = some { cls := .type "tuple", data := .seq #[kv, u] } := by
    intro j b hj
    obtain ⟨en, he, hg⟩ := hG.pairs j b hj
    rw [← Array.getElem?_toList] at he
    obtain ⟨kv, f1, f2, f3⟩ := pairs_get hpairs j en he
    obtain ⟨e, g1, g2, g3⟩ := DX.pget rel f1
    exact ⟨e, en.key, en.val, g1, by rw [g2]; exact f2, by rw [f3]; exact g3, hg⟩
  have hob : (h'.push { cls := .type "list", data := .seq (as.map Value.ref).toArray }).get? h'.objs.size = some (seqObj "list" (as.map Value.ref).toArray 0) := Heap.get?_push_size _ rfl
  have ka : ∀ b o, h'.get? b = some o → (h'.push { cls := .type "list", data := .seq (as.map Value.ref).toArray }).get? b = some o := fun b o e => Heap.get?_push_of_some _ e
  have ne0 : ∀ b o, h'.get? b = some o → b ≠ h'.objs.size := fun b o e => Nat.ne_of_lt (Heap.lt_size e)
  generalize h'.push { cls := .type "list", data := .seq (as.map Value.ref).toArray } = h2 at hob ka ⊢
  have pin : ∀ (j : Nat) (b : Addr), as[j]? = some b → ∃ (e : Key × V) (kv u : Value), kvs[j]? = some e ∧ KPair (TS.midHeap h2 h'.objs.size (as.map Value.ref)) b e.1 e.2 kv u := by
    intro j b hj
    obtain ⟨e, kv, u, e1, e2, e3, e4⟩ := pr j b hj
    exact ⟨e, kv, u, e1, ⟨_, TS.midHeap_old (ne0 _ _ e4) (ka _ _ e4), rfl, 0, rfl⟩, e2, e3⟩
  have rk : ∀ (j : Nat) (b : Addr) (e : Key × V), as[j]? = some b → kvs[j]? = some e → rkOf ρ (as.zip kvs) (.ref b) = ρ e.1 := by
    intro j b e h1 h3
    show (((as.zip kvs).lookup b).map fun e => ρ e.1).getD 0 = ρ e.1
    rw [look_zip as kvs j b e nd h1 h3]
    rfl
  have at_ : ∀ v ∈ as.map Value.ref, ∃ (j : Nat) (b : Addr), v = .ref b ∧ as[j]? = some b := by
    intro v hv'
    obtain ⟨b, hb, rfl⟩ := List.mem_map.mp hv'
    obtain ⟨j, hj⟩ := List.mem_iff_getElem?.mp hb
    exact ⟨j, b, rfl, hj⟩
  refine wpAny_call_entry slot_list_sort ⟨_, hob, rfl⟩ entry_list_sort
    (SK.plain_sort (s := { s with heap := h2, toks := tk }) (r := rkOf ρ (as.zip kvs)) hob (by rw [List.length_map]; omega) (fun h2' Qk hQk => ?_) fun ps out o1 o2 o3 => ⟨.none, rfl, ?_⟩) (args_list_sort _)
  · refine kp_kind (s := { s with heap := TS.midHeap h2 h'.objs.size (as.map Value.ref), toks := tk }) hT (by rw [List.length_map] at h2'; exact h2') (fun b hb => ?_) Qk (hQk _ ?_)
    · obtain ⟨j, hj⟩ := List.mem_iff_getElem?.mp hb
      obtain ⟨e, kv, u, e1, e2⟩ := pin j b hj
      exact ⟨e.1, e.2, kv, u, List.mem_map.mpr ⟨e, List.mem_of_getElem? e1, rfl⟩, e2⟩
    · intro x y hx hy Q' E' hQ
      rw [pairsOf_toList] at hx hy
      obtain ⟨j, b, eb, hj⟩ := at_ _ (mem_zip_self hx).2
      obtain ⟨i, c, ec, hi⟩ := at_ _ (mem_zip_self hy).2
      rw [eb, ec] at hQ ⊢
      obtain ⟨e, kv, u, e1, e2⟩ := pin j b hj
      obtain ⟨f, kv', u', f1, f2⟩ := pin i c hi
      rw [rk j b e hj e1, rk i c f hi f1, ← hρ e (List.mem_of_getElem? e1) f (List.mem_of_getElem? f1)] at hQ
      refine kp_lt e2 f2 ?_ (fun ek => ?_) hQ
      · refine hT.imp (fun g k hk => g k ?_) fun g k hk => g k ?_
        · rcases List.mem_cons.mp hk with rfl | hk
          · exact List.mem_map.mpr ⟨e, List.mem_of_getElem? e1, rfl⟩
          · rw [List.mem_singleton.mp hk]; exact List.mem_map.mpr ⟨f, List.mem_of_getElem? f1, rfl⟩
        · rcases List.mem_cons.mp hk with rfl | hk
          · exact List.mem_map.mpr ⟨e, List.mem_of_getElem? e1, rfl⟩
          · rw [List.mem_singleton.mp hk]; exact List.mem_map.mpr ⟨f, List.mem_of_getElem? f1, rfl⟩
      · have eij : j = i := by
          have g1 : (kvs.map (·.1))[j]? = some e.1 := by rw [List.getElem?_map, e1]; rfl
          have g2 : (kvs.map (·.1))[i]? = some f.1 := by rw [List.getElem?_map, f1]; rfl
          rw [ek] at g1
          exact (List.getElem?_inj (List.getElem?_eq_some_iff.mp g1).1 ndk).mp (g1.trans g2.symm)
        subst eij
        rw [hj] at hi
        cases hi
        obtain ⟨⟨o1, ho1, _, n1, hd1⟩, _⟩ := e2
        obtain ⟨⟨o2, ho2, _, n2, hd2⟩, _⟩ := f2
        rw [ho1] at ho2
        cases ho2
        rw [hd1] at hd2
        injection hd2 with g3 _
        have g4 : [kv, u] = [kv', u'] := congrArg Array.toList g3
        injection g4 with _ g5
        injection g5 with g6 _
        exact ⟨g6, hfl e (List.mem_of_getElem? e1)⟩
  · show EP X pins σ Q (.ref h'.objs.size) { s with heap := sortedHeap h2 h'.objs.size (as.map Value.ref) out, toks := tk }
    obtain ⟨zs, pz, ez⟩ := perm_lift (fun z : Kr => (Value.ref z.1, Value.ref z.1)) o2 (as.zip kvs) (DX.zip_self Value.ref as kvs lak)
    have idx : ∀ z ∈ zs, ∃ j : Nat, as[j]? = some z.1 ∧ kvs[j]? = some z.2 := by
      intro z' hz'
      obtain ⟨j, hj⟩ := List.mem_iff_getElem?.mp (pz.mem_iff.mp hz')
      exact ⟨j, List.getElem?_zip_eq_some.mp hj⟩
    have hout : out.toList = zs.map fun z => Value.ref z.1 := by
      rw [o1, ← ez, List.map_map]
      rfl
    have hperm : (zs.map (·.2)).Perm kvs := by
      have e := pz.map (·.2)
      rw [List.map_snd_zip (Nat.le_of_eq lak.symm)] at e
      exact e
    have hsort : zs.Pairwise (fun e f => ρ e.2.1 ≤ ρ f.2.1) := by
      rw [← ez, List.pairwise_map] at o3
      refine List.Pairwise.imp_of_mem (fun {x y} hx hy h => ?_) o3
      obtain ⟨j, j1, j2⟩ := idx x hx
      obtain ⟨i, i1, i2⟩ := idx y hy
      have h3 : rkOf ρ (as.zip kvs) (.ref x.1) ≤ rkOf ρ (as.zip kvs) (.ref y.1) := h
      rw [rk j _ _ j1 j2, rk i _ _ i1 i2] at h3
      exact h3
    have kF : ∀ b o, b ≠ h'.objs.size → h2.get? b = some o → (sortedHeap h2 h'.objs.size (as.map Value.ref) out).get? b = some o := fun b o hb e => (sortedHeap_old hb (Heap.lt_size e)).trans e
    have kS : Kept s.heap (sortedHeap h2 h'.objs.size (as.map Value.ref) out) := fun b o e => kF b o (ne0 _ _ (hk b o e)) (ka _ _ (hk b o e))
    obtain ⟨eF, heF⟩ := sortedHeap_at (vs := as.map Value.ref) (out := out) hob
    have I1 : Inv X pins σ H { s with heap := sortedHeap h2 h'.objs.size (as.map Value.ref) out, toks := tk } := I.kept (t' := tk) kS
    have hn0 : H h'.objs.size = none := I.hok.fresh (Nat.le_of_lt hlt)
    have hlen : (zs.map fun z => V.ref z.1).length ≤ sizeLine := by
      have e := hperm.length_eq
      rw [List.length_map] at e
      rw [List.length_map, sizeLine_eq]
      omega
    have rv : Vals (zs.map fun z => V.ref z.1) out.toList := by
      rw [hout]
      exact vals_maps (fun z : Kr => V.ref z.1) (fun z => Value.ref z.1) zs fun _ _ => rfl
    have I2 : Inv X pins σ (upd H h'.objs.size (.lst (zs.map fun z => V.ref z.1))) { s with heap := sortedHeap h2 h'.objs.size (as.map Value.ref) out, toks := tk } :=
      I1.take (h' := sortedHeap h2 h'.objs.size (as.map Value.ref) out) (t' := tk) (fun b ob _ e => e) (I.fpOk (Nat.le_of_lt hlt) hn0) ⟨hlen, out.toList, eF, rv, heF⟩
    have below : ∀ b ∈ as, s.heap.objs.size ≤ b ∧ b < h'.objs.size := fun b hb => by
      obtain ⟨j, hj⟩ := List.mem_iff_getElem?.mp hb
      obtain ⟨e, kv, u, _, _, _, hg⟩ := pr j b hj
      exact ⟨Nat.le_of_lt (hG.above b hb), Heap.lt_size hg⟩
    obtain ⟨H2, I3, g, qt⟩ := DX.takeT (P := fun b vs => ∃ (j : Nat) (e : Key × V), as[j]? = some b ∧ kvs[j]? = some e ∧ vs = [kV e.1, e.2]) I as _ I2 nd fun b hb => by
      obtain ⟨j, hj⟩ := List.mem_iff_getElem?.mp hb
      obtain ⟨e, kv, u, he, hk1, hk2, hg⟩ := pr j b hj
      refine ⟨(below b hb).1, ?_, [kV e.1, e.2], ⟨j, e, hj, he, rfl⟩, fun H3 => ⟨(by rw [sizeLine_eq]; show 2 ≤ 16777216; omega), [kv, u], .cons (relV_key hk1) (.cons hk2 .nil), ⟨_, kF _ _ (Nat.ne_of_lt (below b hb).2) (ka _ _ hg), rfl, 0, rfl⟩⟩⟩
      rw [upd_ne (Nat.ne_of_lt (below b hb).2)]
      exact I.hok.fresh (below b hb).1
    have gr : ∀ b o, H b = some o → H2 b = some o := fun b o e => g b o (by rw [upd_ne (ne_of_none e hn0)]; exact e)
    refine ⟨.ref h'.objs.size, H2, I3, rfl, q H2 h'.objs.size zs gr hperm hsort hn0 (fun z' hz' => ?_) (g _ _ upd_same) fun z' hz' => ?_⟩
    · obtain ⟨i, i1, i2⟩ := idx z' hz'
      exact I.hok.fresh (below z'.1 (List.mem_of_getElem? i1)).1
    · obtain ⟨i, i1, i2⟩ := idx z' hz'
      obtain ⟨vs', ⟨j, e, j1, j2, ev⟩, hH⟩ := qt z'.1 (List.mem_of_getElem? i1)
      have eij : i = j := (List.getElem?_inj (List.getElem?_eq_some_iff.mp i1).1 nd).mp (i1.trans j1.symm)
      subst eij
      have ee : e = z'.2 := Option.some.inj (j2.symm.trans i2)
      rw [ev, ee] at hH
      exact hH
end
end RS

/-! text PR -/
set_option Elab.async false
set_option linter.all false
set_option maxRecDepth 100000
set_option maxHeartbeats 1000000
/-! What stands in the abstract heap: the rows of a store. -/
namespace RS
open PySem PySem.Spec PyProof.Rows L2
/-- the tables of the two defs that make a lambda -/
abbrev TT (K : PySem.W.Frag) : Tbs := [((He.cT K ("pairs_with", none)).2, "pairs_with.<locals>.<lambda>"), ((He.cT K ("Store", some "pairs")).2, "Store.pairs.<locals>.<lambda>")]
abbrev KQ (K : PySem.W.Frag) (M : Addr → Prop) : Hp → Hp → Prop := Kp (TT K) M
theorem Kp.ext {T : Tbs} {M : Addr → Prop} {H H1 H2 : Hp} (x : Kp T M H H1) (e : ∀ b o, H1 b = some o → H2 b = some o) : Kp T M H H2 :=
  ⟨fun b u h q => e _ _ (x.k b u h q), fun t => (x.t t).ext e, fun b h => x.s b fun u hu => h u (e b u hu)⟩
section
variable {T : Tbs} {M : Addr → Prop} {H H1 : Hp} {a : Addr}
theorem Kp.mutL {xs ys : List V} (x : Kp T M H H1) (hn : NN H a) (h : H1 a = some (.lst xs)) : Kp T M H (L2.upd H1 a (.lst ys)) := x.mut (o := .lst xs) hn h trivial
theorem Kp.mutD {xs ys : List (Key × V)} (x : Kp T M H H1) (hn : NN H a) (h : H1 a = some (.dK xs)) : Kp T M H (L2.upd H1 a (.dK ys)) := x.mut (o := .dK xs) hn h trivial
theorem Kp.mutI {C dx C' dx' : Addr} {xs ys : List (Str × V)} (x : Kp T M H H1) (hn : NN H a) (h : H1 a = some (.ins C dx xs)) : Kp T M H (L2.upd H1 a (.ins C' dx' ys)) := x.mut (o := .ins C dx xs) hn h trivial
theorem Kp.updL {xs ys : List V} (x : Kp T M H H1) (hm : M a) (h : H1 a = some (.lst xs)) : Kp T M H (L2.upd H1 a (.lst ys)) := x.upd (o := .lst xs) h trivial fun q => q hm
theorem Kp.updD {xs ys : List (Key × V)} (x : Kp T M H H1) (hm : M a) (h : H1 a = some (.dK xs)) : Kp T M H (L2.upd H1 a (.dK ys)) := x.upd (o := .dK xs) h trivial fun q => q hm
/-- a list that is new since H -/
theorem Kp.at_ {xs : List V} (x : Kp T M0 H H1) (h : H a = some (.lst xs)) : H1 a = some (.lst xs) := x.k _ _ h fun z => z
theorem Kp.atD {xs : List (Key × V)} (x : Kp T M0 H H1) (h : H a = some (.dK xs)) : H1 a = some (.dK xs) := x.k _ _ h fun z => z
end
section
variable {X : Cx} {x : Str} {p : Pos} {i : Int} {z : Str}
theorem pe_gi (hg : Gl X x) (h : ∃ t, X.mg x = some (.int i t)) (hd : (x == ("__debug__" : Str)) = false := by decide) : PE X (.Name x p) (tC (.int i)) := by
  obtain ⟨t, h⟩ := h
  exact pe_glob hg h ⟨t, rfl⟩ hd
theorem pe_gs (hg : Gl X x) (h : ∃ t, X.mg x = some (.str z t)) (hd : (x == ("__debug__" : Str)) = false := by decide) : PE X (.Name x p) (tC (.str z)) := by
  obtain ⟨t, h⟩ := h
  exact pe_glob hg h ⟨t, rfl⟩ hd
theorem pe_gr {a : Addr} (hg : Gl X x) (h : X.mg x = some (.ref a)) (hd : (x == ("__debug__" : Str)) = false := by decide) : PE X (.Name x p) (tC (.ref a)) := pe_glob hg h rfl hd
theorem pe_gty {n : String} (hg : Gl X x) (h : X.mg x = none) (hb : bootBuiltins x = some (.type n)) (hn : x ≠ "__name__" := by decide) (hd : (x == ("__debug__" : Str)) = false := by decide) : PE X (.Name x p) (tC (.ty n)) := pe_bltn hg h hb rfl hn hd
end
section
variable {X : Cx}
/-! rules told with K itself, for a comprehension's block -/
theorem pg_tupK (K : PySem.W.Frag) (n : Nat) {es : List Expr} {k : Nat} {pos : Pos} {t : TGs} (hc : X.calm = true) (h : PGs X es t) (hK : X.K = K := by rfl) (hn : (assignEach es X.env).length = n := by rfl) (hst : (assignEach es X.env).findIdx? (·.1) = none := by rfl) : PG X (.Tuple es k pos) (gTup K n t) := by
  subst hK
  exact pg_tup hc h hn hst
theorem ix_tupK (K : PySem.W.Frag) (hK : X.K = K := by rfl) : IxR X (rIxT K) := by
  subst hK
  exact ix_tup
theorem ix_listK (K : PySem.W.Frag) (hK : X.K = K := by rfl) : IxR X (rIxL K) := by
  subst hK
  exact ix_list
end
theorem sqT_new {K : PySem.W.Frag} {H : Hp} {a : Addr} {xs : List V} : SqT K (upd H a (.tup xs)) a xs := .inl (.inl upd_same)
theorem sqL_at {K : PySem.W.Frag} {H : Hp} {a : Addr} {xs : List V} (h : H a = some (.lst xs)) : SqL K H a xs := .inl (.inl h)
theorem sqT_at {K : PySem.W.Frag} {H : Hp} {a : Addr} {xs : List V} (h : H a = some (.tup xs)) : SqT K H a xs := .inl (.inl h)
theorem tyl {K : PySem.W.Frag} {H : Hp} {a : Addr} {xs : List V} (h : H a = some (.lst xs)) : tyV K "list" (.ref a) H := .inl ⟨rfl, _, .inl (.inl h)⟩
theorem sz0 : 0 ≤ sizeLine := Nat.zero_le _
theorem sz1 : 1 ≤ sizeLine := by decide
theorem sz2 : 2 ≤ sizeLine := by decide
theorem sz3 : 3 ≤ sizeLine := by decide
theorem sz4 : 4 ≤ sizeLine := by decide
theorem sz5 : 5 ≤ sizeLine := by decide
theorem sz8 : 8 ≤ sizeLine := by decide
/-! ### texts of the values -/
/-- None, an int or a text -/
def Sc (v : V) : Prop := v = .non ∨ isVal v = true
theorem Sc.cases {v : V} (h : Sc v) : v = .non ∨ (∃ i, v = .int i) ∨ ∃ x, v = .str x := by
  rcases h with h | h
  · exact .inl h
  · cases v with
    | int i => exact .inr (.inl ⟨i, rfl⟩)
    | str x => exact .inr (.inr ⟨x, rfl⟩)
    | _ => cases h
theorem isVal.sc {v : V} (h : isVal v = true) : Sc v := .inr h
theorem isVal.ne {v : V} (h : isVal v = true) : v ≠ .non := fun e => by rw [e] at h; cases h
/-! ### rows -/
section
variable {K : PySem.W.Frag} {U : Tbs} {M : Addr → Prop} {H H1 : Hp} {a : Addr}
/-- the pairs, each a tracked tuple -/
def Prt (H : Hp) (ps : List Pr) : Prop := ∀ p ∈ ps, H p.1 = some (.tup [.str p.2.1, p.2.2])
theorem Prt.kp {ps : List Pr} (h : Prt H ps) (k : Kp U M H H1) : Prt H1 ps := fun p m => k.tup (h p m)
theorem Prt.prs {ps : List Pr} (h : Prt H ps) : Prs K H ps := fun p m => sqT_at (h p m)
theorem Prt.perm {ps qs : List Pr} (h : Prt H ps) (p : qs.Perm ps) : Prt H qs := fun x m => h x (p.mem_iff.mp m)
def LeafAt (H : Hp) (a : Addr) (m : Nat) (ps : List Pr) : Prop := ∃ q, H a = some (.tup [.str "leaf", .int m, .ref q]) ∧ FzT H q (ps.map prV) ∧ Prt H ps
def four (ns : Fin 4 → Nat) : List V := [.int (ns 0), .int (ns 1), .int (ns 2), .int (ns 3)]
def ForkAt (H : Hp) (a : Addr) (ns : Fin 4 → Nat) : Prop := ∃ q, H a = some (.tup [.str "fork", .ref q]) ∧ H q = some (.tup (four ns))
theorem LeafAt.kp {m : Nat} {ps : List Pr} (h : LeafAt H a m ps) (k : Kp U M H H1) : LeafAt H1 a m ps := let ⟨q, h1, h2, h3⟩ := h; ⟨q, k.tup h1, h2.kp k, h3.kp k⟩
theorem ForkAt.kp {ns : Fin 4 → Nat} (h : ForkAt H a ns) (k : Kp U M H H1) : ForkAt H1 a ns := let ⟨q, h1, h2⟩ := h; ⟨q, k.tup h1, k.tup h2⟩
theorem prV_inj : ∀ {ps qs : List Pr}, ps.map prV = qs.map prV → Prt H ps → Prt H qs → ps = qs
  | [], [], _, _, _ => rfl
  | [], _ :: _, h, _, _ => by cases h
  | _ :: _, [], h, _, _ => by cases h
  | p :: ps, q :: qs, h, h1, h2 => by
    rw [List.map_cons, List.map_cons] at h
    injection h with e1 e2
    injection e1 with e3
    have x1 := h1 p (List.mem_cons_self ..)
    have x2 := h2 q (List.mem_cons_self ..)
    rw [e3] at x1
    rw [x1] at x2
    injection x2 with x3
    injection x3 with x4
    injection x4 with x5 x6
    injection x5 with x7
    injection x6 with x8
    obtain ⟨p1, p2, p3⟩ := p
    obtain ⟨q1, q2, q3⟩ := q
    simp only at e3 x7 x8
    rw [e3, x7, x8, prV_inj e2 (fun x m => h1 x (List.mem_cons_of_mem _ m)) fun x m => h2 x (List.mem_cons_of_mem _ m)]
theorem LeafAt.inj {m m' : Nat} {ps ps' : List Pr} (h : LeafAt H a m ps) (h' : LeafAt H a m' ps') : m = m' ∧ ps = ps' := by
  obtain ⟨q, h1, ⟨o, h2, _⟩, h3⟩ := h
  obtain ⟨q', h1', ⟨o', h2', _⟩, h3'⟩ := h'
  rw [h1] at h1'
  injection h1' with e
  injection e with e
  injection e with _ e
  injection e with e1 e
  injection e with e2 _
  injection e1 with e1
  injection e2 with e2
  subst e2
  rw [h2] at h2'
  injection h2' with e
  injection e with _ e
  injection e with e
  exact ⟨by omega, prV_inj e h3 h3'⟩
theorem ForkAt.inj {ns ns' : Fin 4 → Nat} (h : ForkAt H a ns) (h' : ForkAt H a ns') : ns = ns' := by
  obtain ⟨q, h1, h2⟩ := h
  obtain ⟨q', h1', h2'⟩ := h'
  rw [h1] at h1'
  injection h1' with e
  injection e with e
  injection e with _ e
  injection e with e _
  injection e with e
  subst e
  rw [h2] at h2'
  injection h2' with e
  injection e with e
  simp only [four, List.cons.injEq, V.int.injEq, and_true] at e
  obtain ⟨e0, e1, e2, e3⟩ := e
  funext d
  rcases fin4 d with z | z | z | z <;> rw [z] <;> omega
theorem LeafAt.no {m : Nat} {ps : List Pr} {ns : Fin 4 → Nat} (h : LeafAt H a m ps) (h' : ForkAt H a ns) : False := by
  obtain ⟨q, h1, _⟩ := h
  obtain ⟨q', h1', _⟩ := h'
  rw [h1] at h1'
  injection h1' with e
  injection e with e
  injection e with _ e
  injection e with e _
  cases e
/-- the row n of as shows the tree t -/
def Rep (H : Hp) (as : List V) : RS.T → Nat → Prop
  | .bare, n => n = 0
  | .leaf m ps, n => n ≠ 0 ∧ ∃ a qs, as[n]? = some (.ref a) ∧ LeafAt H a m qs ∧ qs.map (·.2) = ps
  | .fork f, n => n ≠ 0 ∧ ∃ a ns, as[n]? = some (.ref a) ∧ ForkAt H a ns ∧ ∀ d, Rep H as (f d) (ns d)
theorem Rep.kp {as : List V} (k : Kp U M H H1) : ∀ {t : RS.T} {n : Nat}, Rep H as t n → Rep H1 as t n
  | .bare, _, h => h
  | .leaf m ps, n, ⟨h0, a, qs, h1, h2, h3⟩ => ⟨h0, a, qs, h1, h2.kp k, h3⟩
  | .fork f, n, ⟨h0, a, ns, h1, h2, h3⟩ => ⟨h0, a, ns, h1, h2.kp k, fun d => Rep.kp k (h3 d)⟩
theorem Rep.app {as : List V} (bs : List V) : ∀ {t : RS.T} {n : Nat}, Rep H as t n → Rep H (as ++ bs) t n
  | .bare, _, h => h
  | .leaf m ps, n, ⟨h0, a, qs, h1, h2⟩ => ⟨h0, a, qs, by rw [List.getElem?_append_left (List.getElem?_eq_some_iff.mp h1).1]; exact h1, h2⟩
  | .fork f, n, ⟨h0, a, ns, h1, h2, h3⟩ => ⟨h0, a, ns, by rw [List.getElem?_append_left (List.getElem?_eq_some_iff.mp h1).1]; exact h1, h2, fun d => Rep.app bs (h3 d)⟩
/-- a row's number is within the rows -/
theorem Rep.lt {as : List V} (h0 : 0 < as.length) : ∀ {t : RS.T} {n : Nat}, Rep H as t n → n < as.length
  | .bare, _, h => by rw [show _ = 0 from h]; exact h0
  | .leaf m ps, n, ⟨_, a, qs, h1, _⟩ => (List.getElem?_eq_some_iff.mp h1).1
  | .fork f, n, ⟨_, a, ns, h1, _⟩ => (List.getElem?_eq_some_iff.mp h1).1
/-- one row shows one tree -/
theorem Rep.inj {as : List V} : ∀ {t u : RS.T} {n : Nat}, Rep H as t n → Rep H as u n → t = u
  | .bare, .bare, _, _, _ => rfl
  | .bare, .leaf _ _, _, h, h' => absurd h h'.1
  | .bare, .fork _, _, h, h' => absurd h h'.1
  | .leaf _ _, .bare, _, h, h' => absurd h' h.1
  | .fork _, .bare, _, h, h' => absurd h' h.1
  | .leaf m ps, .leaf m' ps', n, ⟨_, a, qs, h1, h2, h3⟩, ⟨_, a', qs', h1', h2', h3'⟩ => by
    rw [h1] at h1'
    injection h1' with e
    injection e with e
    subst e
    obtain ⟨e1, e2⟩ := h2.inj h2'
    rw [← h3, ← h3', e1, e2]
  | .leaf m ps, .fork f, n, ⟨_, a, qs, h1, h2, h3⟩, ⟨_, a', ns, h1', h2', h3'⟩ => by
    rw [h1] at h1'
    injection h1' with e
    injection e with e
    subst e
    exact (h2.no h2').elim
  | .fork f, .leaf m ps, n, ⟨_, a, ns, h1, h2, h3⟩, ⟨_, a', qs, h1', h2', h3'⟩ => by
    rw [h1] at h1'
    injection h1' with e
    injection e with e
    subst e
    exact (h2'.no h2).elim
  | .fork f, .fork f', n, ⟨_, a, ns, h1, h2, h3⟩, ⟨_, a', ns', h1', h2', h3'⟩ => by
    rw [h1] at h1'
    injection h1' with e
    injection e with e
    subst e
    have e2 := h2.inj h2'
    subst e2
    have e3 : f = f' := funext fun d => Rep.inj (h3 d) (h3' d)
    rw [e3]
end
end RS

/-! text D1 -/
set_option Elab.async false
set_option linter.all false
set_option maxRecDepth 100000
set_option maxHeartbeats 1000000
/-! The small defs: marks, nodes told apart. -/
namespace RS
open PySem PySem.Spec PyProof.Rows L2
theorem sc_alike : FnScope ["one", "other"] ["one", "other"] (defScope s_alike) := ⟨rfl, rfl, rfl, by decide +kernel, rfl, by decide +kernel, by decide +kernel⟩
theorem sc_digit : FnScope ["number", "level", "turn"] ["number", "level"] (defScope s_digit) := ⟨rfl, rfl, rfl, by decide +kernel, rfl, by decide +kernel, by decide +kernel⟩
theorem sc_is_leaf : FnScope ["node"] ["node"] (defScope s_is_leaf) := ⟨rfl, rfl, rfl, by decide +kernel, rfl, by decide +kernel, by decide +kernel⟩
theorem sc_is_fork : FnScope ["node"] ["node"] (defScope s_is_fork) := ⟨rfl, rfl, rfl, by decide +kernel, rfl, by decide +kernel, by decide +kernel⟩
theorem sc_parts_of : FnScope ["node"] ["node"] (defScope s_parts_of) := ⟨rfl, rfl, rfl, by decide +kernel, rfl, by decide +kernel, by decide +kernel⟩
variable {P : Program} {w : World} {K : PySem.W.Frag} {mg : Str → Option Value} {base : Heap}
theorem kit_str {K : PySem.W.Frag} (t : String) (h : kitB t "str" = some (decide (t = "str"))) : PySem.W.kitOne K (.type t) (.type "str") = some (decide (t = "str")) := h
def spAlike : Sp := fun vs H Q _ => ∃ x y, vs = [x, y] ∧ Sc x ∧ Sc y ∧ Q (.bl (decide (x = y))) H
theorem d_alike_ok (T : Tx K mg base) : Df P w K mg base CX0 1 (gA K "alike") spAlike := by
  refine df0 T.F_alike sc_alike (fun _ _ _ _ _ _ us hl => match us, hl with | [_, _], _ => rfl) (fun vs H Q E ⟨x, y, h, _⟩ => by rw [h]; rfl) fun cd A outer s H vs Q E hr h => ?_
  obtain ⟨x, y, rfl, hx, hy, q⟩ := h
  refine ⟨_, (pss_cons (ps_if (pw_or (pt_cmpR op_isN (pv 0) pe_non rfl) (pw_or1 (pt_cmpR op_isN (pv 1) pe_non rfl))).pt (pss_one (ps_ret (pe_and (pe_cmpR op_isN (pv 0) pe_non rfl) (pe_one (pe_cmpR op_isN (pv 1) pe_non rfl))))) pss_nil)
    (pss_one (ps_ret (pe_and (pe_cmpR op_eq (pe_callB call_isi rfl T.b_isinstance (by decide +kernel) (pa_cons (pv 0) (pa_cons (pe_gty rfl T.b_str boot_str) pa_nil))) (pe_callB call_isi rfl T.b_isinstance (by decide +kernel) (pa_cons (pv 1) (pa_cons (pe_gty rfl T.b_str boot_str) pa_nil))) rfl) (pe_one (pe_cmpR op_eq (pv 0) (pv 1) rfl)))))), ?_⟩
  have ki : PySem.W.kitOne K (.type "int") (.type "str") = some (decide ("int" = "str")) := kit_ty (by decide +kernel)
  have ks : PySem.W.kitOne K (.type "str") (.type "str") = some (decide ("str" = "str")) := kit_ty (by decide +kernel)
  rcases hx.cases with rfl | ⟨i, rfl⟩ | ⟨i, rfl⟩ <;> rcases hy.cases with rfl | ⟨j, rfl⟩ | ⟨j, rfl⟩
  · exact ⟨_, rfl, rfl, true, rfl, _, rfl, rfl, true, rfl, _, rfl, rfl, q⟩
  · exact ⟨_, rfl, rfl, true, rfl, _, rfl, rfl, true, rfl, _, rfl, rfl, q⟩
  · exact ⟨_, rfl, rfl, true, rfl, _, rfl, rfl, true, rfl, _, rfl, rfl, q⟩
  · exact ⟨_, rfl, rfl, false, rfl, _, rfl, rfl, true, rfl, _, rfl, rfl, false, rfl, q⟩
  · refine ⟨_, rfl, rfl, false, rfl, _, rfl, rfl, false, rfl, _, rfl, _, _, _, _, _, rfl, .ty "str", .base (.int _), ki, _, rfl, _, _, _, _, _, rfl, .ty "str", .base (.int _), ki, rfl, true, rfl, _, rfl, _, rfl, rfl, ?_⟩
    exact q
  · refine ⟨_, rfl, rfl, false, rfl, _, rfl, rfl, false, rfl, _, rfl, _, _, _, _, _, rfl, .ty "str", .base (.int _), ki, _, rfl, _, _, _, _, _, rfl, .ty "str", .base (.str _), ks, rfl, false, rfl, ?_⟩
    exact q
  · exact ⟨_, rfl, rfl, false, rfl, _, rfl, rfl, true, rfl, _, rfl, rfl, false, rfl, q⟩
  · refine ⟨_, rfl, rfl, false, rfl, _, rfl, rfl, false, rfl, _, rfl, _, _, _, _, _, rfl, .ty "str", .base (.str _), ks, _, rfl, _, _, _, _, _, rfl, .ty "str", .base (.int _), ki, rfl, false, rfl, ?_⟩
    exact q
  · refine ⟨_, rfl, rfl, false, rfl, _, rfl, rfl, false, rfl, _, rfl, _, _, _, _, _, rfl, .ty "str", .base (.str _), ks, _, rfl, _, _, _, _, _, rfl, .ty "str", .base (.str _), ks, rfl, true, rfl, _, rfl, _, rfl, rfl, ?_⟩
    exact q
def spDigit : Sp := fun vs H Q _ => ∃ m l : Nat, vs = [.int m, .int l] ∧ l ≤ 10 ∧ Q (.int (dig m l).val) H
theorem d_digit_ok (T : Tx K mg base) : Df P w K mg base CX0 1 (gA K "digit") spDigit := by
  refine df0 T.F_digit sc_digit (fun _ _ _ _ _ _ us hl => match us, hl with | [_, _], _ => rfl) (fun vs H Q E ⟨x, y, h, _⟩ => by rw [h]; rfl) fun cd A outer s H vs Q E hr h => ?_
  obtain ⟨m, l, rfl, hl, q⟩ := h
  refine ⟨_, (pss_cons (ps_for PassesOwn.never rfl (pi_range1 rfl T.b_range (pa_cons (pv 1) pa_nil)) (pg_name (i := 2) sc_digit.nd rfl (.inl rfl)) (pss_one (ps_aug (i := 0) sc_digit.nd rfl (.inl rfl) (pe_gi rfl T.i_BASE) iop_fdiv)))
    (pss_one (ps_ret (pe_op op_mod (pv 0) (pe_gi rfl T.i_BASE))))), ?_⟩
  refine ⟨_, rfl, l, rfl, by omega, by omega, ?_⟩
  refine for_range (fun i σ H' => ∃ z, σ = [some (.int (m / 4 ^ i : Nat)), some (.int l), z] ∧ H' = H) ⟨_, by rw [Nat.pow_zero, Nat.div_one]; rfl, rfl⟩ (fun i σ H' hi p => ?_) fun σ H' p => ?_
  · obtain ⟨z, rfl, rfl⟩ := p
    refine ⟨_, rfl, _, 4, rfl, rfl, ⟨by decide, by decide⟩, some (.int (0 + (i : Int))), ?_, rfl⟩
    rw [Nat.pow_succ, ← Nat.div_div_eq_div_mul]
    rfl
  · obtain ⟨z, rfl, rfl⟩ := p
    refine ⟨_, rfl, _, 4, rfl, rfl, (by decide : (0 : Int) < 4), ?_⟩
    have e : ((m / 4 ^ l : Nat) : Int) % 4 = ((dig m l).val : Nat) := by rw [dig_val]; omega
    show Q (.int (((m / 4 ^ l : Nat) : Int) % 4)) H'
    rw [e]
    exact q
def spTag (x0 : Str) : Sp := fun vs H Q _ => ∃ a x r, vs = [.ref a] ∧ H a = some (.tup (.str x :: r)) ∧ Q (.bl (decide (x = x0))) H
def spTag2 (K : PySem.W.Frag) (x0 : Str) : Sp := fun vs H Q _ => ∃ a x r, vs = [.ref a] ∧ SqT K H a (.str x :: r) ∧ Q (.bl (decide (x = x0))) H
theorem at0 {x : V} {r : List V} : atI (x :: r) 0 = some x := by
  unfold atI ixN
  simp
theorem dec_str {x y : Str} : decide (V.str x = V.str y) = decide (x = y) := decide_eq_decide.mpr ⟨fun h => by injection h, fun h => by rw [h]⟩
theorem d_is_leaf_ok (T : Tx K mg base) : Df P w K mg base CX0 1 (gA K "is_leaf") (spTag2 K "leaf") := by
  refine df0 T.F_is_leaf sc_is_leaf (fun _ _ _ _ _ _ us hl => match us, hl with | [_], _ => rfl) (fun vs H Q E ⟨a, x, r, h, _⟩ => by rw [h]; rfl) fun cd A outer s H vs Q E hr h => ?_
  obtain ⟨a, x, r, rfl, hT, q⟩ := h
  refine ⟨_, (pss_one (ps_ret (pe_cmpR op_eq (pe_ix ix_tup (pv 0) pe_int (fun _ _ => rfl)) pe_str rfl))), ?_⟩
  exact ⟨_, rfl, a, _, 0, .str x, rfl, rfl, hT, at0, rfl, by rw [dec_str]; exact q⟩
theorem d_is_fork_ok (T : Tx K mg base) : Df P w K mg base CX0 1 (gA K "is_fork") (spTag2 K "fork") := by
  refine df0 T.F_is_fork sc_is_fork (fun _ _ _ _ _ _ us hl => match us, hl with | [_], _ => rfl) (fun vs H Q E ⟨a, x, r, h, _⟩ => by rw [h]; rfl) fun cd A outer s H vs Q E hr h => ?_
  obtain ⟨a, x, r, rfl, hT, q⟩ := h
  refine ⟨_, (pss_one (ps_ret (pe_cmpR op_eq (pe_ix ix_tup (pv 0) pe_int (fun _ _ => rfl)) pe_str rfl))), ?_⟩
  exact ⟨_, rfl, a, _, 0, .str x, rfl, rfl, hT, at0, rfl, by rw [dec_str]; exact q⟩
end RS

/-! text D2 -/
set_option Elab.async false
set_option linter.all false
set_option maxRecDepth 100000
set_option maxHeartbeats 1000000
/-! mark; the pairs of a leaf; the parts of a fork. -/
namespace RS
open PySem PySem.Spec PyProof.Rows L2
theorem sc_mark : FnScope ["name", "place", "sign"] ["name"] (defScope s_mark) := ⟨rfl, rfl, rfl, by decide +kernel, rfl, by decide +kernel, by decide +kernel⟩
theorem sc_value_in : FnScope ["node", "name", "other", "value"] ["node", "name"] (defScope s_value_in) := ⟨rfl, rfl, rfl, by decide +kernel, rfl, by decide +kernel, by decide +kernel⟩
theorem sc_pairs_without : FnScope ["pairs", "name", "pair"] ["pairs", "name"] (defScope s_pairs_without) := ⟨rfl, rfl, rfl, by decide +kernel, rfl, by decide +kernel, by decide +kernel⟩
variable {P : Program} {w : World} {K : PySem.W.Frag} {mg : Str → Option Value} {base : Heap}
theorem occ_all : ∀ d : _root_.Fin 26, Builtin.Str.occurrences "abcdefghijklmnopqrstuvwxyz" ⟨#[97 + d.val]⟩ 0 (Str.length "abcdefghijklmnopqrstuvwxyz") 1 = [d.val] := by decide +kernel
theorem occ_sign {c : Nat} (h : 97 ≤ c ∧ c ≤ 122) : Builtin.Str.occurrences "abcdefghijklmnopqrstuvwxyz" ⟨#[c]⟩ 0 (Str.length "abcdefghijklmnopqrstuvwxyz") 1 = [c - 97] := by
  have z := occ_all ⟨c - 97, by omega⟩
  have e : 97 + (c - 97) = c := by omega
  simp only [e] at z
  exact z
def prodL : Nat → List Nat → List Int
  | _, [] => []
  | i, c :: r => ((i * (c - 96) : Nat) : Int) :: prodL (i + 1) r
theorem prodL_snoc (c : Nat) : ∀ (l : List Nat) (i : Nat), prodL i (l ++ [c]) = prodL i l ++ [(((i + l.length) * (c - 96) : Nat) : Int)]
  | [], i => rfl
  | d :: r, i => by
    show _ :: prodL (i + 1) (r ++ [c]) = _ :: (prodL (i + 1) r ++ _)
    rw [prodL_snoc c r (i + 1), List.length_cons, show i + 1 + r.length = i + (r.length + 1) by omega]
theorem prodL_sum : ∀ (l : List Nat) (i : Nat), (prodL i l).sum = (markL i l : Nat)
  | [], _ => rfl
  | c :: r, i => by
    show ((i * (c - 96) : Nat) : Int) + (prodL (i + 1) r).sum = ((i * (c - 96) + markL (i + 1) r : Nat) : Int)
    rw [prodL_sum r (i + 1)]
    omega
theorem prodL_len : ∀ (l : List Nat) (i : Nat), (prodL i l).length = l.length
  | [], _ => rfl
  | c :: r, i => congrArg (· + 1) (prodL_len r (i + 1))
def spMark (K : PySem.W.Frag) : Sp := fun vs H Q _ => ∃ x, vs = [.str x] ∧ GoodN x ∧ ∀ H', KQ K M0 H H' → Q (.int (markN x : Nat)) H'
theorem d_mark_ok (T : Tx K mg base) : Df P w K mg base CX0 1 (gA K "mark") (spMark K) := by
  refine df0 T.F_mark sc_mark (fun _ _ _ _ _ _ us hl => match us, hl with | [_], _ => rfl) (fun vs H Q E ⟨x, h, _⟩ => by rw [h]; rfl) fun cd A outer s H vs Q E hr h => ?_
  obtain ⟨x, rfl, g, q⟩ := h
  refine ⟨_, (pss_one (ps_ret (pe_callB (cr_sum rfl) rfl T.b_sum (by decide +kernel) (pa_cons (pe_lc rfl sc_mark.nd (pi_enumTxt rfl T.b_enumerate (pa_cons (pv 0) pa_nil) pe_int) (blkOk_by (own := [("place", 1), ("sign", 2)]) (by kernel_rfl)) (fun _ _ _ _ _ => (pg_tupK K 2 rfl (pgs_cons (pg_name (i := 1) sc_mark.nd rfl (.inl rfl) (.inr rfl)) (pgs_cons (pg_name (i := 2) sc_mark.nd rfl (.inl rfl) (.inr rfl)) pgs_nil)))) (fun _ _ _ _ _ => pts_nil) (fun _ _ _ _ _ => (pe_op op_mul (pv 1) (pe_op op_add (pe_m1 PySem.F.slot_str_index PySem.F.type_str_index mt_sindex (pe_gs rfl T.s_LETTERS) (pv 2)) pe_int)))) pa_nil)))), ?_⟩
  refine ⟨_, rfl, x, 1, rfl, rfl, by decide, by decide, fun D nD => ?_⟩
  have hsz : x.cps.toList.length = x.cps.size := Array.length_toList
  refine ⟨fun i m H' => m = x.cps.size - i ∧ i ≤ x.cps.size ∧ KQ K M0 H H' ∧ H' D = some (.lst ((prodL 1 (x.cps.toList.take i)).map V.int)), ⟨_, rfl, Nat.zero_le _, Kp.refl.new nD, upd_same⟩, fun i m H' hW => ?_⟩
  obtain ⟨rfl, hi, kp, hD⟩ := hW
  by_cases hlt : i < x.cps.size
  · refine .inr ⟨hlt, fun H2 => i + 1 ≤ x.cps.size ∧ KQ K M0 H H2 ∧ H2 D = some (.lst ((prodL 1 (x.cps.toList.take (i + 1))).map V.int)), fun H2 p => ⟨_, by omega, rfl, p.1, p.2.1, p.2.2⟩, fun v H2 hy => ?_⟩
    obtain ⟨Tt, c, rfl, nT, hc, rfl⟩ := hy
    have hcl : x.cps.toList[i]? = some c := by rw [Array.getElem?_toList]; exact hc
    have hcr := g.az c (List.mem_of_getElem? hcl)
    refine ⟨Tt, _, rfl, sqT_new, rfl, _, _, rfl, _, _, rfl, rfl, rfl, ?_⟩
    refine ⟨_, rfl, ⟨_, rfl⟩, _, rfl, _, _, c - 97, [], rfl, rfl, occ_sign hcr, _, _, rfl, rfl, ?_⟩
    refine ⟨_, _, rfl, rfl, .inr ⟨by omega, by omega⟩, _, by rw [upd_ne (ne_of_none hD nT)]; exact hD, ?_, hlt, ?_, ?_⟩
    · rw [List.length_map, prodL_len, List.length_take]
      exact sz_lt (by have := g.le; omega)
    · exact (kp.new nT).mutL (.of nD) (by rw [upd_ne (ne_of_none hD nT)]; exact hD)
    · rw [upd_same, List.take_add_one, hcl, Option.toList_some, prodL_snoc, List.map_append, List.length_take, hsz, Nat.min_eq_left hi]
      have e : ((1 : Int) + (i : Nat)) * (((c - 97 : Nat) : Int) + 1) = (((1 + i) * (c - 96) : Nat) : Int) := by
        have e1 : ((c - 97 : Nat) : Int) + 1 = ((c - 96 : Nat) : Int) := by omega
        have e2 : (1 : Int) + (i : Nat) = ((1 + i : Nat) : Int) := by omega
        rw [e1, e2]
        rfl
      rw [← e]
      rfl
  · have e : i = x.cps.size := by omega
    subst e
    refine .inl ⟨Nat.le_refl _, D, _, rfl, sqL_at hD, ?_⟩
    rw [← hsz, List.take_length, prodL_sum]
    exact q _ kp
/-! ### the pairs of a leaf -/
def valP (ps : List Pr) (n : Str) : Option V := val (ps.map (·.2)) n
def spValue (K : PySem.W.Frag) : Sp := fun vs H Q _ => ∃ a n, vs = [.ref a, .str n] ∧ ((∃ m ps, LeafAt H a m ps ∧ Q ((valP ps n).getD .non) H) ∨ ∃ x r, SqT K H a (.str x :: r) ∧ x ≠ "leaf" ∧ Q .non H)
theorem at2 {x y z : V} {r : List V} : atI (x :: y :: z :: r) 2 = some z := by
  unfold atI ixN
  rw [List.length_cons, List.length_cons, List.length_cons, if_pos (by omega), if_pos (by omega)]
  rfl
theorem at1 {x y : V} {r : List V} : atI (x :: y :: r) 1 = some y := by
  unfold atI ixN
  rw [List.length_cons, List.length_cons, if_pos (by omega), if_pos (by omega)]
  rfl
theorem dec_strT {x y : Str} (h : x = y) : decide (V.str x = V.str y) = true := by rw [dec_str]; exact decide_eq_true h
theorem dec_strF {x y : Str} (h : x ≠ y) : decide (V.str x = V.str y) = false := by rw [dec_str]; exact decide_eq_false h
theorem d_value_in_ok (T : Tx K mg base) : Df P w K mg base CX0 2 (gA K "value_in") (spValue K) := by
  have h_is_leaf := d_is_leaf_ok (P := P) (w := w) T
  refine df0 T.F_value_in sc_value_in (fun _ _ _ _ _ _ us hl => match us, hl with | [_, _], _ => rfl) (fun vs H Q E ⟨a, n, h, _⟩ => by rw [h]; rfl) fun cd A outer s H vs Q E hr h => ?_
  obtain ⟨a, n, rfl, h⟩ := h
  refine ⟨_, (pss_cons (ps_if (pt_not (pt_val (pe_c h_is_leaf (hr.mono (by decide)) T.g_is_leaf (pa_cons (pv 0) pa_nil)))) (pss_one (ps_ret pe_non)) pss_nil)
    (pss_cons (ps_for PassesOwn.never rfl (pi_tup (pe_ix ix_tup (pv 0) pe_int (fun _ _ => rfl))) (pg_tup rfl (pgs_cons (pg_name (i := 2) sc_value_in.nd rfl (.inl rfl)) (pgs_cons (pg_name (i := 3) sc_value_in.nd rfl (.inl rfl)) pgs_nil))) (pss_one (ps_if (pt_cmpR op_eq (pv 2) (pv 1) rfl) (pss_one (ps_ret (pv 3))) pss_nil)))
    (pss_one (ps_ret pe_non)))), ?_⟩
  rcases h with ⟨m, ps, ⟨q, hN, hF, hp⟩, hq⟩ | ⟨x, r, hN, hx, hq⟩
  · refine ⟨_, rfl, a, "leaf", _, rfl, sqT_at hN, _, rfl, ?_⟩
    rw [decide_eq_true rfl]
    refine ⟨_, rfl, a, _, 2, .ref q, rfl, rfl, sqT_at hN, at2, q, rfl, ⟨_, hF.sq⟩, ?_⟩
    refine for_tup (xs := ps.map prV) (fun i σ H' => ∃ z1 z2, σ = [some (.ref a), some (.str n), z1, z2] ∧ H' = H ∧ val ((ps.map (·.2)).drop i) n = valP ps n) ⟨_, _, rfl, rfl, rfl⟩ (fun i σ H' _ p => by obtain ⟨_, _, _, rfl, _⟩ := p; exact hF.sq) (fun i x σ H' hx p => ?_) fun σ H' p => ?_
    · obtain ⟨z1, z2, rfl, rfl, hv⟩ := p
      rw [List.getElem?_map] at hx
      cases hi : ps[i]? with
      | none => rw [hi] at hx; cases hx
      | some pr =>
        rw [hi] at hx
        cases hx
        have hil : i < ps.length := (List.getElem?_eq_some_iff.mp hi).1
        have hd : (ps.map (·.2)).drop i = pr.2 :: (ps.map (·.2)).drop (i + 1) := by
          rw [List.drop_eq_getElem_cons (by rw [List.length_map]; exact hil), List.getElem_map]
          rw [(List.getElem?_eq_some_iff.mp hi).2]
        rw [hd, val] at hv
        refine ⟨pr.1, [.str pr.2.1, pr.2.2], rfl, sqT_at (hp pr (List.mem_of_getElem? hi)), rfl, _, _, rfl, _, _, rfl, rfl, ?_⟩
        refine ⟨_, rfl, _, rfl, rfl, _, rfl, ?_⟩
        by_cases e : pr.2.1 = n
        · rw [dec_strT e]
          rw [if_pos e] at hv
          refine ⟨_, rfl, ?_⟩
          rw [← hv] at hq
          exact hq
        · rw [dec_strF e]
          rw [if_neg e] at hv
          exact ⟨_, _, rfl, rfl, hv⟩
    · obtain ⟨z1, z2, rfl, rfl, hv⟩ := p
      rw [List.length_map, List.drop_of_length_le (by rw [List.length_map]; exact Nat.le_refl _)] at hv
      rw [← hv] at hq
      exact hq
  · refine ⟨_, rfl, a, x, _, rfl, hN, _, rfl, ?_⟩
    rw [decide_eq_false hx]
    exact hq
/-- what a list made of pairs keeps -/
def PairsOut (K : PySem.W.Frag) (H : Hp) (Q : VK) (R : List Pr → Prop) : Prop := ∀ H' l qs, KQ K M0 H H' → NN H l → H' l = some (.lst (qs.map prV)) → Prt H' qs → R qs → Q (.ref l) H'
def spWithout (K : PySem.W.Frag) : Sp := fun vs H Q _ => ∃ a n ps, vs = [.ref a, .str n] ∧ SqT K H a (ps.map prV) ∧ Prt H ps ∧ ps.length ≤ 1000 ∧ PairsOut K H Q fun qs => qs = ps.filter fun p => decide (p.2.1 ≠ n)
theorem take_filter {α : Type} (f : α → Bool) {l : List α} {i : Nat} {x : α} (h : l[i]? = some x) : (l.take (i + 1)).filter f = (l.take i).filter f ++ if f x = true then [x] else [] := by
  rw [List.take_add_one, h, Option.toList_some, List.filter_append]
  congr 1
  by_cases e : f x = true
  · rw [if_pos e, List.filter_cons_of_pos e]; rfl
  · rw [if_neg e, List.filter_cons_of_neg e]; rfl
theorem filter_le {α : Type} (f : α → Bool) (l : List α) (i : Nat) : ((l.take i).filter f).length ≤ l.length := Nat.le_trans (List.length_filter_le _ _) (by rw [List.length_take]; exact Nat.min_le_right _ _)
theorem d_pairs_without_ok (T : Tx K mg base) : Df P w K mg base CX0 1 (gA K "pairs_without") (spWithout K) := by
  refine df0 T.F_pairs_without sc_pairs_without (fun _ _ _ _ _ _ us hl => match us, hl with | [_, _], _ => rfl) (fun vs H Q E ⟨a, n, ps, h, _⟩ => by rw [h]; rfl) fun cd A outer s H vs Q E hr h => ?_
  obtain ⟨a, n, ps, rfl, hS, hp, hl, q⟩ := h
  refine ⟨_, (pss_one (ps_ret (pe_lc rfl sc_pairs_without.nd (pi_tup (pv 0)) (blkOk_by (own := [("pair", 2)]) (by kernel_rfl)) (fun _ _ _ _ _ => (pg_name (i := 2) sc_pairs_without.nd rfl (.inl rfl) (.inr rfl))) (fun _ _ _ _ _ => (pts_one (pt_cmpR op_ne (pe_ix (ix_tupK K) (pv 2) pe_int (fun _ _ => rfl)) (pv 1) rfl))) (fun _ _ _ _ _ => (pv 2))))), ?_⟩
  refine ⟨_, rfl, a, rfl, ⟨_, hS⟩, fun D nD => ?_⟩
  refine lc_tup (xs := ps.map prV) (fun i H' => KQ K M0 H H' ∧ H' D = some (.lst (((ps.take i).filter fun p => decide (p.2.1 ≠ n)).map prV))) ⟨Kp.refl.new nD, upd_same⟩ (fun i H' _ p => p.1.sqT hS) (fun i x H' hx p => ?_) fun H' p => ?_
  · obtain ⟨kp, hD⟩ := p
    rw [List.getElem?_map] at hx
    cases hi : ps[i]? with
    | none => rw [hi] at hx; cases hx
    | some pr =>
      rw [hi] at hx
      cases hx
      refine ⟨rfl, _, rfl, pr.1, _, 0, .str pr.2.1, rfl, rfl, sqT_at ((hp.kp kp) pr (List.mem_of_getElem? hi)), at0, _, rfl, rfl, _, rfl, ?_⟩
      rw [take_filter _ hi]
      by_cases e : pr.2.1 = n
      · rw [dec_strT e]
        have e2 : decide (pr.2.1 ≠ n) = false := decide_eq_false fun z => z e
        rw [e2, if_neg Bool.false_ne_true, List.append_nil]
        exact ⟨kp, hD⟩
      · rw [dec_strF e]
        have e2 : decide (pr.2.1 ≠ n) = true := decide_eq_true e
        rw [e2, if_pos rfl]
        refine ⟨_, rfl, _, hD, ?_, kp.mutL (.of nD) hD, by rw [upd_same, List.map_append]; rfl⟩
        rw [List.length_map]
        exact sz_lt (Nat.lt_of_le_of_lt (filter_le _ _ _) (by omega))
  · obtain ⟨kp, hD⟩ := p
    rw [List.length_map, List.take_length] at hD
    exact q H' D _ kp (.of nD) hD (fun x m => (hp.kp kp) x (List.mem_filter.mp m).1) rfl
end RS

/-! text D3 -/
set_option Elab.async false
set_option linter.all false
set_option maxRecDepth 100000
set_option maxHeartbeats 1000000
/-! pairs_with; parts. -/
namespace RS
open PySem PySem.Spec PyProof.Rows L2
theorem sc_pairs_with : FnScope ["pairs", "name", "value", "pair"] ["pairs", "name", "value"] (defScope s_pairs_with) := ⟨rfl, rfl, rfl, by decide +kernel, rfl, by decide +kernel, by decide +kernel⟩
theorem sc_with_part : FnScope ["parts", "at", "part"] ["parts", "at", "part"] (defScope s_with_part) := ⟨rfl, rfl, rfl, by decide +kernel, rfl, by decide +kernel, by decide +kernel⟩
variable {P : Program} {w : World} {K : PySem.W.Frag} {mg : Str → Option Value} {base : Heap}
theorem tt_one (T : Tx K mg base) : ∀ p ∈ TT K, p.1 = (He.cT K ("pairs_with", none)).2 → p.2 = ("pairs_with.<locals>.<lambda>" : Str) := fun p m e => by
  rcases List.mem_cons.mp m with rfl | m
  · rfl
  · rw [List.mem_singleton.mp m] at e
    exact absurd e.symm T.two
theorem tt_two (T : Tx K mg base) : ∀ p ∈ TT K, p.1 = (He.cT K ("Store", some "pairs")).2 → p.2 = ("Store.pairs.<locals>.<lambda>" : Str) := fun p m e => by
  rcases List.mem_cons.mp m with rfl | m
  · exact absurd e T.two
  · rw [List.mem_singleton.mp m]
def spWith (K : PySem.W.Frag) : Sp := fun vs H Q _ => ∃ a n v ps, vs = [.ref a, .str n, v] ∧ SqT K H a (ps.map prV) ∧ Prt H ps ∧ ps.length ≤ 40 ∧ LamX.Tabs (TT K) H ∧ PairsOut K H Q fun qs => (qs.map (·.2)).Perm (((ps.map (·.2)).filter fun q => decide (q.1 ≠ n)) ++ [(n, v)])
theorem d_pairs_with_ok (T : Tx K mg base) : Df P w K mg base CX0 1 (gA K "pairs_with") (spWith K) := by
  refine df0c (c := ("pairs_with", none)) T.F_pairs_with sc_pairs_with (fun _ _ _ _ _ _ us hl => match us, hl with | [_, _, _], _ => rfl) (fun vs H Q E ⟨a, n, v, ps, h, _⟩ => by rw [h]; rfl) fun A outer s H vs Q E hr h => ?_
  obtain ⟨a, n, v, ps, rfl, hS, hp, hl, hT, q⟩ := h
  have TBx := T.tb ("pairs_with", none) (by decide)
  have hmT : ((He.cT K ("pairs_with", none)).2, ("pairs_with.<locals>.<lambda>" : Str)) ∈ TT K := List.mem_cons_self ..
  have hu := tt_one T
  refine ⟨_, (pss_one (ps_ret (pe_sortKey (T := TT K) rfl T.b_sorted (pa_cons (pe_op op_cat (pe_lc rfl sc_pairs_with.nd (pi_tup (pv 0)) (blkOk_by (own := [("pair", 3)]) (by kernel_rfl)) (fun _ _ _ _ _ => (pg_name (i := 3) sc_pairs_with.nd rfl (.inl rfl) (.inr rfl))) (fun _ _ _ _ _ => (pts_one (pt_cmpR op_ne (pe_ix (ix_tupK K) (pv 3) pe_int (fun _ _ => rfl)) (pv 1) rfl))) (fun _ _ _ _ _ => (pv 3))) (pe_lst (pa_cons (pe_tup (pa_cons (pv 1) (pa_cons (pv 2) pa_nil))) pa_nil))) pa_nil) TBx rfl hmT hu hr))), ?_⟩
  refine ⟨_, rfl, a, rfl, ⟨_, hS⟩, fun D nD => ?_⟩
  refine lc_tup (xs := ps.map prV) (fun i H' => KQ K M0 H H' ∧ H' D = some (.lst (((ps.take i).filter fun p => decide (p.2.1 ≠ n)).map prV))) ⟨Kp.refl.new nD, upd_same⟩ (fun i H' _ p => p.1.sqT hS) (fun i x H' hx p => ?_) fun H' p => ?_
  · obtain ⟨kp, hD⟩ := p
    rw [List.getElem?_map] at hx
    cases hi : ps[i]? with
    | none => rw [hi] at hx; cases hx
    | some pr =>
      rw [hi] at hx
      cases hx
      refine ⟨rfl, _, rfl, pr.1, _, 0, .str pr.2.1, rfl, rfl, sqT_at ((hp.kp kp) pr (List.mem_of_getElem? hi)), at0, _, rfl, rfl, _, rfl, ?_⟩
      rw [take_filter _ hi]
      by_cases e : pr.2.1 = n
      · rw [dec_strT e]
        have e2 : decide (pr.2.1 ≠ n) = false := decide_eq_false fun z => z e
        rw [e2, if_neg Bool.false_ne_true, List.append_nil]
        exact ⟨kp, hD⟩
      · rw [dec_strF e]
        have e2 : decide (pr.2.1 ≠ n) = true := decide_eq_true e
        rw [e2, if_pos rfl]
        refine ⟨_, rfl, _, hD, ?_, kp.mutL (.of nD) hD, by rw [upd_same, List.map_append]; rfl⟩
        rw [List.length_map]
        exact sz_lt (Nat.lt_of_le_of_lt (filter_le _ _ _) (by omega))
  · obtain ⟨kp, hD⟩ := p
    rw [List.length_map, List.take_length] at hD
    have hfl : (ps.filter fun p => decide (p.2.1 ≠ n)).length ≤ 40 := Nat.le_trans (List.length_filter_le _ _) hl
    refine ⟨_, rfl, _, rfl, sz2, fun t nt => ⟨sz1, fun l nl => ?_⟩⟩
    have hD1 : upd (upd H' t (.tup [.str n, v])) l (.lst [.ref t]) D = some (.lst ((ps.filter fun p => decide (p.2.1 ≠ n)).map prV)) := by
      rw [upd_ne (ne_of_none (by rw [upd_ne (ne_of_none hD nt)]; exact hD) nl), upd_ne (ne_of_none hD nt)]
      exact hD
    refine ⟨D, l, _, _, rfl, rfl, hD1, upd_same, ?_, fun c nc => ?_⟩
    · rw [List.length_map]
      exact sz_le (by show _ + 1 ≤ _; omega)
    have kp3 : KQ K M0 H _ := ((kp.new nt).new nl).new nc (o := .lst ((ps.filter fun p => decide (p.2.1 ≠ n)).map prV ++ [V.ref t]))
    have kt : KQ K M0 H' _ := ((Kp.refl.new nt).new nl).new nc (o := .lst ((ps.filter fun p => decide (p.2.1 ≠ n)).map prV ++ [V.ref t]))
    have hpt : Prt (upd (upd (upd H' t (.tup [.str n, v])) l (.lst [.ref t])) c (.lst ((ps.filter fun p => decide (p.2.1 ≠ n)).map prV ++ [V.ref t]))) ((ps.filter fun p => decide (p.2.1 ≠ n)) ++ [(t, n, v)]) := fun x m => by
      rcases List.mem_append.mp m with m | m
      · exact (hp.kp kp3) x (List.mem_filter.mp m).1
      · rw [List.mem_singleton.mp m]
        have k2 : KQ K M0 (upd H' t (.tup [.str n, v])) _ := (Kp.refl.new nl).new nc (o := .lst ((ps.filter fun p => decide (p.2.1 ≠ n)).map prV ++ [V.ref t]))
        exact k2.tup upd_same
    refine ⟨kp3.t hT, c, (ps.filter fun p => decide (p.2.1 ≠ n)) ++ [(t, n, v)], rfl, sqL_at (by rw [upd_same, List.map_append]; rfl), by rw [List.length_append]; show _ + 1 < 64; omega, hpt.prs, fun H2 e qs eN T2 hq hs nE => ?_⟩
    have kp4 := (kp3.lam eN T2).new nE (o := .lst (qs.map prV))
    have kq : KQ K M0 _ _ := ((Kp.refl (M := M0)).lam eN T2).new nE (o := .lst (qs.map prV))
    refine q _ e qs kp4 ((kp3.lam eN T2).nn nE) upd_same ((hpt.kp kq).perm hq) ?_
    have z := hq.map (·.2)
    rw [List.map_append] at z
    rw [List.filter_map]
    exact z
/-- what a tuple made keeps -/
def TupOut (K : PySem.W.Frag) (H : Hp) (Q : VK) (xs : List V) : Prop := ∀ H' q, KQ K M0 H H' → H' q = some (.tup xs) → Q (.ref q) H'
theorem sl_lo (n k : Nat) (h : k ≤ n) : HT.sIx n 0 none = 0 ∧ HT.sIx n n (some (k : Int)) = k := ⟨rfl, by rw [HT.sIx_nat, Nat.min_eq_left h]⟩
def setF (ns : Fin 4 → Nat) (d : Fin 4) (p : Nat) : Fin 4 → Nat := fun e => if e = d then p else ns e
theorem cat_out {H : Hp} {a b : Addr} {xs ys : List V} {Q : VK} (ha : H a = some (.tup xs)) (hb : H b = some (.tup ys)) (hl : xs.length + ys.length ≤ sizeLine) (q : ∀ H' e, KQ K M0 H H' → H' e = some (.tup (xs ++ ys)) → Q (.ref e) H') : rCatA K (.ref a) (.ref b) H Q :=
  ⟨a, b, xs, ys, rfl, rfl, sqT_at ha, sqT_at hb, hl, fun e => q H b Kp.refl (by rw [e]; exact hb), fun _ e => q H a Kp.refl (by rw [e, List.append_nil]; exact ha), fun _ _ p np => q _ p (Kp.refl.new np) upd_same⟩
def spPart (K : PySem.W.Frag) : Sp := fun vs H Q _ => ∃ (a : Addr) (ns : Fin 4 → Nat) (d : Fin 4) (p : Nat), vs = [.ref a, .int d.val, .int p] ∧ SqT K H a (four ns) ∧ TupOut K H Q (four (setF ns d p))
theorem cut_four (ns : Fin 4 → Nat) (d : Fin 4) : cutV (four ns) none (some (d.val : Int)) = (four ns).take d.val ∧ cutV (four ns) (some ((d.val : Int) + 1)) none = (four ns).drop (d.val + 1) := by
  have e : ((d.val : Int) + 1) = ((d.val + 1 : Nat) : Int) := by omega
  have hd := d.isLt
  unfold cutV
  rw [e, HT.sIx_nat, HT.sIx_nat, HT.sIx_none, HT.sIx_none]
  show (List.drop 0 (four ns)).take (min d.val 4 - 0) = _ ∧ (List.drop (min (d.val + 1) 4) (four ns)).take (4 - min (d.val + 1) 4) = _
  rw [Nat.min_eq_left (by omega), Nat.min_eq_left (by omega), List.drop_zero, Nat.sub_zero]
  refine ⟨rfl, List.take_of_length_le ?_⟩
  rw [List.length_drop]
  show 4 - _ ≤ _
  omega
theorem four_set (ns : Fin 4 → Nat) (d : Fin 4) (p : Nat) : (four ns).take d.val ++ [V.int p] ++ (four ns).drop (d.val + 1) = four (setF ns d p) := by
  rcases fin4 d with e | e | e | e <;> subst e <;> rfl
theorem d_with_part_ok (T : Tx K mg base) : Df P w K mg base CX0 1 (gA K "with_part") (spPart K) := by
  refine df0 T.F_with_part sc_with_part (fun _ _ _ _ _ _ us hl => match us, hl with | [_, _, _], _ => rfl) (fun vs H Q E ⟨a, ns, d, p, h, _⟩ => by rw [h]; rfl) fun cd A outer s H vs Q E hr h => ?_
  obtain ⟨a, ns, d, p, rfl, hS, q⟩ := h
  refine ⟨_, (pss_one (ps_ret (pe_op op_catA (pe_op op_catA (pe_slice sl_tupA (pv 0) po_none (po_some (pv 1))) (pe_tup (pa_cons (pv 2) pa_nil))) (pe_slice sl_tupA (pv 0) (po_some (pe_op op_add (pv 1) pe_int)) po_none)))), ?_⟩
  have hd := d.isLt
  obtain ⟨c1, c2⟩ := cut_four ns d
  have nw1 : ¬ (HT.sIx (four ns).length 0 none = 0 ∧ HT.sIx (four ns).length (four ns).length (some (d.val : Int)) = (four ns).length) := fun z => by
    rw [HT.sIx_nat] at z
    have z2 : min d.val 4 = 4 := z.2
    omega
  have nw2 : ¬ (HT.sIx (four ns).length 0 (some ((d.val : Int) + 1)) = 0 ∧ HT.sIx (four ns).length (four ns).length none = (four ns).length) := fun z => by
    rw [show ((d.val : Int) + 1) = ((d.val + 1 : Nat) : Int) by omega, HT.sIx_nat] at z
    have z2 : min (d.val + 1) 4 = 0 := z.1
    omega
  refine ⟨_, rfl, _, rfl, _, rfl, a, four ns, rfl, hS, fun z => absurd z nw1, fun _ b nb => ?_⟩
  rw [c1]
  refine ⟨_, rfl, sz1, fun c nc => ?_⟩
  have k1 : KQ K M0 H (upd H b (.tup ((four ns).take d.val))) := Kp.refl.new nb
  have k2 : KQ K M0 (upd H b (.tup ((four ns).take d.val))) (upd (upd H b (.tup ((four ns).take d.val))) c (.tup [.int p])) := Kp.refl.new nc
  refine cat_out (k2.tup upd_same) upd_same (by rw [List.length_take]; exact sz_le (by show min d.val 4 + 1 ≤ _; omega)) fun H2 e k3 he => ?_
  have k03 := (k1.trans k2).trans k3
  refine ⟨_, rfl, _, rfl, _, _, rfl, rfl, _, rfl, ?_⟩
  refine ⟨a, four ns, rfl, k03.sqT hS, fun z => absurd z nw2, fun _ f nf => ?_⟩
  rw [c2]
  have k4 : KQ K M0 H2 (upd H2 f (.tup ((four ns).drop (d.val + 1)))) := Kp.refl.new nf
  refine cat_out (k4.tup he) upd_same (by rw [List.length_append, List.length_take, List.length_drop]; exact sz_le (by show min d.val 4 + 1 + (4 - (d.val + 1)) ≤ _; omega)) fun H3 g k5 hg => ?_
  rw [four_set] at hg
  exact q H3 g ((k03.trans k4).trans k5) hg
end RS

/-! text D4 -/
set_option Elab.async false
set_option linter.all false
set_option maxRecDepth 100000
set_option maxHeartbeats 1000000
/-! The rows of a store: Nodes. -/
namespace RS
open PySem PySem.Spec PyProof.Rows L2
theorem sc_Nodes_init : FnScope ["self"] ["self"] (defScope s_Nodes_init) := ⟨rfl, rfl, rfl, by decide +kernel, rfl, by decide +kernel, by decide +kernel⟩
theorem sc_Nodes_at : FnScope ["self", "number"] ["self", "number"] (defScope s_Nodes_at) := ⟨rfl, rfl, rfl, by decide +kernel, rfl, by decide +kernel, by decide +kernel⟩
theorem sc_Nodes_many : FnScope ["self"] ["self"] (defScope s_Nodes_many) := ⟨rfl, rfl, rfl, by decide +kernel, rfl, by decide +kernel, by decide +kernel⟩
theorem sc_Nodes_make : FnScope ["self", "node"] ["self", "node"] (defScope s_Nodes_make) := ⟨rfl, rfl, rfl, by decide +kernel, rfl, by decide +kernel, by decide +kernel⟩
theorem sc_Nodes_leaf : FnScope ["self", "mark", "pairs"] ["self", "mark", "pairs"] (defScope s_Nodes_leaf) := ⟨rfl, rfl, rfl, by decide +kernel, rfl, by decide +kernel, by decide +kernel⟩
theorem sc_Nodes_fork : FnScope ["self", "parts"] ["self", "parts"] (defScope s_Nodes_fork) := ⟨rfl, rfl, rfl, by decide +kernel, rfl, by decide +kernel, by decide +kernel⟩
theorem sc_Nodes_pairs_in : FnScope ["self", "number", "found", "waiting", "node"] ["self", "number"] (defScope s_Nodes_pairs_in) := ⟨rfl, rfl, rfl, by decide +kernel, rfl, by decide +kernel, by decide +kernel⟩
variable {P : Program} {w : World} {K : PySem.W.Frag} {mg : Str → Option Value} {base : Heap}
def InsA (H : Hp) (a C : Addr) (fs : List (Str × V)) : Prop := ∃ dx, H a = some (.ins C dx fs)
theorem InsA.kp {H H1 : Hp} {a C : Addr} {fs : List (Str × V)} {T : Tbs} {M : Addr → Prop} (h : InsA H a C fs) (k : Kp T M H H1) : InsA H1 a C fs := let ⟨dx, e⟩ := h; ⟨dx, k.ins e⟩
/-- the nodes at a: their rows' list at rows -/
structure NodA (K : PySem.W.Frag) (H : Hp) (a rows : Addr) (as : List V) : Prop where
  obj : InsA H a (gA K "Nodes") [("rows", .ref rows)]
  lst : H rows = some (.lst as)
theorem NodA.kp {H H1 : Hp} {a rows : Addr} {as : List V} {T : Tbs} {M : Addr → Prop} (h : NodA K H a rows as) (k : Kp T M H H1) (n : ¬ M rows) : NodA K H1 a rows as := ⟨h.obj.kp k, k.lst h.lst n⟩
theorem NodA.k0 {H H1 : Hp} {a rows : Addr} {as : List V} (h : NodA K H a rows as) (k : KQ K M0 H H1) : NodA K H1 a rows as := h.kp k id
def spNInit (K : PySem.W.Frag) : Sp := fun vs H Q _ => ∃ x dx, vs = [.ref x] ∧ H x = some (.ins (gA K "Nodes") dx []) ∧ ∀ r, H r = none → Q .non (upd (upd H r (.lst [.ref (gA K "FIRST")])) x (.ins (gA K "Nodes") dx [("rows", .ref r)]))
theorem d_Nodes_init_ok (T : Tx K mg base) : Df P w K mg base CX0 1 (mA K "Nodes" "__init__") (spNInit K) := by
  refine df0 T.F_Nodes_init sc_Nodes_init (fun _ _ _ _ _ _ us hl => match us, hl with | [_], _ => rfl) (fun vs H Q E ⟨x, dx, h, _⟩ => by rw [h]; rfl) fun cd A outer s H vs Q E hr h => ?_
  obtain ⟨x, dx, rfl, hx, q⟩ := h
  refine ⟨_, (pss_one (ps_fld (pv 0) (pe_lst (pa_cons (pe_gr rfl T.g_FIRST) pa_nil)) rfl)), ?_⟩
  exact ⟨sz1, fun r nr => ⟨_, rfl, x, _, dx, [], rfl, by rw [upd_ne (ne_of_none hx nr)]; exact hx, T.cl_Nodes, T.na_Nodes_rows, by decide, q r nr⟩⟩
def spNAt (K : PySem.W.Frag) : Sp := fun vs H Q _ => ∃ a rows as n v, vs = [.ref a, .int (n : Nat)] ∧ NodA K H a rows as ∧ as[n]? = some v ∧ Q v H
theorem atN {α : Type} {xs : List α} {n : Nat} {v : α} (h : xs[n]? = some v) : atI xs (n : Int) = some v := by
  have hl := (List.getElem?_eq_some_iff.mp h).1
  unfold atI ixN
  rw [if_pos (by omega), if_pos (by omega)]
  exact h
theorem d_Nodes_at_ok (T : Tx K mg base) : Df P w K mg base CX0 1 (mA K "Nodes" "at") (spNAt K) := by
  refine df0 T.F_Nodes_at sc_Nodes_at (fun _ _ _ _ _ _ us hl => match us, hl with | [_, _], _ => rfl) (fun vs H Q E ⟨_, _, _, _, _, h, _⟩ => by rw [h]; rfl) fun cd A outer s H vs Q E hr h => ?_
  obtain ⟨a, rows, as, n, v, rfl, ⟨⟨dx, ho⟩, hl⟩, hn, q⟩ := h
  refine ⟨_, (pss_one (ps_ret (pe_ix ix_list (pe_fld (pv 0) rfl) (pv 1) (fun _ _ => rfl)))), ?_⟩
  exact ⟨_, rfl, a, _, dx, _, _, rfl, ho, T.cl_Nodes, T.na_Nodes_rows, rfl, _, rfl, rows, as, n, v, rfl, rfl, sqL_at hl, atN hn, q⟩
def spNMany (K : PySem.W.Frag) : Sp := fun vs H Q _ => ∃ a rows as, vs = [.ref a] ∧ NodA K H a rows as ∧ Q (.int as.length) H
theorem d_Nodes_many_ok (T : Tx K mg base) : Df P w K mg base CX0 1 (mA K "Nodes" "many") (spNMany K) := by
  refine df0 T.F_Nodes_many sc_Nodes_many (fun _ _ _ _ _ _ us hl => match us, hl with | [_], _ => rfl) (fun vs H Q E ⟨_, _, _, h, _⟩ => by rw [h]; rfl) fun cd A outer s H vs Q E hr h => ?_
  obtain ⟨a, rows, as, rfl, ⟨⟨dx, ho⟩, hl⟩, q⟩ := h
  refine ⟨_, (pss_one (ps_ret (pe_callB call_len_seq rfl T.b_len boot_len (pa_cons (pe_fld (pv 0) rfl) pa_nil)))), ?_⟩
  exact ⟨_, rfl, a, _, dx, _, _, rfl, ho, T.cl_Nodes, T.na_Nodes_rows, rfl, rows, as, rfl, .inl (sqL_at hl), q⟩
def spNMake (K : PySem.W.Frag) : Sp := fun vs H Q _ => ∃ a rows as v, vs = [.ref a, v] ∧ NodA K H a rows as ∧ as.length < 90000 ∧ Q (.int as.length) (upd H rows (.lst (as ++ [v])))
theorem d_Nodes_make_ok (T : Tx K mg base) : Df P w K mg base CX0 1 (mA K "Nodes" "make") (spNMake K) := by
  refine df0 T.F_Nodes_make sc_Nodes_make (fun _ _ _ _ _ _ us hl => match us, hl with | [_, _], _ => rfl) (fun vs H Q E ⟨_, _, _, _, h, _⟩ => by rw [h]; rfl) fun cd A outer s H vs Q E hr h => ?_
  obtain ⟨a, rows, as, v, rfl, ⟨⟨dx, ho⟩, hl⟩, hz, q⟩ := h
  refine ⟨_, (pss_cons (ps_expr (pe_bm PySem.F.plainAttrs_list PySem.F.slot_list_append PySem.F.type_list_append mt_append (pe_fld (pv 0) rfl) (pa_cons (pv 1) pa_nil)))
    (pss_one (ps_ret (pe_op op_sub (pe_callB call_len_seq rfl T.b_len boot_len (pa_cons (pe_fld (pv 0) rfl) pa_nil)) pe_int)))), ?_⟩
  have ho2 : upd H rows (.lst (as ++ [v])) a = some (.ins (gA K "Nodes") dx [("rows", .ref rows)]) := by
    rw [upd_ne (ne_of ho hl fun z => nomatch z)]
    exact ho
  refine ⟨_, rfl, a, _, dx, _, _, rfl, ho, T.cl_Nodes, T.na_Nodes_rows, rfl, tyl hl, _, rfl, rows, as, v, rfl, rfl, hl, sz_lt (by omega), ?_⟩
  refine ⟨_, rfl, a, _, dx, _, _, rfl, ho2, T.cl_Nodes, T.na_Nodes_rows, rfl, rows, _, rfl, .inl (sqL_at upd_same), _, _, rfl, rfl, ?_⟩
  show Q (.int (((as ++ [v]).length : Int) - 1)) _
  rw [show (((as ++ [v]).length : Int) - 1) = ((as.length : Nat) : Int) by rw [List.length_append]; show (((as.length + 1 : Nat) : Int) - 1) = _; omega]
  exact q
abbrev Only (a : Addr) : Addr → Prop := fun b => b = a
/-- behind a row made: its object b -/
def RowOut (K : PySem.W.Frag) (H : Hp) (Q : VK) (rows : Addr) (as : List V) (R : Hp → Addr → Prop) : Prop := ∀ H' b, KQ K (Only rows) H H' → H' rows = some (.lst (as ++ [.ref b])) → R H' b → Q (.int as.length) H'
def spNLeaf (K : PySem.W.Frag) : Sp := fun vs H Q _ => ∃ (a rows : Addr) (as : List V) (m : Nat) (l : Addr) (ps : List Pr), vs = [.ref a, .int m, .ref l] ∧ NodA K H a rows as ∧ as.length < 90000 ∧ H l = some (.lst (ps.map prV)) ∧ l ≠ rows ∧ Prt H ps ∧ RowOut K H Q rows as fun H' b => LeafAt H' b m ps
theorem d_Nodes_leaf_ok (T : Tx K mg base) : Df P w K mg base CX0 2 (mA K "Nodes" "leaf") (spNLeaf K) := by
  have h_Nodes_make := d_Nodes_make_ok (P := P) (w := w) T
  refine df0 T.F_Nodes_leaf sc_Nodes_leaf (fun _ _ _ _ _ _ us hl => match us, hl with | [_, _, _], _ => rfl) (fun vs H Q E ⟨_, _, _, _, _, _, h, _⟩ => by rw [h]; rfl) fun cd A outer s H vs Q E hr h => ?_
  obtain ⟨a, rows, as, m, l, ps, rfl, N, hz, hl, hlr, hp, q⟩ := h
  refine ⟨_, (pss_one (ps_ret (pe_m h_Nodes_make (hr.mono (by decide)) T.cl_Nodes T.me_Nodes_make (pv 0) (pa_cons (pe_tup (pa_cons pe_str (pa_cons (pv 1) (pa_cons (pe_callTy call_tupF rfl T.b_tuple (by decide +kernel) (pa_cons (pv 2) pa_nil)) pa_nil)))) pa_nil)))), ?_⟩
  obtain ⟨dx, ho⟩ := N.obj
  refine ⟨_, rfl, a, dx, _, rfl, ho, rfl, _, rfl, _, rfl, l, _, rfl, sqL_at hl, fun t o nt hoc hod => ⟨sz3, fun b nb => ?_⟩⟩
  have k1 : KQ K M0 H (upd H t (.frz o (.tup (ps.map prV)))) := Kp.refl.new nt
  have k2 : KQ K M0 (upd H t (.frz o (.tup (ps.map prV)))) (upd (upd H t (.frz o (.tup (ps.map prV)))) b (.tup [.str "leaf", .int m, .ref t])) := Kp.refl.new nb
  have N2 := (N.k0 k1).k0 k2
  refine ⟨a, rows, as, .ref b, rfl, N2, hz, ?_⟩
  have k3 : KQ K (Only rows) _ (upd _ rows (.lst (as ++ [V.ref b]))) := Kp.refl.updL rfl N2.lst
  refine q _ b (((k1.trans k2).m0).trans k3) upd_same ⟨t, k3.tup upd_same, (FzT.kp (FzT.kp ⟨o, upd_same, hoc, hod⟩ k2) k3), ((hp.kp k1).kp k2).kp k3⟩
def spNFork (K : PySem.W.Frag) : Sp := fun vs H Q _ => ∃ a rows as q ns, vs = [.ref a, .ref q] ∧ NodA K H a rows as ∧ as.length < 90000 ∧ H q = some (.tup (four ns)) ∧ RowOut K H Q rows as fun H' b => ForkAt H' b ns
theorem d_Nodes_fork_ok (T : Tx K mg base) : Df P w K mg base CX0 2 (mA K "Nodes" "fork") (spNFork K) := by
  have h_Nodes_make := d_Nodes_make_ok (P := P) (w := w) T
  refine df0 T.F_Nodes_fork sc_Nodes_fork (fun _ _ _ _ _ _ us hl => match us, hl with | [_, _], _ => rfl) (fun vs H Q E ⟨_, _, _, _, _, h, _⟩ => by rw [h]; rfl) fun cd A outer s H vs Q E hr h => ?_
  obtain ⟨a, rows, as, t, ns, rfl, N, hz, ht, q⟩ := h
  refine ⟨_, (pss_one (ps_ret (pe_m h_Nodes_make (hr.mono (by decide)) T.cl_Nodes T.me_Nodes_make (pv 0) (pa_cons (pe_tup (pa_cons pe_str (pa_cons (pe_callTy call_tuple_of rfl T.b_tuple (by decide +kernel) (pa_cons (pv 1) pa_nil)) pa_nil))) pa_nil)))), ?_⟩
  obtain ⟨dx, ho⟩ := N.obj
  refine ⟨_, rfl, a, dx, _, rfl, ho, rfl, _, rfl, t, _, rfl, .inr ⟨sqT_at ht, ⟨sz2, fun b nb => ?_⟩⟩⟩
  have k2 : KQ K M0 H (upd H b (.tup [.str "fork", .ref t])) := Kp.refl.new nb
  have N2 := N.k0 k2
  refine ⟨a, rows, as, .ref b, rfl, N2, hz, ?_⟩
  have k3 : KQ K (Only rows) _ (upd _ rows (.lst (as ++ [V.ref b]))) := Kp.refl.updL rfl N2.lst
  exact q _ b (k2.m0.trans k3) upd_same ⟨t, k3.tup upd_same, k3.tup (k2.tup ht)⟩
end RS

/-! text D5 -/
set_option Elab.async false
set_option linter.all false
set_option maxRecDepth 100000
set_option maxHeartbeats 1000000
/-! Nodes.pairs_in; the parts of a node. -/
namespace RS
open PySem PySem.Spec PyProof.Rows L2
variable {P : Program} {w : World} {K : PySem.W.Frag} {mg : Str → Option Value} {base : Heap}
theorem tg_ff : decide (("fork" : Str) = "fork") = true := by decide +kernel
theorem tg_ll : decide (("leaf" : Str) = "leaf") = true := by decide +kernel
theorem tg_lf : decide (("leaf" : Str) = "fork") = false := by decide +kernel
theorem tg_fl : decide (("fork" : Str) = "leaf") = false := by decide +kernel
theorem tg_bf : decide (("bare" : Str) = "fork") = false := by decide +kernel
theorem tg_bl : decide (("bare" : Str) = "leaf") = false := by decide +kernel
abbrev Nt := Nat × RS.T
def ntV (p : Nt) : V := .int p.1
def szs (ws : List Nt) : Nat := (ws.map fun p => p.2.sz).sum
theorem szs_app (a b : List Nt) : szs (a ++ b) = szs a + szs b := by unfold szs; rw [List.map_append, List.sum_append]
theorem szs_len : ∀ ws : List Nt, ws.length ≤ szs ws
  | [] => Nat.le_refl _
  | p :: r => by
    have := szs_len r
    have := p.2.sz_pos
    show r.length + 1 ≤ p.2.sz + szs r
    omega
def psW (ws : List Nt) : List (Str × V) := ws.flatMap fun p => p.2.ps
theorem psW_app (a b : List Nt) : psW (a ++ b) = psW a ++ psW b := List.flatMap_append
def kids (f : Fin 4 → RS.T) (ns : Fin 4 → Nat) : List Nt := [(ns 0, f 0), (ns 1, f 1), (ns 2, f 2), (ns 3, f 3)]
theorem kids_ps (f : Fin 4 → RS.T) (ns : Fin 4 → Nat) : psW (kids f ns) = (RS.T.fork f).ps := by
  show (f 0).ps ++ ((f 1).ps ++ ((f 2).ps ++ ((f 3).ps ++ []))) = _
  rw [List.append_nil]
  rfl
theorem kids_sz (f : Fin 4 → RS.T) (ns : Fin 4 → Nat) : szs (kids f ns) + 1 = (RS.T.fork f).sz := by
  show (f 0).sz + ((f 1).sz + ((f 2).sz + ((f 3).sz + 0))) + 1 = 1 + ((f 0).sz + (f 1).sz + (f 2).sz + (f 3).sz)
  omega
theorem kids_V (f : Fin 4 → RS.T) (ns : Fin 4 → Nat) : (kids f ns).map ntV = four ns := rfl
theorem kids_rep {H : Hp} {as : List V} {f : Fin 4 → RS.T} {ns : Fin 4 → Nat} (h : ∀ d, Rep H as (f d) (ns d)) : ∀ p ∈ kids f ns, Rep H as p.2 p.1 := fun p m => by
  rcases List.mem_cons.mp m with rfl | m
  · exact h 0
  rcases List.mem_cons.mp m with rfl | m
  · exact h 1
  rcases List.mem_cons.mp m with rfl | m
  · exact h 2
  rw [List.mem_singleton.mp m]
  exact h 3
theorem last_at {α : Type} (a : List α) (x : α) : (a ++ [x])[(a ++ [x]).length - 1]? = some x := by
  rw [List.length_append, List.length_singleton, Nat.add_sub_cancel, List.getElem?_append_right (Nat.le_refl _), Nat.sub_self]
  rfl
theorem snoc_cases {α : Type} (l : List α) : l = [] ∨ ∃ a x, l = a ++ [x] := by
  cases h : l.reverse with
  | nil => exact .inl (List.reverse_eq_nil_iff.mp h)
  | cons x r => exact .inr ⟨r.reverse, x, by rw [← List.reverse_cons, ← h, List.reverse_reverse]⟩
def spPairsIn (K : PySem.W.Frag) : Sp := fun vs H Q _ => ∃ (a rows : Addr) (as : List V) (n : Nat) (t : RS.T), vs = [.ref a, .int n] ∧ NodA K H a rows as ∧ as[0]? = some (.ref (gA K "FIRST")) ∧ Rep H as t n ∧ t.sz ≤ 1365 ∧ t.ps.length ≤ 100 ∧ PairsOut K H Q fun qs => (qs.map (·.2)).Perm t.ps
theorem d_Nodes_pairs_in_ok (T : Tx K mg base) : Df P w K mg base CX0 3 (mA K "Nodes" "pairs_in") (spPairsIn K) := by
  have h_Nodes_at := d_Nodes_at_ok (P := P) (w := w) T
  have h_is_fork := d_is_fork_ok (P := P) (w := w) T
  have h_is_leaf := d_is_leaf_ok (P := P) (w := w) T
  refine df0 T.F_Nodes_pairs_in sc_Nodes_pairs_in (fun _ _ _ _ _ _ us hl => match us, hl with | [_, _], _ => rfl) (fun vs H Q E ⟨_, _, _, _, _, h, _⟩ => by rw [h]; rfl) fun cd A outer s H vs Q E hr h => ?_
  obtain ⟨a, rows, as, n, t, rfl, N, hB, hR, hsz, hps, q⟩ := h
  refine ⟨_, (pss_cons (ps_set (i := 2) sc_Nodes_pairs_in.nd rfl (.inl rfl) (pe_lst pa_nil))
    (pss_cons (ps_set (i := 3) sc_Nodes_pairs_in.nd rfl (.inl rfl) (pe_lst (pa_cons (pv 1) pa_nil)))
    (pss_cons (ps_while PassesOwn.never (pt_cmpR op_gt (pe_callB call_len_seq rfl T.b_len boot_len (pa_cons (pv 3) pa_nil)) pe_int rfl) (pss_cons (ps_set (i := 4) sc_Nodes_pairs_in.nd rfl (.inl rfl) (pe_m h_Nodes_at (hr.mono (by decide)) T.cl_Nodes T.me_Nodes_at (pv 0) (pa_cons (pe_bm0 PySem.F.plainAttrs_list PySem.F.slot_list_pop PySem.F.type_list_pop mt_pop (pv 3)) pa_nil)))
    (pss_one (ps_if (pt_val (pe_c h_is_fork (hr.mono (by decide)) T.g_is_fork (pa_cons (pv 4) pa_nil))) (pss_one (ps_expr (pe_bm PySem.F.plainAttrs_list PySem.F.slot_list_extend PySem.F.type_list_extend mt_ext2 (pv 3) (pa_cons (pe_ix ix_tup (pv 4) pe_int (fun _ _ => rfl)) pa_nil)))) (pss_one (ps_if (pt_val (pe_c h_is_leaf (hr.mono (by decide)) T.g_is_leaf (pa_cons (pv 4) pa_nil))) (pss_one (ps_expr (pe_bm PySem.F.plainAttrs_list PySem.F.slot_list_extend PySem.F.type_list_extend mt_ext2 (pv 2) (pa_cons (pe_ix ix_tup (pv 4) pe_int (fun _ _ => rfl)) pa_nil)))) pss_nil))))))
    (pss_one (ps_ret (pv 2)))))), ?_⟩
  refine ⟨sz0, fun f nf => ⟨_, rfl, sz1, fun wt nw => ?_⟩⟩
  have hf0 : upd (upd H f (.lst [])) wt (.lst [.int n]) f = some (.lst []) := by rw [upd_ne (ne_of_none upd_same nw)]; exact upd_same
  have nnw : NN H wt := (Kp.nn (T := TT K) (M := M0) (Kp.refl.new nf) nw)
  refine ⟨fun m σ H' => ∃ z ws qs, σ = [some (.ref a), some (.int n), some (.ref f), some (.ref wt), z] ∧ KQ K M0 H H' ∧ H' f = some (.lst (qs.map prV)) ∧ H' wt = some (.lst (ws.map ntV)) ∧ (∀ p ∈ ws, Rep H as p.2 p.1) ∧ Prt H' qs ∧ (qs.map (·.2) ++ psW ws).Perm t.ps ∧ m = szs ws ∧ m ≤ 1365,
    ⟨t.sz, _, [(n, t)], [], rfl, (Kp.refl.new nf).new nw, hf0, upd_same, fun p m => by rw [List.mem_singleton.mp m]; exact hR, (fun _ m => nomatch m), by show (t.ps ++ []).Perm t.ps; rw [List.append_nil], by show t.sz = t.sz + 0; rfl, hsz⟩, fun m σ H' hW => ?_⟩
  obtain ⟨z, ws, qs, rfl, kp, hf, hw, hr', hq, hperm, rfl, hm⟩ := hW
  have fw : f ≠ wt := fun e => by rw [e, hw] at hf; rw [e] at hf0; exact absurd nw (by rw [e] at nf; rw [e, upd_same]; exact fun z => nomatch z)
  have hql : qs.length ≤ 100 := by
    have z := hperm.length_eq
    rw [List.length_append, List.length_map] at z
    omega
  refine ⟨_, rfl, wt, _, rfl, .inl (sqL_at hw), _, _, rfl, rfl, _, rfl, ?_⟩
  rcases snoc_cases ws with rfl | ⟨ws', ⟨n1, t1⟩, rfl⟩
  · refine ⟨_, rfl, ?_⟩
    refine q H' f qs kp (.of nf) hf hq ?_
    have e : psW [] = [] := rfl
    rw [e, List.append_nil] at hperm
    exact hperm
  · have hpos : decide ((0 : Int) < (((ws' ++ [(n1, t1)]).map ntV).length : Nat)) = true := decide_eq_true (by rw [List.length_map, List.length_append]; show (0 : Int) < ((ws'.length + 1 : Nat) : Int); omega)
    rw [hpos]
    have hsz' : szs (ws' ++ [(n1, t1)]) = szs ws' + t1.sz := by rw [szs_app]; rfl
    have hlen : ws'.length ≤ szs ws' := szs_len ws'
    have ht1 := t1.sz_pos
    have hR1 : Rep H as t1 n1 := hr' (n1, t1) (List.mem_append_right _ (List.mem_singleton.mpr rfl))
    have hRw : ∀ p ∈ ws', Rep H as p.2 p.1 := fun p m => hr' p (List.mem_append_left _ m)
    refine ⟨fun σ2 H2 => ∃ z ws qs, σ2 = [some (.ref a), some (.int n), some (.ref f), some (.ref wt), z] ∧ KQ K M0 H H2 ∧ H2 f = some (.lst (qs.map prV)) ∧ H2 wt = some (.lst (ws.map ntV)) ∧ (∀ p ∈ ws, Rep H as p.2 p.1) ∧ Prt H2 qs ∧ (qs.map (·.2) ++ psW ws).Perm t.ps ∧ szs ws < szs (ws' ++ [(n1, t1)]),
      fun σ2 H2 ⟨z, ws2, qs2, e1, e2, e3, e4, e5, e6, e7, e8⟩ => ⟨szs ws2, e8, z, ws2, qs2, e1, e2, e3, e4, e5, e6, e7, rfl, by omega⟩, ?_⟩
    have hdl : (((ws' ++ [(n1, t1)]).map ntV)).dropLast = ws'.map ntV := by rw [List.map_append]; exact List.dropLast_concat
    have hla : ((ws' ++ [(n1, t1)]).map ntV)[((ws' ++ [(n1, t1)]).map ntV).length - 1]? = some (.int n1) := by
      rw [List.map_append]
      exact last_at _ _
    -- the pop
    have k2 : KQ K M0 H (upd H' wt (.lst (ws'.map ntV))) := kp.mutL nnw hw
    have N2 := N.k0 k2
    have hf2 : upd H' wt (.lst (ws'.map ntV)) f = some (.lst (qs.map prV)) := by rw [upd_ne fw]; exact hf
    have hq2 : Prt (upd H' wt (.lst (ws'.map ntV))) qs := fun p m => by
      rw [upd_ne (ne_of (hq p m) hw fun z => nomatch z)]
      exact hq p m
    have popped : ∀ (v : V) (R : TS), as[n1]? = some v → (∀ D : Ends, R D [some (.ref a), some (.int n), some (.ref f), some (.ref wt), some v] (upd H' wt (.lst (ws'.map ntV))) → True) → True := fun _ _ _ _ => trivial
    obtain ⟨dx, ho⟩ := N2.obj
    obtain ⟨dx', ho'⟩ := (N.k0 kp).obj
    refine ⟨_, rfl, a, dx', _, rfl, ho', rfl, _, rfl, tyl hw, wt, _, _, rfl, rfl, hw, hla, ?_⟩
    rw [hdl]
    cases t1 with
    | bare =>
      have e0 : n1 = 0 := hR1
      subst e0
      refine ⟨a, rows, as, 0, _, rfl, N2, hB, ?_⟩
      refine ⟨_, rfl, _, "bare", [], rfl, T.first _, _, rfl, ?_⟩
      rw [tg_bf]
      refine ⟨_, rfl, _, "bare", [], rfl, T.first _, _, rfl, ?_⟩
      rw [tg_bl]
      refine ⟨_, ws', qs, rfl, k2, hf2, upd_same, hRw, hq2, ?_, by omega⟩
      rw [psW_app, show psW [((0 : Nat), RS.T.bare)] = [] from rfl, List.append_nil] at hperm
      exact hperm
    | leaf k ps =>
      obtain ⟨h0, b, ps1, hb, hL, hps1⟩ := hR1
      have hL2 := hL.kp k2
      obtain ⟨q2, l1, l2, l3⟩ := hL2
      refine ⟨a, rows, as, n1, _, rfl, N2, hb, ?_⟩
      refine ⟨_, rfl, b, "leaf", _, rfl, sqT_at l1, _, rfl, ?_⟩
      rw [tg_lf]
      refine ⟨_, rfl, b, "leaf", _, rfl, sqT_at l1, _, rfl, ?_⟩
      rw [tg_ll]
      have hperm2 : ((qs ++ ps1).map (·.2) ++ psW ws').Perm t.ps := by
        rw [psW_app, show psW [(n1, RS.T.leaf k ps)] = ps ++ [] from rfl, List.append_nil, ← hps1] at hperm
        rw [List.map_append, List.append_assoc]
        exact (List.Perm.append_left _ List.perm_append_comm).trans hperm
      have hl2 : qs.length + ps1.length ≤ 100 := by
        have z := hperm2.length_eq
        rw [List.length_append, List.length_map, List.length_append] at z
        omega
      refine ⟨_, rfl, tyl hf2, _, rfl, b, _, 2, .ref q2, rfl, rfl, sqT_at l1, at2, .inr ⟨f, q2, _, _, rfl, rfl, hf2, l2.sq, ?_, ?_⟩⟩
      · rw [List.length_map, List.length_map]
        exact sz_le (by omega)
      · have k3 : KQ K M0 H (upd (upd H' wt (.lst (ws'.map ntV))) f (.lst (qs.map prV ++ ps1.map prV))) := k2.mutL (.of nf) hf2
        refine ⟨_, ws', qs ++ ps1, rfl, k3, by rw [upd_same, List.map_append], by rw [upd_ne (Ne.symm fw)]; exact upd_same, hRw, fun p m => ?_, hperm2, by omega⟩
        have hp : upd H' wt (.lst (ws'.map ntV)) p.1 = some (.tup [.str p.2.1, p.2.2]) := by
          rcases List.mem_append.mp m with m | m
          · exact hq2 p m
          · exact l3 p m
        rw [upd_ne (ne_of hp hf2 fun z => nomatch z)]
        exact hp
    | fork g =>
      obtain ⟨h0, b, ns, hb, hF, hd⟩ := hR1
      obtain ⟨q2, l1, l2⟩ := hF.kp k2
      refine ⟨a, rows, as, n1, _, rfl, N2, hb, ?_⟩
      refine ⟨_, rfl, b, "fork", _, rfl, sqT_at l1, _, rfl, ?_⟩
      rw [tg_ff]
      have hk := kids_sz g ns
      refine ⟨_, rfl, tyl upd_same, _, rfl, b, _, 1, .ref q2, rfl, rfl, sqT_at l1, at1, .inr ⟨wt, q2, _, _, rfl, rfl, upd_same, sqT_at l2, ?_, ?_⟩⟩
      · rw [List.length_map]
        exact sz_le (by show _ + 4 ≤ _; omega)
      · have k3 : KQ K M0 H (upd (upd H' wt (.lst (ws'.map ntV))) wt (.lst (ws'.map ntV ++ four ns))) := k2.mutL nnw upd_same
        refine ⟨_, ws' ++ kids g ns, qs, rfl, k3, by rw [upd_ne fw]; exact hf2, by rw [upd_same, List.map_append]; rfl, fun p m => ?_, fun p m => ?_, ?_, ?_⟩
        · rcases List.mem_append.mp m with m | m
          · exact hRw p m
          · exact kids_rep hd p m
        · rw [upd_ne (ne_of (hq2 p m) upd_same fun z => nomatch z)]
          exact hq2 p m
        · rw [psW_app, show psW [(n1, RS.T.fork g)] = (RS.T.fork g).ps ++ [] from rfl, List.append_nil] at hperm
          rw [psW_app, kids_ps]
          exact hperm
        · rw [szs_app]
          omega
end RS

/-! text D6 -/
set_option Elab.async false
set_option linter.all false
set_option maxRecDepth 100000
set_option maxHeartbeats 1000000
/-! Store: what is looked up. -/
namespace RS
open PySem PySem.Spec PyProof.Rows L2
theorem sc_Store_init : FnScope ["self"] ["self"] (defScope s_Store_init) := ⟨rfl, rfl, rfl, by decide +kernel, rfl, by decide +kernel, by decide +kernel⟩
theorem sc_Store_look_table : FnScope ["self", "table"] ["self", "table"] (defScope s_Store_look_table) := ⟨rfl, rfl, rfl, by decide +kernel, rfl, by decide +kernel, by decide +kernel⟩
theorem sc_Store_tell : FnScope ["self", "number"] ["self", "number"] (defScope s_Store_tell) := ⟨rfl, rfl, rfl, by decide +kernel, rfl, by decide +kernel, by decide +kernel⟩
theorem sc_Store_empty : FnScope ["self"] ["self"] (defScope s_Store_empty) := ⟨rfl, rfl, rfl, by decide +kernel, rfl, by decide +kernel, by decide +kernel⟩
theorem sc_Store_way_from : FnScope ["self", "number", "own", "level", "found"] ["self", "number", "own", "level"] (defScope s_Store_way_from) := ⟨rfl, rfl, rfl, by decide +kernel, rfl, by decide +kernel, by decide +kernel⟩
theorem sc_Store_way : FnScope ["self", "table", "name"] ["self", "table", "name"] (defScope s_Store_way) := ⟨rfl, rfl, rfl, by decide +kernel, rfl, by decide +kernel, by decide +kernel⟩
theorem sc_Store_looked : FnScope ["self", "table", "name"] ["self", "table", "name"] (defScope s_Store_looked) := ⟨rfl, rfl, rfl, by decide +kernel, rfl, by decide +kernel, by decide +kernel⟩
theorem sc_Store_pairs : FnScope ["self", "table"] ["self", "table"] (defScope s_Store_pairs) := ⟨rfl, rfl, rfl, by decide +kernel, rfl, by decide +kernel, by decide +kernel⟩
theorem sc_Store_node : FnScope ["self", "number"] ["self", "number"] (defScope s_Store_node) := ⟨rfl, rfl, rfl, by decide +kernel, rfl, by decide +kernel, by decide +kernel⟩
theorem sc_Store_made : FnScope ["self"] ["self"] (defScope s_Store_made) := ⟨rfl, rfl, rfl, by decide +kernel, rfl, by decide +kernel, by decide +kernel⟩
variable {P : Program} {w : World} {K : PySem.W.Frag} {mg : Str → Option Value} {base : Heap}
/-- the store at a -/
structure StoA (K : PySem.W.Frag) (H : Hp) (a nod rows told : Addr) (as : List V) (tk : List (Key × V)) : Prop where
  obj : InsA H a (gA K "Store") [("nodes", .ref nod), ("told", .ref told)]
  nod : NodA K H nod rows as
  tld : H told = some (.dK tk)
  fst : as[0]? = some (.ref (gA K "FIRST"))
theorem StoA.kp {H H1 : Hp} {a nod rows told : Addr} {as : List V} {tk : List (Key × V)} {T : Tbs} {M : Addr → Prop} (h : StoA K H a nod rows told as tk) (k : Kp T M H H1) (n : ¬ M rows) (n2 : ¬ M told) : StoA K H1 a nod rows told as tk := ⟨h.obj.kp k, h.nod.kp k n, k.dK h.tld n2, h.fst⟩
theorem StoA.k0 {H H1 : Hp} {a nod rows told : Addr} {as : List V} {tk : List (Key × V)} (h : StoA K H a nod rows told as tk) (k : KQ K M0 H H1) : StoA K H1 a nod rows told as tk := h.kp k id id
theorem StoA.pos {H : Hp} {a nod rows told : Addr} {as : List V} {tk : List (Key × V)} (h : StoA K H a nod rows told as tk) : 0 < as.length := (List.getElem?_eq_some_iff.mp h.fst).1
def spSInit (K : PySem.W.Frag) : Sp := fun vs H Q _ => ∃ x dx, vs = [.ref x] ∧ H x = some (.ins (gA K "Store") dx []) ∧ ∀ H' nod rows told, (∀ H0, KQ K M0 H0 H → NN H0 x → KQ K M0 H0 H' ∧ NN H0 rows ∧ NN H0 told) → StoA K H' x nod rows told [.ref (gA K "FIRST")] [(.inl 0, .bl true)] → Q .non H'
theorem d_Store_init_ok (T : Tx K mg base) : Df P w K mg base CX0 3 (mA K "Store" "__init__") (spSInit K) := by
  have h_Nodes_init := d_Nodes_init_ok (P := P) (w := w) T
  refine df0 T.F_Store_init sc_Store_init (fun _ _ _ _ _ _ us hl => match us, hl with | [_], _ => rfl) (fun vs H Q E ⟨x, dx, h, _⟩ => by rw [h]; rfl) fun cd A outer s H vs Q E hr h => ?_
  obtain ⟨x, dx, rfl, hx, q⟩ := h
  refine ⟨_, (pss_cons (ps_fld (pv 0) (pe_k0 h_Nodes_init (hr.mono (by decide)) T.mk_Nodes T.g_Nodes) rfl)
    (pss_one (ps_fld (pv 0) (pe_disp (pps_cons (pe_gi rfl T.i_BARE) pe_bl pps_nil) rfl rfl (by simp) (by decide)) rfl))), ?_⟩
  refine fun n dn h1 h2 h3 => ⟨n, dn, rfl, upd_same, fun r hr1 => ⟨rfl, ?_⟩⟩
  have nx : x ≠ n := ne_of_none hx h1
  have hx1 : upd (upd H dn (.own n)) n (.ins (gA K "Nodes") dn []) x = some (.ins (gA K "Store") dx []) := by rw [upd_ne nx, upd_ne (ne_of_none hx h2)]; exact hx
  have rn : r ≠ n := fun e => by rw [e, upd_same] at hr1; cases hr1
  have hx2 : upd (upd (upd (upd H dn (.own n)) n (.ins (gA K "Nodes") dn [])) r (.lst [.ref (gA K "FIRST")])) n (.ins (gA K "Nodes") dn [("rows", .ref r)]) x = some (.ins (gA K "Store") dx []) := by
    rw [upd_ne nx, upd_ne (ne_of_none hx1 hr1)]; exact hx1
  refine ⟨_, rfl, x, _, dx, _, rfl, hx2, T.cl_Store, T.na_Store_nodes, by decide, fun t nt => ?_⟩
  have tx : t ≠ x := fun e => by rw [e, upd_same] at nt; cases nt
  refine ⟨upd_same, [(.inl 0, .bl true)], rfl, by decide, ?_⟩
  have hx3 : (upd (upd (upd (upd (upd (upd (upd H dn (.own n)) n (.ins (gA K "Nodes") dn [])) r (.lst [.ref (gA K "FIRST")])) n (.ins (gA K "Nodes") dn [("rows", .ref r)])) x (.ins (gA K "Store") dx (putF "nodes" (.ref n) []))) t (.dK [])) t (.dK (mergeK [] [(.inl 0, .bl true)]))) x = some (.ins (gA K "Store") dx (putF "nodes" (.ref n) [])) := by
    rw [upd_ne (Ne.symm tx), upd_ne (Ne.symm tx)]
    exact upd_same
  refine ⟨_, rfl, x, _, dx, _, rfl, hx3, T.cl_Store, T.na_Store_told, show 1 < 1000 by decide, ?_⟩
  have tn : t ≠ n := fun e => by rw [e, upd_ne (Ne.symm nx), upd_same] at nt; cases nt
  have tr : t ≠ r := fun e => by
    have rx : r ≠ x := fun e => by rw [e, hx1] at hr1; cases hr1
    rw [e, upd_ne rx, upd_ne rn, upd_same] at nt; cases nt
  have rx : r ≠ x := fun e => by rw [e, hx1] at hr1; cases hr1
  refine q _ n r t (fun H0 k nn => ?_) ⟨⟨dx, upd_same⟩, ⟨⟨dn, ?_⟩, ?_⟩, ?_, rfl⟩
  · have nn_n : NN H0 n := k.nn h1
    have k1 := (k.made h1 h2 h3 (C := gA K "Nodes"))
    have nn_r : NN H0 r := k1.nn hr1
    have k2 := k1.new hr1 (o := .lst [.ref (gA K "FIRST")])
    have k3 := k2.mutI (C' := gA K "Nodes") (dx' := dn) (ys := [("rows", .ref r)]) nn_n (by rw [upd_ne (Ne.symm rn)]; exact upd_same)
    have k4 := k3.mutI (C' := gA K "Store") (dx' := dx) (ys := putF "nodes" (.ref n) []) nn hx2
    have nn_t : NN H0 t := k4.nn nt
    have k5 := (k4.new nt (o := .dK [])).mutD (ys := mergeK [] [(.inl 0, .bl true)]) nn_t upd_same
    exact ⟨k5.mutI nn hx3, nn_r, nn_t⟩
  · rw [upd_ne (Ne.symm nx), upd_ne (Ne.symm tn), upd_ne (Ne.symm tn), upd_ne (Ne.symm nx)]
    exact upd_same
  · rw [upd_ne rx, upd_ne (Ne.symm tr), upd_ne (Ne.symm tr), upd_ne rx, upd_ne rn]
    exact upd_same
  · rw [upd_ne tx]
    exact upd_same
def spSLook (K : PySem.W.Frag) : Sp := fun vs H Q _ => ∃ (a nod rows told : Addr) (as : List V) (tk : List (Key × V)) (n : Nat), vs = [.ref a, .int n] ∧ StoA K H a nod rows told as tk ∧ (valV tk (.inl n)).isSome = true ∧ Q .non H
theorem d_Store_look_table_ok (T : Tx K mg base) : Df P w K mg base CX0 1 (mA K "Store" "look_table") (spSLook K) := by
  refine df0 T.F_Store_look_table sc_Store_look_table (fun _ _ _ _ _ _ us hl => match us, hl with | [_, _], _ => rfl) (fun vs H Q E ⟨_, _, _, _, _, _, _, h, _⟩ => by rw [h]; rfl) fun cd A outer s H vs Q E hr h => ?_
  obtain ⟨a, nod, rows, told, as, tk, n, rfl, S, ht, q⟩ := h
  refine ⟨_, (pss_one (ps_if (pt_cmp (pc_dnotin (hu_of hr) (pv 1) (pe_fld (pv 0) rfl))) (pss_one ps_never) pss_nil)), ?_⟩
  obtain ⟨dx, ho⟩ := S.obj
  refine ⟨_, rfl, _, rfl, a, _, dx, _, _, rfl, ho, T.cl_Store, T.na_Store_told, rfl, told, _, rfl, DGet.k (k := .inl (n : Int)) S.tld, ?_⟩
  refine ⟨_, rfl, ?_⟩
  rw [ht]
  exact q
def spSTell (K : PySem.W.Frag) : Sp := fun vs H Q _ => ∃ (a nod rows told : Addr) (as : List V) (tk : List (Key × V)) (n : Nat), vs = [.ref a, .int n] ∧ StoA K H a nod rows told as tk ∧ tk.length < 90000 ∧ Q (.int n) (upd H told (.dK (putK tk (.inl n) (.bl true))))
theorem d_Store_tell_ok (T : Tx K mg base) : Df P w K mg base CX0 1 (mA K "Store" "tell") (spSTell K) := by
  refine df0 T.F_Store_tell sc_Store_tell (fun _ _ _ _ _ _ us hl => match us, hl with | [_, _], _ => rfl) (fun vs H Q E ⟨_, _, _, _, _, _, _, h, _⟩ => by rw [h]; rfl) fun cd A outer s H vs Q E hr h => ?_
  obtain ⟨a, nod, rows, told, as, tk, n, rfl, S, ht, q⟩ := h
  refine ⟨_, (pss_cons (ps_dput (hu_of hr) (pe_fld (pv 0) rfl) (pv 1) pe_bl rfl)
    (pss_one (ps_ret (pv 1)))), ?_⟩
  obtain ⟨dx, ho⟩ := S.obj
  exact ⟨_, rfl, a, _, dx, _, _, rfl, ho, T.cl_Store, T.na_Store_told, rfl, _, rfl, told, _, rfl, DPut.k (k := .inl (n : Int)) S.tld (sz_lt (by omega)), _, rfl, q⟩
def spSEmpty : Sp := fun vs H Q _ => ∃ x, vs = [x] ∧ Q (.int 0) H
theorem d_Store_empty_ok (T : Tx K mg base) : Df P w K mg base CX0 1 (mA K "Store" "empty") spSEmpty := by
  refine df0 T.F_Store_empty sc_Store_empty (fun _ _ _ _ _ _ us hl => match us, hl with | [_], _ => rfl) (fun vs H Q E ⟨_, h, _⟩ => by rw [h]; rfl) fun cd A outer s H vs Q E hr h => ?_
  obtain ⟨x, rfl, q⟩ := h
  refine ⟨_, (pss_one (ps_ret (pe_gi rfl T.i_BARE))), ?_⟩
  exact q
def spSMade (K : PySem.W.Frag) : Sp := fun vs H Q _ => ∃ (a nod rows told : Addr) (as : List V) (tk : List (Key × V)), vs = [.ref a] ∧ StoA K H a nod rows told as tk ∧ Q (.int as.length) H
theorem d_Store_made_ok (T : Tx K mg base) : Df P w K mg base CX0 2 (mA K "Store" "made") (spSMade K) := by
  have h_Nodes_many := d_Nodes_many_ok (P := P) (w := w) T
  refine df0 T.F_Store_made sc_Store_made (fun _ _ _ _ _ _ us hl => match us, hl with | [_], _ => rfl) (fun vs H Q E ⟨_, _, _, _, _, _, h, _⟩ => by rw [h]; rfl) fun cd A outer s H vs Q E hr h => ?_
  obtain ⟨a, nod, rows, told, as, tk, rfl, S, q⟩ := h
  refine ⟨_, (pss_one (ps_ret (pe_m0 h_Nodes_many (hr.mono (by decide)) T.cl_Nodes T.me_Nodes_many (pe_fld (pv 0) rfl)))), ?_⟩
  obtain ⟨dx, ho⟩ := S.obj
  obtain ⟨dn, hn⟩ := S.nod.obj
  exact ⟨_, rfl, a, _, dx, _, _, rfl, ho, T.cl_Store, T.na_Store_nodes, rfl, nod, dn, _, rfl, hn, rfl, nod, rows, as, rfl, S.nod, q⟩
def spSNode (K : PySem.W.Frag) : Sp := fun vs H Q _ => ∃ (a nod rows told : Addr) (as : List V) (tk : List (Key × V)) (n : Nat) (v : V), vs = [.ref a, .int n] ∧ StoA K H a nod rows told as tk ∧ as[n]? = some v ∧ Q v H
theorem d_Store_node_ok (T : Tx K mg base) : Df P w K mg base CX0 2 (mA K "Store" "node") (spSNode K) := by
  have h_Nodes_many := d_Nodes_many_ok (P := P) (w := w) T
  have h_Nodes_at := d_Nodes_at_ok (P := P) (w := w) T
  refine df0 T.F_Store_node sc_Store_node (fun _ _ _ _ _ _ us hl => match us, hl with | [_, _], _ => rfl) (fun vs H Q E ⟨_, _, _, _, _, _, _, _, h, _⟩ => by rw [h]; rfl) fun cd A outer s H vs Q E hr h => ?_
  obtain ⟨a, nod, rows, told, as, tk, n, v, rfl, S, hv, q⟩ := h
  refine ⟨_, (pss_cons (ps_if (pt_not (pt_chain op_le op_lt pe_int (pv 1) (pe_m0 h_Nodes_many (hr.mono (by decide)) T.cl_Nodes T.me_Nodes_many (pe_fld (pv 0) rfl)))) (pss_one ps_never) pss_nil)
    (pss_one (ps_ret (pe_m h_Nodes_at (hr.mono (by decide)) T.cl_Nodes T.me_Nodes_at (pe_fld (pv 0) rfl) (pa_cons (pv 1) pa_nil))))), ?_⟩
  obtain ⟨dx, ho⟩ := S.obj
  obtain ⟨dn, hn⟩ := S.nod.obj
  have hl : n < as.length := (List.getElem?_eq_some_iff.mp hv).1
  refine ⟨_, rfl, _, _, rfl, rfl, ?_⟩
  have e0 : decide ((0 : Int) ≤ (n : Nat)) = true := decide_eq_true (by omega)
  have e1 : decide (((n : Nat) : Int) < (as.length : Nat)) = true := decide_eq_true (by omega)
  refine ⟨true, congrArg V.bl e0, ?_⟩
  rw [if_pos rfl]
  refine ⟨_, rfl, a, _, dx, _, _, rfl, ho, T.cl_Store, T.na_Store_nodes, rfl, nod, dn, _, rfl, hn, rfl, nod, rows, as, rfl, S.nod, _, _, rfl, rfl, ?_⟩
  refine ⟨true, congrArg V.bl e1, ?_⟩
  exact ⟨_, rfl, a, _, dx, _, _, rfl, ho, T.cl_Store, T.na_Store_nodes, rfl, nod, dn, _, rfl, hn, rfl, _, rfl, nod, rows, as, n, v, rfl, S.nod, hv, q⟩
end RS

/-! text D7 -/
set_option Elab.async false
set_option linter.all false
set_option maxRecDepth 100000
set_option maxHeartbeats 1000000
/-! Store: ways, values, pairs. -/
namespace RS
open PySem PySem.Spec PyProof.Rows L2
variable {P : Program} {w : World} {K : PySem.W.Frag} {mg : Str → Option Value} {base : Heap}
/-- what a way leads to -/
def WayOut (K : PySem.W.Frag) (H : Hp) (Q : VK) (as : List V) (t : RS.T) (m : Nat) : Prop := ∀ (H' : Hp) (f : Addr) (ns : List V) (n' : Nat) (t' : RS.T), KQ K M0 H H' → NN H f → H' f = some (.lst (ns ++ [.int n'])) → Rep H' as t' n' → (∀ g, t' ≠ .fork g) → (∀ x, markN x = m → val t'.ps x = val t.ps x) → Q (.ref f) H'
/-- the row of a number, its tag -/
theorem row_of {H : Hp} {as : List V} (T : Tx K mg base) (hB : as[0]? = some (.ref (gA K "FIRST"))) : ∀ {t : RS.T} {n : Nat}, Rep H as t n → ∃ b x r, as[n]? = some (.ref b) ∧ SqT K H b (.str x :: r) ∧ decide (x = ("fork" : Str)) = (match t with | .fork _ => true | _ => false) ∧ decide (x = ("leaf" : Str)) = (match t with | .leaf _ _ => true | _ => false)
  | .bare, n, h => by
    subst h
    exact ⟨_, "bare", [], hB, T.first _, tg_bf, tg_bl⟩
  | .leaf m ps, n, h => by
    obtain ⟨h0, b, qs, hb, hL, hps⟩ := h
    obtain ⟨q, l1, l2, l3⟩ := hL
    exact ⟨b, "leaf", _, hb, sqT_at l1, tg_lf, tg_ll⟩
  | .fork f, n, h => by
    obtain ⟨h0, b, ns, hb, ⟨q, l1, l2⟩, hd⟩ := h
    exact ⟨b, "fork", _, hb, sqT_at l1, tg_ff, tg_fl⟩
theorem four_at {ns : Fin 4 → Nat} (d : Fin 4) : atI (four ns) (d.val : Int) = some (.int (ns d)) := by
  rcases fin4 d with e | e | e | e <;> subst e <;> rfl
def spSWayFrom (K : PySem.W.Frag) : Sp := fun vs H Q _ => ∃ (a nod rows told : Addr) (as : List V) (tk : List (Key × V)) (n m l : Nat) (t : RS.T) (S : Str → Prop) (Pm : Nat → Prop), vs = [.ref a, .int n, .int m, .int l] ∧ StoA K H a nod rows told as tk ∧ Rep H as t n ∧ t.WF S l Pm ∧ WayOut K H Q as t m
theorem last1 {xs : List V} {v : V} : atI (xs ++ [v]) (-1) = some v := by
  unfold atI ixN
  rw [List.length_append, List.length_singleton, if_neg (by omega), if_pos (by omega)]
  show (xs ++ [v])[((-1 : Int) + ((xs.length + 1 : Nat) : Int)).toNat]? = some v
  rw [show ((-1 : Int) + ((xs.length + 1 : Nat) : Int)).toNat = xs.length by omega, List.getElem?_append_right (Nat.le_refl _), Nat.sub_self]
  rfl
theorem sz_kid (f : Fin 4 → RS.T) (d : Fin 4) : (f d).sz < (RS.T.fork f).sz := by
  have e : (RS.T.fork f).sz = 1 + ((f 0).sz + (f 1).sz + (f 2).sz + (f 3).sz) := rfl
  rw [e]
  rcases fin4 d with z | z | z | z <;> subst z <;> omega
theorem d_Store_way_from_ok (T : Tx K mg base) : Df P w K mg base CX0 3 (mA K "Store" "way_from") (spSWayFrom K) := by
  have h_Nodes_at := d_Nodes_at_ok (P := P) (w := w) T
  have h_is_fork := d_is_fork_ok (P := P) (w := w) T
  have h_digit := d_digit_ok (P := P) (w := w) T
  refine df0 T.F_Store_way_from sc_Store_way_from (fun _ _ _ _ _ _ us hl => match us, hl with | [_, _, _, _], _ => rfl) (fun vs H Q E ⟨_, _, _, _, _, _, _, _, _, _, _, _, h, _⟩ => by rw [h]; rfl) fun cd A outer s H vs Q E hr h => ?_
  obtain ⟨a, nod, rows, told, as, tk, n, m, l, t, S, Pm, rfl, St, hR, hW, q⟩ := h
  refine ⟨_, (pss_cons (ps_set (i := 4) sc_Store_way_from.nd rfl (.inl rfl) (pe_lst (pa_cons (pv 1) pa_nil)))
    (pss_cons (ps_while PassesOwn.never (pt_val (pe_c h_is_fork (hr.mono (by decide)) T.g_is_fork (pa_cons (pe_m h_Nodes_at (hr.mono (by decide)) T.cl_Nodes T.me_Nodes_at (pe_fld (pv 0) rfl) (pa_cons (pe_ix ix_list (pv 4) (pe_un un_neg pe_int) (fun _ _ => rfl)) pa_nil)) pa_nil))) (pss_cons (ps_expr (pe_bm PySem.F.plainAttrs_list PySem.F.slot_list_append PySem.F.type_list_append mt_append (pv 4) (pa_cons (pe_ix ix_tup (pe_ix ix_tup (pe_m h_Nodes_at (hr.mono (by decide)) T.cl_Nodes T.me_Nodes_at (pe_fld (pv 0) rfl) (pa_cons (pe_ix ix_list (pv 4) (pe_un un_neg pe_int) (fun _ _ => rfl)) pa_nil)) pe_int (fun _ _ => rfl)) (pe_c h_digit (hr.mono (by decide)) T.g_digit (pa_cons (pv 2) (pa_cons (pv 3) pa_nil))) (fun _ _ => rfl)) pa_nil)))
    (pss_one (ps_aug (i := 3) sc_Store_way_from.nd rfl (.inl rfl) pe_int iop_add))))
    (pss_one (ps_ret (pv 4))))), ?_⟩
  refine ⟨_, rfl, sz1, fun f nf => ?_⟩
  refine ⟨fun c σ H' => ∃ (xs : List V) (n1 l1 : Nat) (t1 : RS.T) (P1 : Nat → Prop), σ = [some (.ref a), some (.int n), some (.int m), some (.int l1), some (.ref f)] ∧ KQ K M0 H H' ∧ H' f = some (.lst (xs ++ [.int n1])) ∧ Rep H as t1 n1 ∧ t1.WF S l1 P1 ∧ (∀ x, markN x = m → val t1.ps x = val t.ps x) ∧ c = t1.sz ∧ xs.length ≤ 10 ∧ (l ≤ l1 ∧ xs.length + l = l1 ∧ l1 ≤ 5 ∨ xs = [] ∧ l1 = l),
    ⟨t.sz, [], n, l, t, Pm, rfl, Kp.refl.new nf, upd_same, hR, hW, fun _ _ => rfl, rfl, Nat.zero_le _, .inr ⟨rfl, rfl⟩⟩, fun c σ H' hI => ?_⟩
  obtain ⟨xs, n1, l1, t1, P1, rfl, kp, hf, hR1, hW1, hv, rfl, hx, hl⟩ := hI
  have St1 := St.k0 kp
  obtain ⟨dx, ho⟩ := St1.obj
  obtain ⟨dn, hn⟩ := St1.nod.obj
  have nf1 : (∀ g, t1 ≠ .fork g) → ∃ b x r, as[n1]? = some (.ref b) ∧ SqT K H' b (.str x :: r) ∧ decide (x = ("fork" : Str)) = false := fun hn => by
    obtain ⟨b, tag, r, hb, hT, hF, _⟩ := row_of T St.fst (hR1.kp kp)
    refine ⟨b, tag, r, hb, hT, ?_⟩
    rw [hF]
    cases t1 with
    | fork g => exact absurd rfl (hn g)
    | _ => rfl
  have done : (∀ g, t1 ≠ .fork g) → _ := fun hn => q H' f xs n1 t1 kp (.of nf) hf (hR1.kp kp) hn hv
  cases t1 with
  | bare =>
    obtain ⟨b, tag, r, hb, hT, hF⟩ := nf1 fun g e => nomatch e
    refine ⟨_, rfl, a, _, dx, _, _, rfl, ho, T.cl_Store, T.na_Store_nodes, rfl, nod, dn, _, rfl, hn, rfl, _, rfl, 1, rfl, f, _, _, _, rfl, rfl, sqL_at hf, last1, nod, rows, as, n1, _, rfl, St1.nod, hb, ?_⟩
    refine ⟨b, tag, r, rfl, hT, _, rfl, ?_⟩
    rw [hF]
    exact ⟨_, rfl, done fun g e => nomatch e⟩
  | leaf k ps =>
    obtain ⟨b, tag, r, hb, hT, hF⟩ := nf1 fun g e => nomatch e
    refine ⟨_, rfl, a, _, dx, _, _, rfl, ho, T.cl_Store, T.na_Store_nodes, rfl, nod, dn, _, rfl, hn, rfl, _, rfl, 1, rfl, f, _, _, _, rfl, rfl, sqL_at hf, last1, nod, rows, as, n1, _, rfl, St1.nod, hb, ?_⟩
    refine ⟨b, tag, r, rfl, hT, _, rfl, ?_⟩
    rw [hF]
    exact ⟨_, rfl, done fun g e => nomatch e⟩
  | fork g =>
    obtain ⟨h0, b, ns', hb, hFk, hd⟩ := hR1
    obtain ⟨qn, l1', hq⟩ := hFk.kp kp
    have hT : SqT K H' b _ := sqT_at l1'
    have hRd := hd (dig m l1)
    have hl5 : l1 < 5 := hW1.1
    refine ⟨_, rfl, a, _, dx, _, _, rfl, ho, T.cl_Store, T.na_Store_nodes, rfl, nod, dn, _, rfl, hn, rfl, _, rfl, 1, rfl, f, _, _, _, rfl, rfl, sqL_at hf, last1, nod, rows, as, n1, _, rfl, St1.nod, hb, ?_⟩
    refine ⟨b, "fork", _, rfl, hT, _, rfl, ?_⟩
    rw [tg_ff]
    refine ⟨fun σ2 H2 => ∃ (xs : List V) (n1 l2 : Nat) (t2 : RS.T) (P1 : Nat → Prop), σ2 = [some (.ref a), some (.int n), some (.int m), some (.int l2), some (.ref f)] ∧ KQ K M0 H H2 ∧ H2 f = some (.lst (xs ++ [.int n1])) ∧ Rep H as t2 n1 ∧ t2.WF S l2 P1 ∧ (∀ x, markN x = m → val t2.ps x = val t.ps x) ∧ t2.sz < (RS.T.fork g).sz ∧ xs.length ≤ 10 ∧ (l ≤ l2 ∧ xs.length + l = l2 ∧ l2 ≤ 5 ∨ xs = [] ∧ l2 = l),
      fun σ2 H2 ⟨xs, n1, l2, t2, P1, e1, e2, e3, e4, e5, e6, e7, e8, e9⟩ => ⟨t2.sz, e7, xs, n1, l2, t2, P1, e1, e2, e3, e4, e5, e6, rfl, e8, e9⟩, ?_⟩
    refine ⟨_, rfl, tyl hf, _, rfl, a, _, dx, _, _, rfl, ho, T.cl_Store, T.na_Store_nodes, rfl, nod, dn, _, rfl, hn, rfl, _, rfl, 1, rfl, f, _, _, _, rfl, rfl, sqL_at hf, last1, nod, rows, as, n1, _, rfl, St1.nod, hb, ?_⟩
    refine ⟨b, _, 1, .ref qn, rfl, rfl, hT, at1, ?_⟩
    refine ⟨_, rfl, _, rfl, m, l1, rfl, by omega, ?_⟩
    refine ⟨qn, _, _, _, rfl, rfl, sqT_at hq, four_at _, ?_⟩
    have hxs : xs.length ≤ 5 := by rcases hl with ⟨_, z, _⟩ | ⟨z, _⟩; · omega
                                   · rw [z]; exact Nat.zero_le _
    refine ⟨f, _, _, rfl, rfl, hf, ?_, ?_⟩
    · rw [List.length_append, List.length_singleton]
      exact sz_lt (by omega)
    refine ⟨_, rfl, _, _, rfl, rfl, ?_⟩
    have k2 : KQ K M0 H (upd H' f (.lst ((xs ++ [V.int n1]) ++ [V.int (ns' (dig m l1))]))) := kp.mutL (.of nf) hf
    refine ⟨xs ++ [V.int n1], ns' (dig m l1), l1 + 1, g (dig m l1), _, rfl, k2, upd_same, hRd, hW1.2 _, fun x hx => ?_, sz_kid g _, by rw [List.length_append, List.length_singleton]; omega, .inl ?_⟩
    · rw [← hv x hx, val_fork hW1, hx]
    · rw [List.length_append, List.length_singleton]
      rcases hl with ⟨z1, z2, z3⟩ | ⟨z1, z2⟩
      · omega
      · rw [z1, z2]
        show _ ∧ 0 + 1 + l = _ ∧ _
        omega
def spSWay (K : PySem.W.Frag) : Sp := fun vs H Q _ => ∃ (a nod rows told : Addr) (as : List V) (tk : List (Key × V)) (n : Nat) (x : Str) (t : RS.T) (S : Str → Prop) (Pm : Nat → Prop), vs = [.ref a, .int n, .str x] ∧ StoA K H a nod rows told as tk ∧ (valV tk (.inl n)).isSome = true ∧ GoodN x ∧ Rep H as t n ∧ t.WF S 0 Pm ∧ WayOut K H Q as t (markN x)
theorem d_Store_way_ok (T : Tx K mg base) : Df P w K mg base CX0 4 (mA K "Store" "way") (spSWay K) := by
  have h_Store_look_table := d_Store_look_table_ok (P := P) (w := w) T
  have h_Store_way_from := d_Store_way_from_ok (P := P) (w := w) T
  have h_mark := d_mark_ok (P := P) (w := w) T
  refine df0 T.F_Store_way sc_Store_way (fun _ _ _ _ _ _ us hl => match us, hl with | [_, _, _], _ => rfl) (fun vs H Q E ⟨_, _, _, _, _, _, _, _, _, _, _, h, _⟩ => by rw [h]; rfl) fun cd A outer s H vs Q E hr h => ?_
  obtain ⟨a, nod, rows, told, as, tk, n, x, t, S, Pm, rfl, St, ht, gx, hR, hW, q⟩ := h
  refine ⟨_, (pss_cons (ps_expr (pe_m h_Store_look_table (hr.mono (by decide)) T.cl_Store T.me_Store_look_table (pv 0) (pa_cons (pv 1) pa_nil)))
    (pss_one (ps_ret (pe_m h_Store_way_from (hr.mono (by decide)) T.cl_Store T.me_Store_way_from (pv 0) (pa_cons (pv 1) (pa_cons (pe_c h_mark (hr.mono (by decide)) T.g_mark (pa_cons (pv 2) pa_nil)) (pa_cons pe_int pa_nil))))))), ?_⟩
  obtain ⟨dx, ho⟩ := St.obj
  refine ⟨_, rfl, a, dx, _, rfl, ho, rfl, _, rfl, a, nod, rows, told, as, tk, n, rfl, St, ht, ?_⟩
  refine ⟨_, rfl, a, dx, _, rfl, ho, rfl, _, rfl, _, rfl, x, rfl, gx, fun H2 k2 => ?_⟩
  refine ⟨a, nod, rows, told, as, tk, n, markN x, 0, t, S, Pm, rfl, St.k0 k2, hR.kp k2, hW, fun H3 f ns n' t' k3 nn hf hR' hnf hv => ?_⟩
  exact q H3 f ns n' t' (k2.trans k3) (k2.s f nn) hf hR' hnf fun y hy => hv y hy
def spSLooked (K : PySem.W.Frag) : Sp := fun vs H Q _ => ∃ (a nod rows told : Addr) (as : List V) (tk : List (Key × V)) (n : Nat) (x : Str) (t : RS.T) (S : Str → Prop) (Pm : Nat → Prop), vs = [.ref a, .int n, .str x] ∧ StoA K H a nod rows told as tk ∧ (valV tk (.inl n)).isSome = true ∧ GoodN x ∧ Rep H as t n ∧ t.WF S 0 Pm ∧ ∀ H', KQ K M0 H H' → Q ((val t.ps x).getD .non) H'
theorem d_Store_looked_ok (T : Tx K mg base) : Df P w K mg base CX0 5 (mA K "Store" "looked") (spSLooked K) := by
  have h_Store_way := d_Store_way_ok (P := P) (w := w) T
  have h_Nodes_at := d_Nodes_at_ok (P := P) (w := w) T
  have h_value_in := d_value_in_ok (P := P) (w := w) T
  refine df0 T.F_Store_looked sc_Store_looked (fun _ _ _ _ _ _ us hl => match us, hl with | [_, _, _], _ => rfl) (fun vs H Q E ⟨_, _, _, _, _, _, _, _, _, _, _, h, _⟩ => by rw [h]; rfl) fun cd A outer s H vs Q E hr h => ?_
  obtain ⟨a, nod, rows, told, as, tk, n, x, t, S, Pm, rfl, St, ht, gx, hR, hW, q⟩ := h
  refine ⟨_, (pss_one (ps_ret (pe_c h_value_in (hr.mono (by decide)) T.g_value_in (pa_cons (pe_m h_Nodes_at (hr.mono (by decide)) T.cl_Nodes T.me_Nodes_at (pe_fld (pv 0) rfl) (pa_cons (pe_ix ix_list (pe_m h_Store_way (hr.mono (by decide)) T.cl_Store T.me_Store_way (pv 0) (pa_cons (pv 1) (pa_cons (pv 2) pa_nil))) (pe_un un_neg pe_int) (fun _ _ => rfl)) pa_nil)) (pa_cons (pv 2) pa_nil))))), ?_⟩
  obtain ⟨dx, ho⟩ := St.obj
  obtain ⟨dn, hn⟩ := St.nod.obj
  refine ⟨_, rfl, a, _, dx, _, _, rfl, ho, T.cl_Store, T.na_Store_nodes, rfl, nod, dn, _, rfl, hn, rfl, _, rfl, a, dx, _, rfl, ho, rfl, _, rfl, _, rfl, ?_⟩
  refine ⟨a, nod, rows, told, as, tk, n, x, t, S, Pm, rfl, St, ht, gx, hR, hW, fun H2 f ns n' t' k2 nn hf hR' hnf hv => ?_⟩
  have St2 := St.k0 k2
  refine ⟨1, rfl, f, _, _, _, rfl, rfl, sqL_at hf, last1, ?_⟩
  cases t' with
  | bare =>
    obtain ⟨b, tag, r, hb, hT, hF, hL⟩ := row_of T St2.fst hR'
    refine ⟨nod, rows, as, n', _, rfl, St2.nod, hb, _, rfl, b, x, rfl, .inr ⟨tag, r, hT, of_decide_eq_false hL, ?_⟩⟩
    have e := hv x rfl
    have e2 : val RS.T.bare.ps x = none := rfl
    rw [e2] at e
    rw [← e] at q
    exact q H2 k2
  | leaf m ps =>
    obtain ⟨h0, b, qs, hb, hL, hps⟩ := hR'
    refine ⟨nod, rows, as, n', _, rfl, St2.nod, hb, _, rfl, b, x, rfl, .inl ⟨m, qs, hL, ?_⟩⟩
    have e := hv x rfl
    rw [← e] at q
    unfold valP
    rw [hps]
    exact q H2 k2
  | fork g => exact absurd rfl (hnf g)
def spSPairs (K : PySem.W.Frag) : Sp := fun vs H Q _ => ∃ (a nod rows told : Addr) (as : List V) (tk : List (Key × V)) (n : Nat) (t : RS.T), vs = [.ref a, .int n] ∧ StoA K H a nod rows told as tk ∧ (valV tk (.inl n)).isSome = true ∧ Rep H as t n ∧ t.sz ≤ 1365 ∧ t.ps.length ≤ 40 ∧ LamX.Tabs (TT K) H ∧ PairsOut K H Q fun qs => (qs.map (·.2)).Perm t.ps ∧ (qs.map (·.2.1)).Pairwise strLe
theorem d_Store_pairs_ok (T : Tx K mg base) : Df P w K mg base CX0 5 (mA K "Store" "pairs") (spSPairs K) := by
  have h_Store_look_table := d_Store_look_table_ok (P := P) (w := w) T
  have h_Nodes_pairs_in := d_Nodes_pairs_in_ok (P := P) (w := w) T
  refine df0c (c := ("Store", some "pairs")) T.F_Store_pairs sc_Store_pairs (fun _ _ _ _ _ _ us hl => match us, hl with | [_, _], _ => rfl) (fun vs H Q E ⟨_, _, _, _, _, _, _, _, h, _⟩ => by rw [h]; rfl) fun A outer s H vs Q E hr h => ?_
  obtain ⟨a, nod, rows, told, as, tk, n, t, rfl, St, ht, hR, hsz, hl, hT, q⟩ := h
  have TBx := T.tb ("Store", some "pairs") (by decide)
  have hmT : ((He.cT K ("Store", some "pairs")).2, ("Store.pairs.<locals>.<lambda>" : Str)) ∈ TT K := List.mem_cons_of_mem _ (List.mem_cons_self ..)
  have hu := tt_two T
  refine ⟨_, (pss_cons (ps_expr (pe_m h_Store_look_table (hr.mono (by decide)) T.cl_Store T.me_Store_look_table (pv 0) (pa_cons (pv 1) pa_nil)))
    (pss_one (ps_ret (pe_sortKey (T := TT K) rfl T.b_sorted (pa_cons (pe_m h_Nodes_pairs_in (hr.mono (by decide)) T.cl_Nodes T.me_Nodes_pairs_in (pe_fld (pv 0) rfl) (pa_cons (pv 1) pa_nil)) pa_nil) TBx rfl hmT hu hr)))), ?_⟩
  obtain ⟨dx, ho⟩ := St.obj
  obtain ⟨dn, hn⟩ := St.nod.obj
  refine ⟨_, rfl, a, dx, _, rfl, ho, rfl, _, rfl, a, nod, rows, told, as, tk, n, rfl, St, ht, ?_⟩
  refine ⟨_, rfl, a, _, dx, _, _, rfl, ho, T.cl_Store, T.na_Store_nodes, rfl, nod, dn, _, rfl, hn, rfl, _, rfl, nod, rows, as, n, t, rfl, St.nod, St.fst, hR, hsz, by omega, ?_⟩
  refine fun H2 l qs k2 nn hl2 hp hperm => ?_
  have hlen : qs.length ≤ 40 := by
    have z := hperm.length_eq
    rw [List.length_map] at z
    omega
  refine ⟨k2.t hT, l, qs, rfl, sqL_at hl2, by omega, hp.prs, fun H3 e zs eN T2 hz hs nE => ?_⟩
  have k3 := (k2.lam eN T2).new nE (o := .lst (zs.map prV))
  have kq : KQ K M0 H2 _ := ((Kp.refl (M := M0)).lam eN T2).new nE (o := .lst (zs.map prV))
  exact q _ e zs k3 ((k2.lam eN T2).nn nE) upd_same ((hp.kp kq).perm hz) ⟨(hz.map (·.2)).trans hperm, List.pairwise_map.mpr hs⟩
/-! ### the parts of a node -/
def spPartsOf (K : PySem.W.Frag) : Sp := fun vs H Q _ => ∃ b, vs = [.ref b] ∧ ((∃ ns, ForkAt H b ns ∧ ∀ q, H q = some (.tup (four ns)) → Q (.ref q) H) ∨ (∃ x r, SqT K H b (.str x :: r) ∧ decide (x = ("fork" : Str)) = false ∧ ∀ H' q, KQ K M0 H H' → SqT K H' q [] → Q (.ref q) H'))
theorem d_parts_of_ok (T : Tx K mg base) : Df P w K mg base CX0 1 (gA K "parts_of") (spPartsOf K) := by
  refine df0 T.F_parts_of sc_parts_of (fun _ _ _ _ _ _ us hl => match us, hl with | [_], _ => rfl) (fun vs H Q E ⟨_, h, _⟩ => by rw [h]; rfl) fun cd A outer s H vs Q E hr h => ?_
  obtain ⟨b, rfl, h⟩ := h
  refine ⟨_, (pss_one (ps_ret (pe_ifExp (pt_cmpR op_eq (pe_ix ix_tup (pv 0) pe_int (fun _ _ => rfl)) pe_str rfl) (pe_ix ix_tup (pv 0) pe_int (fun _ _ => rfl)) (pe_tup pa_nil)))), ?_⟩
  rcases h with ⟨ns, ⟨q, h1, h2⟩, hq⟩ | ⟨x, r, hT, hx, hq⟩
  · refine ⟨_, rfl, b, _, 0, .str "fork", rfl, rfl, sqT_at h1, at0, rfl, ?_⟩
    rw [dec_str, tg_ff]
    exact ⟨true, rfl, _, rfl, b, _, 1, _, rfl, rfl, sqT_at h1, at1, hq q h2⟩
  · refine ⟨_, rfl, b, _, 0, .str x, rfl, rfl, hT, at0, rfl, ?_⟩
    rw [dec_str, hx]
    exact ⟨false, rfl, sz0, fun q nq => hq _ q (Kp.refl.new nq) sqT_new⟩
end RS

/-! text D8 -/
set_option Elab.async false
set_option linter.all false
set_option maxRecDepth 100000
set_option maxHeartbeats 1000000
/-! Store: parted, put_at, put. -/
namespace RS
open PySem PySem.Spec PyProof.Rows L2
theorem sc_Store_parted : FnScope ["self", "old", "other", "new", "own", "level", "one", "two"] ["self", "old", "other", "new", "own", "level"] (defScope s_Store_parted) := ⟨rfl, rfl, rfl, by decide +kernel, rfl, by decide +kernel, by decide +kernel⟩
theorem sc_Store_put_at : FnScope ["self", "number", "own", "name", "value", "level", "node", "at", "new"] ["self", "number", "own", "name", "value", "level"] (defScope s_Store_put_at) := ⟨rfl, rfl, rfl, by decide +kernel, rfl, by decide +kernel, by decide +kernel⟩
variable {P : Program} {w : World} {K : PySem.W.Frag} {mg : Str → Option Value} {base : Heap}
theorem rep_set {H : Hp} {as : List V} {f : Fin 4 → RS.T} {ns : Fin 4 → Nat} {d : Fin 4} {t : RS.T} {p : Nat} (h : ∀ e, Rep H as (f e) (ns e)) (ht : Rep H as t p) : ∀ e, Rep H as (updF f d t e) (setF ns d p e) := fun e => by
  unfold updF setF
  by_cases z : e = d
  · rw [if_pos z, if_pos z]; exact ht
  · rw [if_neg z, if_neg z]; exact h e
theorem rep_fork {H : Hp} {as : List V} {f : Fin 4 → RS.T} {ns : Fin 4 → Nat} {b : Addr} (h0 : 0 < as.length) (hF : ForkAt H b ns) (h : ∀ e, Rep H as (f e) (ns e)) : Rep H (as ++ [.ref b]) (.fork f) as.length :=
  ⟨by omega, b, ns, by rw [List.getElem?_append_right (Nat.le_refl _), Nat.sub_self]; rfl, hF, fun d => (h d).app _⟩
theorem rep_leaf {H : Hp} {as : List V} {m : Nat} {ps : List Pr} {b : Addr} (h0 : 0 < as.length) (hL : LeafAt H b m ps) : Rep H (as ++ [.ref b]) (.leaf m (ps.map (·.2))) as.length :=
  ⟨by omega, b, ps, by rw [List.getElem?_append_right (Nat.le_refl _), Nat.sub_self]; rfl, hL, rfl⟩
theorem StoA.tr {H : Hp} {a nod rows told : Addr} {as : List V} {tk : List (Key × V)} (h : StoA K H a nod rows told as tk) : told ≠ rows := fun e => by
  have h1 := h.tld
  rw [e, h.nod.lst] at h1
  cases h1
theorem StoA.rows {H H1 : Hp} {a nod rows told : Addr} {as bs : List V} {tk : List (Key × V)} (h : StoA K H a nod rows told as tk) (k : KQ K (Only rows) H H1) (e : H1 rows = some (.lst (as ++ bs))) : StoA K H1 a nod rows told (as ++ bs) tk :=
  ⟨h.obj.kp k, ⟨h.nod.obj.kp k, e⟩, k.dK h.tld h.tr, by rw [List.getElem?_append_left h.pos]; exact h.fst⟩
/-- behind a call that makes rows -/
def RowsOut (K : PySem.W.Frag) (H : Hp) (Q : VK) (rows : Addr) (as : List V) (c : Nat) (R : RS.T → Prop) : Prop := ∀ (H' : Hp) (bs : List V) (r : Nat) (t' : RS.T), KQ K (Only rows) H H' → H' rows = some (.lst (as ++ bs)) → bs.length ≤ c → Rep H' (as ++ bs) t' r → R t' → Q (.int r) H'
def spParted (K : PySem.W.Frag) (d : Nat) : Sp := fun vs H Q _ => ∃ (a nod rows told : Addr) (as : List V) (tk : List (Key × V)) (old mo new mn l : Nat) (po pn : List (Str × V)) (S : Str → Prop) (Pm : Nat → Prop),
  vs = [.ref a, .int old, .int mo, .int new, .int mn, .int l] ∧ StoA K H a nod rows told as tk ∧ as.length < 80000 ∧ Rep H as (.leaf mo po) old ∧ Rep H as (.leaf mn pn) new ∧ (RS.T.leaf mo po).WF S l Pm ∧ (RS.T.leaf mn pn).WF S l Pm ∧ (∃ j, l ≤ j ∧ j < 5 ∧ dig mo j ≠ dig mn j) ∧ 5 ≤ l + d ∧
  RowsOut K H Q rows as (5 - l) fun t' => t'.WF S l Pm ∧ ∀ x, val t'.ps x = (val po x).or (val pn x)
theorem d_Store_parted_ok (T : Tx K mg base) : ∀ d : Nat, Df P w K mg base CX0 (3 + d) (mA K "Store" "parted") (spParted K d) := fun d => by
  have h_Nodes_fork := d_Nodes_fork_ok (P := P) (w := w) T
  have h_with_part := d_with_part_ok (P := P) (w := w) T
  have h_digit := d_digit_ok (P := P) (w := w) T
  induction d with
  | zero =>
    refine df0 T.F_Store_parted sc_Store_parted (fun _ _ _ _ _ _ us hl => match us, hl with | [_, _, _, _, _, _], _ => rfl) (fun vs H Q E ⟨_, _, _, _, _, _, _, _, _, _, _, _, _, _, _, h, _⟩ => by rw [h]; rfl) fun cd A outer s H vs Q E hr h => ?_
    obtain ⟨a, nod, rows, told, as, tk, old, mo, new, mn, l, po, pn, S, Pm, rfl, St, hz, hO, hN, wO, wN, ⟨j, j1, j2, j3⟩, hl, q⟩ := h
    omega
  | succ d h_Store_parted =>
    refine df0 (k := 3 + d) T.F_Store_parted sc_Store_parted (fun _ _ _ _ _ _ us hl => match us, hl with | [_, _, _, _, _, _], _ => rfl) (fun vs H Q E ⟨_, _, _, _, _, _, _, _, _, _, _, _, _, _, _, h, _⟩ => by rw [h]; rfl) fun cd A outer s H vs Q E hr h => ?_
    obtain ⟨a, nod, rows, told, as, tk, old, mo, new, mn, l, po, pn, S, Pm, rfl, St, hz, hO, hN, wO, wN, ⟨j, j1, j2, j3⟩, hl, q⟩ := h
    refine ⟨_, (pss_cons (ps_par (i := 6) (j := 7) rfl sc_Store_parted.nd rfl rfl (by decide) rfl rfl (pa_cons (pe_c h_digit (hr.mono (by omega)) T.g_digit (pa_cons (pv 2) (pa_cons (pv 5) pa_nil))) (pa_cons (pe_c h_digit (hr.mono (by omega)) T.g_digit (pa_cons (pv 4) (pa_cons (pv 5) pa_nil))) pa_nil)) rfl)
    (pss_cons (ps_if (pt_cmpR op_eq (pv 6) (pv 7) rfl) (pss_one (ps_ret (pe_m h_Nodes_fork (hr.mono (by omega)) T.cl_Nodes T.me_Nodes_fork (pe_fld (pv 0) rfl) (pa_cons (pe_c h_with_part (hr.mono (by omega)) T.g_with_part (pa_cons (pe_gr rfl T.g_NO_PARTS) (pa_cons (pv 6) (pa_cons (pe_m h_Store_parted (hr.mono (by omega)) T.cl_Store T.me_Store_parted (pv 0) (pa_cons (pv 1) (pa_cons (pv 2) (pa_cons (pv 3) (pa_cons (pv 4) (pa_cons (pe_op op_add (pv 5) pe_int) pa_nil)))))) pa_nil)))) pa_nil)))) pss_nil)
    (pss_one (ps_ret (pe_m h_Nodes_fork (hr.mono (by omega)) T.cl_Nodes T.me_Nodes_fork (pe_fld (pv 0) rfl) (pa_cons (pe_c h_with_part (hr.mono (by omega)) T.g_with_part (pa_cons (pe_c h_with_part (hr.mono (by omega)) T.g_with_part (pa_cons (pe_gr rfl T.g_NO_PARTS) (pa_cons (pv 6) (pa_cons (pv 1) pa_nil)))) (pa_cons (pv 7) (pa_cons (pv 3) pa_nil)))) pa_nil)))))), ?_⟩
    obtain ⟨dx, ho⟩ := St.obj
    obtain ⟨dn, hn⟩ := St.nod.obj
    have hl5 : l < 5 := by omega
    refine ⟨_, rfl, _, rfl, mo, l, rfl, by omega, _, rfl, _, rfl, mn, l, rfl, by omega, _, _, rfl, ?_⟩
    by_cases e : dig mo l = dig mn l
    · have e1 : decide (V.int ((dig mo l).val : Nat) = V.int ((dig mn l).val : Nat)) = true := decide_eq_true (by rw [e])
      refine ⟨_, rfl, _, rfl, rfl, _, rfl, ?_⟩
      rw [e1]
      refine ⟨_, rfl, a, _, dx, _, _, rfl, ho, T.cl_Store, T.na_Store_nodes, rfl, nod, dn, _, rfl, hn, rfl, _, rfl, _, rfl, a, dx, _, rfl, ho, rfl, _, rfl, _, rfl, _, rfl, _, rfl, _, rfl, _, _, rfl, rfl, ?_⟩
      have jl : l + 1 ≤ j := by
        rcases Nat.lt_or_ge l j with z | z
        · exact z
        · have z2 : j = l := by omega
          rw [z2] at j3
          exact absurd e j3
      refine ⟨a, nod, rows, told, as, tk, old, mo, new, mn, l + 1, po, pn, S, fun m => Pm m ∧ dig m l = dig mo l, rfl, St, hz, hO, hN, ⟨⟨wO.1, rfl⟩, wO.2⟩, ⟨⟨wN.1, e.symm⟩, wN.2⟩, ⟨j, jl, j2, j3⟩, by omega, ?_⟩
      refine fun H1 bs r t1 k1 h1 hb hR1 ⟨w1, v1⟩ => ?_
      have St1 := St.rows k1 h1
      refine ⟨_, fun _ => 0, dig mo l, r, rfl, T.noparts _, fun H2 qd k2 hq2 => ?_⟩
      have St2 := St1.k0 k2
      have hbl : (as ++ bs).length < 90000 := by rw [List.length_append]; omega
      refine ⟨nod, rows, as ++ bs, qd, _, rfl, St2.nod, hbl, hq2, fun H3 b k3 h3 hF => ?_⟩
      obtain ⟨w3, v3⟩ := fork_one (S := S) (P := Pm) (d := dig mo l) hl5 w1
      refine q H3 (bs ++ [.ref b]) _ _ ((k1.trans k2.m0).trans k3) (by rw [h3, List.append_assoc]) (by rw [List.length_append, List.length_singleton]; omega) ?_ ⟨w3, fun x => by rw [v3, v1]⟩
      rw [← List.append_assoc]
      exact rep_fork St1.pos hF fun e => rep_set (f := bareF) (ns := fun _ => 0) (fun _ => rfl) ((hR1.kp k2).kp k3) e
    · have e1 : decide (V.int ((dig mo l).val : Nat) = V.int ((dig mn l).val : Nat)) = false := decide_eq_false fun z => e (Fin.ext (by injection z with z; omega))
      refine ⟨_, rfl, _, rfl, rfl, _, rfl, ?_⟩
      rw [e1]
      refine ⟨_, rfl, a, _, dx, _, _, rfl, ho, T.cl_Store, T.na_Store_nodes, rfl, nod, dn, _, rfl, hn, rfl, _, rfl, _, rfl, ?_⟩
      refine ⟨_, fun _ => 0, dig mo l, old, rfl, T.noparts _, fun H1 q1 k1 hq1 => ?_⟩
      refine ⟨_, rfl, _, rfl, q1, _, dig mn l, new, rfl, sqT_at hq1, fun H2 q2 k2 hq2 => ?_⟩
      have St2 := (St.k0 k1).k0 k2
      refine ⟨nod, rows, as, q2, _, rfl, St2.nod, by omega, hq2, fun H3 b k3 h3 hF => ?_⟩
      obtain ⟨w3, v3⟩ := fork_two (S := S) (P := Pm) (d := dig mo l) (e := dig mn l) (t1 := .leaf mo po) (t2 := .leaf mn pn) hl5 e ⟨⟨wO.1, rfl⟩, wO.2⟩ ⟨⟨wN.1, rfl⟩, wN.2⟩
      refine q H3 [.ref b] _ _ ((k1.trans k2).m0.trans k3) h3 (by rw [List.length_singleton]; omega) ?_ ⟨w3, v3⟩
      have kp3 : ∀ {t : RS.T} {n : Nat}, Rep H as t n → Rep H3 as t n := fun z => ((z.kp k1).kp k2).kp k3
      exact rep_fork St.pos hF fun e => rep_set (f := updF bareF (dig mo l) (.leaf mo po)) (ns := setF (fun _ => 0) (dig mo l) old) (fun e => rep_set (f := bareF) (ns := fun _ => 0) (fun _ => rfl) (kp3 hO) e) (kp3 hN) e
theorem nn_ne {H : Hp} {a b : Addr} {xs : List V} (h : H a = some (.lst xs)) (n : NN H b) : b ≠ a := fun e => by
  rw [e] at n
  obtain ⟨ps, z⟩ := n _ h
  cases z
theorem part_le (f : Fin 4 → RS.T) (d : Fin 4) : (f d).ps.length ≤ (RS.T.fork f).ps.length := by
  rw [ps_fork, List.length_append, List.length_append, List.length_append]
  rcases fin4 d with e | e | e | e <;> subst e <;> omega
/-- marks that a node at level l may hold -/
def Under (own l : Nat) (Pm : Nat → Prop) : Prop := own < 1024 ∧ Pm own ∧ ∀ m, Pm m → m < 1024 ∧ ∀ j, j < l → dig m j = dig own j
theorem Under.down {own l : Nat} {Pm : Nat → Prop} (h : Under own l Pm) : Under own (l + 1) fun m => Pm m ∧ dig m l = dig own l :=
  ⟨h.1, ⟨h.2.1, rfl⟩, fun m z => ⟨(h.2.2 m z.1).1, fun j hj => by
    rcases Nat.lt_or_ge j l with y | y
    · exact (h.2.2 m z.1).2 j y
    · rw [show j = l by omega]; exact z.2⟩⟩
theorem Under.unlike {own l m : Nat} {Pm : Nat → Prop} (h : Under own l Pm) (hm : Pm m) (ne : m ≠ own) : ∃ j, l ≤ j ∧ j < 5 ∧ dig m j ≠ dig own j := by
  rcases Classical.em (∃ j, l ≤ j ∧ j < 5 ∧ dig m j ≠ dig own j) with z | z
  · exact z
  · exact absurd (eq_of_digs (h.2.2 m hm).1 h.1 fun j hj => by
      rcases Nat.lt_or_ge j l with y | y
      · exact (h.2.2 m hm).2 j y
      · rcases Classical.em (dig m j = dig own j) with x | x
        · exact x
        · exact absurd ⟨j, y, hj, x⟩ z) ne
def spPutAt (K : PySem.W.Frag) (d : Nat) : Sp := fun vs H Q _ => ∃ (a nod rows told : Addr) (as : List V) (tk : List (Key × V)) (n l : Nat) (x : Str) (v : V) (t : RS.T) (S : Str → Prop) (Pm : Nat → Prop),
  vs = [.ref a, .int n, .int (markN x : Nat), .str x, v, .int l] ∧ StoA K H a nod rows told as tk ∧ as.length < 70000 ∧ LamX.Tabs (TT K) H ∧ Rep H as t n ∧ t.WF S l Pm ∧ t.ps.length ≤ 40 ∧ Under (markN x) l Pm ∧ S x ∧ isVal v = true ∧ l ≤ 5 ∧ 6 ≤ l + d ∧
  RowsOut K H Q rows as (6 - l) fun t' => t'.WF S l Pm ∧ ButT t x (some v) t'
theorem d_Store_put_at_ok (T : Tx K mg base) : ∀ d : Nat, Df P w K mg base CX0 (4 + d) (mA K "Store" "put_at") (spPutAt K d) := fun d => by
  have h_Nodes_at := d_Nodes_at_ok (P := P) (w := w) T
  have h_Nodes_fork := d_Nodes_fork_ok (P := P) (w := w) T
  have h_Nodes_leaf := d_Nodes_leaf_ok (P := P) (w := w) T
  have h_is_fork := d_is_fork_ok (P := P) (w := w) T
  have h_is_leaf := d_is_leaf_ok (P := P) (w := w) T
  have h_with_part := d_with_part_ok (P := P) (w := w) T
  have h_pairs_with := d_pairs_with_ok (P := P) (w := w) T
  have h_digit := d_digit_ok (P := P) (w := w) T
  induction d with
  | zero =>
    refine df0 T.F_Store_put_at sc_Store_put_at (fun _ _ _ _ _ _ us hl => match us, hl with | [_, _, _, _, _, _], _ => rfl) (fun vs H Q E ⟨_, _, _, _, _, _, _, _, _, _, _, _, _, h, _⟩ => by rw [h]; rfl) fun cd A outer s H vs Q E hr h => ?_
    obtain ⟨a, nod, rows, told, as, tk, n, l, x, v, t, S, Pm, rfl, St, hz, hT, hR, hW, hps, hU, hS, hv, hl5, hl, q⟩ := h
    omega
  | succ d h_Store_put_at =>
    have h_Store_parted := d_Store_parted_ok (P := P) (w := w) T d
    refine df0 (k := 4 + d) T.F_Store_put_at sc_Store_put_at (fun _ _ _ _ _ _ us hl => match us, hl with | [_, _, _, _, _, _], _ => rfl) (fun vs H Q E ⟨_, _, _, _, _, _, _, _, _, _, _, _, _, h, _⟩ => by rw [h]; rfl) fun cd A outer s H vs Q E hr h => ?_
    obtain ⟨a, nod, rows, told, as, tk, n, l, x, v, t, S, Pm, rfl, St, hz, hT, hR, hW, hps, hU, hS, hv, hl5, hl, q⟩ := h
    refine ⟨_, (pss_cons (ps_set (i := 6) sc_Store_put_at.nd rfl (.inl rfl) (pe_m h_Nodes_at (hr.mono (by omega)) T.cl_Nodes T.me_Nodes_at (pe_fld (pv 0) rfl) (pa_cons (pv 1) pa_nil)))
    (pss_cons (ps_if (pt_val (pe_c h_is_fork (hr.mono (by omega)) T.g_is_fork (pa_cons (pv 6) pa_nil))) (pss_cons (ps_set (i := 7) sc_Store_put_at.nd rfl (.inl rfl) (pe_c h_digit (hr.mono (by omega)) T.g_digit (pa_cons (pv 2) (pa_cons (pv 5) pa_nil))))
    (pss_one (ps_ret (pe_m h_Nodes_fork (hr.mono (by omega)) T.cl_Nodes T.me_Nodes_fork (pe_fld (pv 0) rfl) (pa_cons (pe_c h_with_part (hr.mono (by omega)) T.g_with_part (pa_cons (pe_ix ix_tup (pv 6) pe_int (fun _ _ => rfl)) (pa_cons (pv 7) (pa_cons (pe_m h_Store_put_at (hr.mono (by omega)) T.cl_Store T.me_Store_put_at (pv 0) (pa_cons (pe_ix ix_tup (pe_ix ix_tup (pv 6) pe_int (fun _ _ => rfl)) (pv 7) (fun _ _ => rfl)) (pa_cons (pv 2) (pa_cons (pv 3) (pa_cons (pv 4) (pa_cons (pe_op op_add (pv 5) pe_int) pa_nil)))))) pa_nil)))) pa_nil))))) pss_nil)
    (pss_cons (ps_if (pw_and (pt_val (pe_c h_is_leaf (hr.mono (by omega)) T.g_is_leaf (pa_cons (pv 6) pa_nil))) (pw_and1 (pt_cmpR op_eq (pe_ix ix_tup (pv 6) pe_int (fun _ _ => rfl)) (pv 2) rfl))).pt (pss_one (ps_ret (pe_m h_Nodes_leaf (hr.mono (by omega)) T.cl_Nodes T.me_Nodes_leaf (pe_fld (pv 0) rfl) (pa_cons (pv 2) (pa_cons (pe_c h_pairs_with (hr.mono (by omega)) T.g_pairs_with (pa_cons (pe_ix ix_tup (pv 6) pe_int (fun _ _ => rfl)) (pa_cons (pv 3) (pa_cons (pv 4) pa_nil)))) pa_nil))))) pss_nil)
    (pss_cons (ps_set (i := 8) sc_Store_put_at.nd rfl (.inl rfl) (pe_m h_Nodes_leaf (hr.mono (by omega)) T.cl_Nodes T.me_Nodes_leaf (pe_fld (pv 0) rfl) (pa_cons (pv 2) (pa_cons (pe_lst (pa_cons (pe_tup (pa_cons (pv 3) (pa_cons (pv 4) pa_nil))) pa_nil)) pa_nil))))
    (pss_cons (ps_if (pt_val (pe_c h_is_leaf (hr.mono (by omega)) T.g_is_leaf (pa_cons (pv 6) pa_nil))) (pss_one (ps_ret (pe_m h_Store_parted (hr.mono (by omega)) T.cl_Store T.me_Store_parted (pv 0) (pa_cons (pv 1) (pa_cons (pe_ix ix_tup (pv 6) pe_int (fun _ _ => rfl)) (pa_cons (pv 8) (pa_cons (pv 2) (pa_cons (pv 5) pa_nil)))))))) pss_nil)
    (pss_one (ps_ret (pv 8)))))))), ?_⟩
    obtain ⟨dx, ho⟩ := St.obj
    obtain ⟨dn, hn⟩ := St.nod.obj
    have wnew : (RS.T.leaf (markN x) [(x, v)]).WF S l Pm := ⟨hU.2.1, (fun e => nomatch e), fun q hq => by rw [List.mem_singleton.mp hq]; exact ⟨hS, rfl, hv⟩, by simp⟩
    refine ⟨_, rfl, a, _, dx, _, _, rfl, ho, T.cl_Store, T.na_Store_nodes, rfl, nod, dn, _, rfl, hn, rfl, _, rfl, nod, rows, as, n, ?_⟩
    cases t with
    | fork f =>
      obtain ⟨h0, b, ns, hb, ⟨qn, l1, hq⟩, hd⟩ := hR
      have hl4 : l < 5 := hW.1
      refine ⟨_, rfl, St.nod, hb, _, rfl, b, _, _, rfl, sqT_at l1, _, rfl, ?_⟩
      rw [tg_ff]
      refine ⟨_, rfl, _, rfl, markN x, l, rfl, by omega, ?_⟩
      refine ⟨_, rfl, a, _, dx, _, _, rfl, ho, T.cl_Store, T.na_Store_nodes, rfl, nod, dn, _, rfl, hn, rfl, _, rfl, b, _, 1, _, rfl, rfl, sqT_at l1, at1, _, rfl, _, rfl, a, dx, _, rfl, ho, rfl, _, rfl, b, _, 1, _, rfl, rfl, sqT_at l1, at1, _, rfl, qn, _, _, _, rfl, rfl, sqT_at hq, four_at _, _, rfl, _, rfl, _, rfl, _, rfl, _, _, rfl, rfl, ?_⟩
      refine ⟨a, nod, rows, told, as, tk, ns (dig (markN x) l), l + 1, x, v, f (dig (markN x) l), S, _, rfl, St, hz, hT, hd _, hW.2 _, Nat.le_trans (part_le f _) hps, hU.down, hS, hv, by omega, by omega, ?_⟩
      refine fun H1 bs r t1 k1 h1 hb1 hR1 ⟨w1, v1⟩ => ?_
      have St1 := St.rows k1 h1
      refine ⟨qn, ns, dig (markN x) l, r, rfl, sqT_at (k1.tup hq), fun H2 qd k2 hq2 => ?_⟩
      have St2 := St1.k0 k2
      have hbl : (as ++ bs).length < 90000 := by rw [List.length_append]; omega
      refine ⟨nod, rows, as ++ bs, qd, _, rfl, St2.nod, hbl, hq2, fun H3 b3 k3 h3 hF => ?_⟩
      refine q H3 (bs ++ [.ref b3]) _ _ ((k1.trans k2.m0).trans k3) (by rw [h3, List.append_assoc]) (by rw [List.length_append, List.length_singleton]; omega) ?_ (fork_put hW w1 v1)
      rw [← List.append_assoc]
      exact rep_fork St1.pos hF fun e => rep_set (f := f) (ns := ns) (fun e => (((hd e).kp ((k1.trans k2.m0).trans k3)).app bs)) ((hR1.kp k2).kp k3) e
    | bare =>
      obtain ⟨b, tag, r, hb, hTg, hF, hL⟩ := row_of T St.fst hR
      refine ⟨_, rfl, St.nod, hb, _, rfl, b, _, _, rfl, hTg, _, rfl, ?_⟩
      rw [hF]
      refine ⟨_, rfl, b, _, _, rfl, hTg, _, rfl, ?_⟩
      rw [hL]
      refine ⟨_, rfl, a, _, dx, _, _, rfl, ho, T.cl_Store, T.na_Store_nodes, rfl, nod, dn, _, rfl, hn, rfl, _, rfl, _, rfl, _, rfl, sz2, fun p np => ⟨sz1, fun li nli => ?_⟩⟩
      have k1 : KQ K M0 H (upd H p (.tup [.str x, v])) := Kp.refl.new np
      have k2 : KQ K M0 (upd H p (.tup [.str x, v])) (upd (upd H p (.tup [.str x, v])) li (.lst [.ref p])) := Kp.refl.new nli
      have St2 := (St.k0 k1).k0 k2
      refine ⟨nod, rows, as, markN x, li, [(p, x, v)], rfl, St2.nod, by omega, upd_same, ?_, ?_, fun H3 b3 k3 h3 hL3 => ?_⟩
      · exact nn_ne St.nod.lst (k1.s li (.of nli))
      · exact fun z m => by rw [List.mem_singleton.mp m]; exact k2.tup upd_same
      have St3 := St2.rows k3 h3
      obtain ⟨b4, tag4, r4, hb4, hTg4, hF4, hL4⟩ := row_of T St.fst hR
      have hTg5 : SqT K H3 b (.str tag :: r) := k3.sqT (k2.sqT (k1.sqT hTg))
      refine ⟨_, rfl, b, _, _, rfl, hTg5, _, rfl, ?_⟩
      rw [hL]
      refine ⟨_, rfl, ?_⟩
      refine q H3 [.ref b3] _ _ ((k1.trans k2).m0.trans k3) h3 (by rw [List.length_singleton]; omega) (rep_leaf St.pos hL3) ⟨wnew, fun y => ?_⟩
      show (if x = y then some v else none) = if y = x then some v else none
      by_cases e : x = y
      · rw [if_pos e, if_pos e.symm]
      · rw [if_neg e, if_neg (Ne.symm e)]
    | leaf m ps =>
      have hR0 := hR
      obtain ⟨h0, b, qs, hb, ⟨q2, l1, l2, l3⟩, hqs⟩ := hR
      have hql : qs.length ≤ 40 := by
        have z : (RS.T.leaf m ps).ps = ps := rfl
        rw [z, ← hqs, List.length_map] at hps
        exact hps
      refine ⟨_, rfl, St.nod, hb, _, rfl, b, _, _, rfl, sqT_at l1, _, rfl, ?_⟩
      rw [tg_lf]
      refine ⟨_, rfl, b, _, _, rfl, sqT_at l1, _, rfl, ?_⟩
      rw [tg_ll]
      refine ⟨_, rfl, b, _, 1, .int m, rfl, rfl, sqT_at l1, at1, _, rfl, rfl, _, rfl, ?_⟩
      by_cases e : m = markN x
      · have e1 : decide (V.int (m : Nat) = V.int (markN x : Nat)) = true := decide_eq_true (by rw [e])
        rw [e1]
        refine ⟨_, rfl, a, _, dx, _, _, rfl, ho, T.cl_Store, T.na_Store_nodes, rfl, nod, dn, _, rfl, hn, rfl, _, rfl, _, rfl, b, _, 2, _, rfl, rfl, sqT_at l1, at2, _, rfl, _, rfl, ?_⟩
        refine ⟨q2, x, v, qs, rfl, l2.sq, l3, hql, hT, fun H1 li ps2 k1 nn hli hp2 hperm => ?_⟩
        have St1 := St.k0 k1
        refine ⟨nod, rows, as, markN x, li, ps2, rfl, St1.nod, by omega, hli, nn_ne St.nod.lst nn, hp2, fun H3 b3 k3 h3 hL3 => ?_⟩
        rw [hqs] at hperm
        have z := rep_leaf St.pos hL3
        refine q H3 [.ref b3] _ _ (k1.m0.trans k3) h3 (by rw [List.length_singleton]; omega) z ?_
        rw [← e]
        exact leaf_put hW e.symm hS hv hperm
      · have e1 : decide (V.int (m : Nat) = V.int (markN x : Nat)) = false := decide_eq_false fun z => e (by injection z with z; omega)
        rw [e1]
        refine ⟨_, rfl, a, _, dx, _, _, rfl, ho, T.cl_Store, T.na_Store_nodes, rfl, nod, dn, _, rfl, hn, rfl, _, rfl, _, rfl, _, rfl, sz2, fun p np => ⟨sz1, fun li nli => ?_⟩⟩
        have k1 : KQ K M0 H (upd H p (.tup [.str x, v])) := Kp.refl.new np
        have k2 : KQ K M0 (upd H p (.tup [.str x, v])) (upd (upd H p (.tup [.str x, v])) li (.lst [.ref p])) := Kp.refl.new nli
        have St2 := (St.k0 k1).k0 k2
        refine ⟨nod, rows, as, markN x, li, [(p, x, v)], rfl, St2.nod, by omega, upd_same, ?_, ?_, fun H3 b3 k3 h3 hL3 => ?_⟩
        · exact nn_ne St.nod.lst (k1.s li (.of nli))
        · exact fun z m => by rw [List.mem_singleton.mp m]; exact k2.tup upd_same
        have St3 := St2.rows k3 h3
        have k03 : KQ K (Only rows) H H3 := (k1.trans k2).m0.trans k3
        obtain ⟨dx3, ho3⟩ := St3.obj
        refine ⟨_, rfl, b, _, _, rfl, sqT_at (k03.tup l1), _, rfl, ?_⟩
        rw [tg_ll]
        refine ⟨_, rfl, a, dx3, _, rfl, ho3, rfl, _, rfl, _, rfl, b, _, 1, _, rfl, rfl, sqT_at (k03.tup l1), at1, _, rfl, _, rfl, _, rfl, ?_⟩
        have hm : Pm m := hW.1
        refine ⟨a, nod, rows, told, as ++ [.ref b3], tk, n, m, as.length, markN x, l, ps, [(x, v)], S, Pm, rfl, St3, by rw [List.length_append, List.length_singleton]; omega, (hR0.kp k03).app _, rep_leaf St.pos hL3, hW, wnew, hU.unlike hm e, by omega, ?_⟩
        refine fun H4 bs r t1 k4 h4 hb4 hR4 ⟨w4, v4⟩ => ?_
        refine q H4 ([.ref b3] ++ bs) r t1 (k03.trans k4) (by rw [h4, List.append_assoc]) (by rw [List.length_append, List.length_singleton]; obtain ⟨j, j1, j2, _⟩ := hU.unlike hm e; omega) (by rw [← List.append_assoc]; exact hR4) ⟨w4, fun y => ?_⟩
        rw [v4]
        show (val ps y).or (if x = y then some v else none) = if y = x then some v else val ps y
        by_cases e2 : x = y
        · rw [if_pos e2, if_pos e2.symm, val_leaf_ne hW (by rw [← e2]; exact Ne.symm e)]
          rfl
        · rw [if_neg e2, if_neg (Ne.symm e2)]
          cases val ps y <;> rfl
end RS

/-! text D9 -/
set_option Elab.async false
set_option linter.all false
set_option maxRecDepth 100000
set_option maxHeartbeats 1000000
/-! Store: put, lone_leaf, left_at, without. -/
namespace RS
open PySem PySem.Spec PyProof.Rows L2
theorem sc_Store_put : FnScope ["self", "table", "name", "value"] ["self", "table", "name", "value"] (defScope s_Store_put) := ⟨rfl, rfl, rfl, by decide +kernel, rfl, by decide +kernel, by decide +kernel⟩
theorem sc_Store_lone_leaf : FnScope ["self", "parts", "found", "part"] ["self", "parts"] (defScope s_Store_lone_leaf) := ⟨rfl, rfl, rfl, by decide +kernel, rfl, by decide +kernel, by decide +kernel⟩
theorem sc_Store_left_at : FnScope ["self", "number", "own", "name", "level", "node", "at", "parts", "leaf", "pairs"] ["self", "number", "own", "name", "level"] (defScope s_Store_left_at) := ⟨rfl, rfl, rfl, by decide +kernel, rfl, by decide +kernel, by decide +kernel⟩
theorem sc_Store_without : FnScope ["self", "table", "name"] ["self", "table", "name"] (defScope s_Store_without) := ⟨rfl, rfl, rfl, by decide +kernel, rfl, by decide +kernel, by decide +kernel⟩
variable {P : Program} {w : World} {K : PySem.W.Frag} {mg : Str → Option Value} {base : Heap}
abbrev Root : Nat → Prop := fun m => m < 1024
abbrev Two (a b : Addr) : Addr → Prop := fun c => c = a ∨ c = b
/-- behind put and without: the store grows -/
def StoOut (K : PySem.W.Frag) (H : Hp) (Q : VK) (a nod rows told : Addr) (as : List V) (tk : List (Key × V)) (R : RS.T → Prop) : Prop := ∀ (H' : Hp) (bs : List V) (tk' : List (Key × V)) (r : Nat) (t' : RS.T),
  KQ K (Two rows told) H H' → StoA K H' a nod rows told (as ++ bs) tk' → bs.length ≤ 7 → tk'.length ≤ tk.length + 1 → (∀ k, (valV tk k).isSome = true → (valV tk' k).isSome = true) → (valV tk' (.inl (r : Int))).isSome = true → Rep H' (as ++ bs) t' r → R t' → Q (.int r) H'
theorem StoOut.same {H H' : Hp} {Q : VK} {a nod rows told : Addr} {as : List V} {tk : List (Key × V)} {R : RS.T → Prop} {n : Nat} {t : RS.T} (q : StoOut K H Q a nod rows told as tk R) (k : KQ K M0 H H') (St : StoA K H a nod rows told as tk) (ht : (valV tk (.inl (n : Int))).isSome = true) (hR : Rep H as t n) (r : R t) : Q (.int n) H' :=
  q H' [] tk n t k.m0 (by rw [List.append_nil]; exact St.k0 k) (Nat.zero_le _) (by omega) (fun _ z => z) ht (by rw [List.append_nil]; exact hR.kp k) r
theorem StoOut.told {H H1 H2 : Hp} {Q : VK} {a nod rows told : Addr} {as bs : List V} {tk : List (Key × V)} {R : RS.T → Prop} {r : Nat} {t : RS.T} (q : StoOut K H Q a nod rows told as tk R) (St : StoA K H a nod rows told as tk) (k0 : KQ K M0 H H1) (k : KQ K (Only rows) H1 H2) (e : H2 rows = some (.lst (as ++ bs))) (hb : bs.length ≤ 7) (hR : Rep H2 (as ++ bs) t r) (rt : R t) :
    StoA K H2 a nod rows told (as ++ bs) tk ∧ Q (.int r) (upd H2 told (.dK (putK tk (.inl r) (.bl true)))) := by
  have St2 := (St.k0 k0).rows k e
  have k2 : KQ K (Two rows told) H2 (upd H2 told (.dK (putK tk (.inl r) (.bl true)))) := Kp.refl.updD (.inr rfl) St2.tld
  refine ⟨St2, q _ bs _ r t ((k0.m0.trans (k.mono fun b z => .inl z)).trans k2) ⟨St2.obj.kp k2, ⟨St2.nod.obj.kp k2, ?_⟩, upd_same, St2.fst⟩ hb (length_putK _ _ _) (fun k z => ?_) ?_ (hR.kp k2) rt⟩
  · rw [upd_ne (Ne.symm St2.tr)]
    exact e
  · rw [valV_put]
    by_cases y : k = .inl (r : Int)
    · rw [if_pos y]; rfl
    · rw [if_neg y]; exact z
  · rw [valV_put, if_pos rfl]
    rfl
theorem root_under {x : Str} (g : GoodN x) : Under (markN x) 0 Root := ⟨g.mark_lt, g.mark_lt, fun m h => ⟨h, fun j z => absurd z (Nat.not_lt_zero _)⟩⟩
theorem val_getD {t : RS.T} {S : Str → Prop} {l : Nat} {Pm : Nat → Prop} {x : Str} {v : V} (w : t.WF S l Pm) (hv : isVal v = true) (e : (val t.ps x).getD .non = v) : val t.ps x = some v := by
  cases h : val t.ps x with
  | none => rw [h] at e; exact absurd e.symm (isVal.ne hv)
  | some u => rw [h] at e; rw [show u = v from e]
theorem val_sc {t : RS.T} {S : Str → Prop} {l : Nat} {Pm : Nat → Prop} (w : t.WF S l Pm) (x : Str) : Sc ((val t.ps x).getD .non) := by
  cases h : val t.ps x with
  | none => exact .inl rfl
  | some u => exact .inr (w.each _ (val_mem h)).2.2
def spSPut (K : PySem.W.Frag) : Sp := fun vs H Q _ => ∃ (a nod rows told : Addr) (as : List V) (tk : List (Key × V)) (n : Nat) (x : Str) (v : V) (t : RS.T) (S : Str → Prop),
  vs = [.ref a, .int n, .str x, v] ∧ StoA K H a nod rows told as tk ∧ (valV tk (.inl n)).isSome = true ∧ as.length < 70000 ∧ tk.length < 80000 ∧ LamX.Tabs (TT K) H ∧ Rep H as t n ∧ t.WF S 0 Root ∧ t.ps.length ≤ 40 ∧ GoodN x ∧ S x ∧ isVal v = true ∧
  StoOut K H Q a nod rows told as tk fun t' => t'.WF S 0 Root ∧ ButT t x (some v) t'
theorem d_Store_put_ok (T : Tx K mg base) : Df P w K mg base CX0 11 (mA K "Store" "put") (spSPut K) := by
  have h_alike := d_alike_ok (P := P) (w := w) T
  have h_mark := d_mark_ok (P := P) (w := w) T
  have h_Store_looked := d_Store_looked_ok (P := P) (w := w) T
  have h_Store_tell := d_Store_tell_ok (P := P) (w := w) T
  have h_Store_put_at := d_Store_put_at_ok (P := P) (w := w) T 6
  refine df0 T.F_Store_put sc_Store_put (fun _ _ _ _ _ _ us hl => match us, hl with | [_, _, _, _], _ => rfl) (fun vs H Q E ⟨_, _, _, _, _, _, _, _, _, _, _, h, _⟩ => by rw [h]; rfl) fun cd A outer s H vs Q E hr h => ?_
  obtain ⟨a, nod, rows, told, as, tk, n, x, v, t, S, rfl, St, ht, hz, hz2, hT, hR, hW, hps, gx, hS, hv, q⟩ := h
  refine ⟨_, (pss_cons (ps_if (pt_val (pe_c h_alike (hr.mono (by decide)) T.g_alike (pa_cons (pe_m h_Store_looked (hr.mono (by decide)) T.cl_Store T.me_Store_looked (pv 0) (pa_cons (pv 1) (pa_cons (pv 2) pa_nil))) (pa_cons (pv 3) pa_nil)))) (pss_one (ps_ret (pv 1))) pss_nil)
    (pss_one (ps_ret (pe_m h_Store_tell (hr.mono (by decide)) T.cl_Store T.me_Store_tell (pv 0) (pa_cons (pe_m h_Store_put_at (hr.mono (by decide)) T.cl_Store T.me_Store_put_at (pv 0) (pa_cons (pv 1) (pa_cons (pe_c h_mark (hr.mono (by decide)) T.g_mark (pa_cons (pv 2) pa_nil)) (pa_cons (pv 2) (pa_cons (pv 3) (pa_cons pe_int pa_nil)))))) pa_nil))))), ?_⟩
  obtain ⟨dx, ho⟩ := St.obj
  refine ⟨_, rfl, a, dx, _, rfl, ho, rfl, _, rfl, _, rfl, a, nod, rows, told, as, tk, n, x, t, S, Root, rfl, St, ht, gx, hR, hW, fun H1 k1 => ?_⟩
  refine ⟨_, rfl, _, _, rfl, val_sc hW x, .inr hv, ?_⟩
  by_cases e : (val t.ps x).getD .non = v
  · rw [decide_eq_true e]
    refine ⟨_, rfl, _, rfl, q.same k1 St ht hR ⟨hW, fun y => ?_⟩⟩
    by_cases e2 : y = x
    · rw [if_pos e2, e2]; exact val_getD hW hv e
    · rw [if_neg e2]
  · rw [decide_eq_false e]
    have St1 := St.k0 k1
    obtain ⟨dx1, ho1⟩ := St1.obj
    refine ⟨_, rfl, _, rfl, a, dx1, _, rfl, ho1, rfl, _, rfl, a, dx1, _, rfl, ho1, rfl, _, rfl, _, rfl, x, rfl, gx, fun H2 k2 => ?_⟩
    have St2 := St1.k0 k2
    refine ⟨_, rfl, _, rfl, a, nod, rows, told, as, tk, n, 0, x, v, t, S, Root, rfl, St2, hz, k2.t (k1.t hT), (hR.kp k1).kp k2, hW, hps, root_under gx, hS, hv, by omega, by omega, fun H3 bs r t' k3 h3 hb hR' hR2 => ?_⟩
    obtain ⟨St3, q3⟩ := q.told St (k1.trans k2) k3 h3 (by omega) hR' hR2
    exact ⟨a, nod, rows, told, as ++ bs, tk, r, rfl, St3, by omega, q3⟩
/-! ### without -/
def spLone (K : PySem.W.Frag) : Sp := fun vs H Q _ => ∃ (a nod rows told p : Addr) (as : List V) (tk : List (Key × V)) (f : Fin 4 → RS.T) (ns : Fin 4 → Nat), vs = [.ref a, .ref p] ∧ StoA K H a nod rows told as tk ∧ SqT K H p (four ns) ∧ (∀ d, Rep H as (f d) (ns d)) ∧
  ∀ H' v, KQ K M0 H H' → (v = .non ∨ ∃ (d : Fin 4) (m : Nat) (ps : List (Str × V)), f d = .leaf m ps ∧ (∀ e, e ≠ d → f e = .bare) ∧ v = .int (ns d)) → Q v H'
def nzP (z : V) : Bool := decide (z ≠ .int 0)
theorem nz_t {n : Nat} (h : n ≠ 0) : nzP (.int n) = true := decide_eq_true fun z => h (by injection z with z; omega)
theorem nz_f {n : Nat} (h : n = 0) : nzP (.int n) = false := decide_eq_false fun z => z (by rw [h]; rfl)
theorem four_one {ns : Fin 4 → Nat} (h : ((four ns).filter nzP).length = 1) : ∃ d, (∀ e, e ≠ d → ns e = 0) ∧ (four ns).filter nzP = [.int (ns d)] := by
  have step : ∀ (n : Nat) (r : List V), (V.int n :: r).filter nzP = if n = 0 then r.filter nzP else V.int n :: r.filter nzP := fun n r => by
    by_cases e : n = 0
    · rw [if_pos e, List.filter_cons_of_neg (by rw [nz_f e]; exact Bool.false_ne_true)]
    · rw [if_neg e, List.filter_cons_of_pos (nz_t e)]
  have all4 : ∀ {p : Fin 4 → Prop}, p 0 → p 1 → p 2 → p 3 → ∀ e, p e := fun h0 h1 h2 h3 e => by
    rcases fin4 e with z | z | z | z <;> rw [z] <;> assumption
  unfold four at h ⊢
  rw [step, step, step, step, List.filter_nil] at h ⊢
  by_cases h0 : ns 0 = 0 <;> by_cases h1 : ns 1 = 0 <;> by_cases h2 : ns 2 = 0 <;> by_cases h3 : ns 3 = 0 <;> simp only [h0, h1, h2, h3, if_true, if_false, List.length_cons, List.length_nil] at h ⊢ <;> first
    | omega
    | exact ⟨3, all4 (fun _ => h0) (fun _ => h1) (fun _ => h2) (fun z => absurd rfl z), rfl⟩
    | exact ⟨2, all4 (fun _ => h0) (fun _ => h1) (fun z => absurd rfl z) (fun _ => h3), rfl⟩
    | exact ⟨1, all4 (fun _ => h0) (fun z => absurd rfl z) (fun _ => h2) (fun _ => h3), rfl⟩
    | exact ⟨0, all4 (fun z => absurd rfl z) (fun _ => h1) (fun _ => h2) (fun _ => h3), rfl⟩
theorem rep_zero {H : Hp} {as : List V} {t : RS.T} (h : Rep H as t 0) : t = .bare := by
  cases t with
  | bare => rfl
  | leaf m ps => exact absurd rfl h.1
  | fork f => exact absurd rfl h.1
theorem d_Store_lone_leaf_ok (T : Tx K mg base) : Df P w K mg base CX0 2 (mA K "Store" "lone_leaf") (spLone K) := by
  have h_Nodes_at := d_Nodes_at_ok (P := P) (w := w) T
  have h_is_leaf := d_is_leaf_ok (P := P) (w := w) T
  refine df0 T.F_Store_lone_leaf sc_Store_lone_leaf (fun _ _ _ _ _ _ us hl => match us, hl with | [_, _], _ => rfl) (fun vs H Q E ⟨_, _, _, _, _, _, _, _, _, h, _⟩ => by rw [h]; rfl) fun cd A outer s H vs Q E hr h => ?_
  obtain ⟨a, nod, rows, told, p, as, tk, f, ns, rfl, St, hS, hR, q⟩ := h
  refine ⟨_, (pss_cons (ps_setLc (i := 2) rfl sc_Store_lone_leaf.nd rfl rfl rfl (pi_tup (pv 1)) (blkOk_by (own := [("part", 3)]) (by kernel_rfl)) (fun _ _ _ _ _ => (pg_name (i := 3) sc_Store_lone_leaf.nd rfl (.inl rfl) (.inr rfl))) (fun _ _ _ _ _ => (pts_one (pt_cmpR op_ne (pv 3) (pe_gi rfl T.i_BARE) rfl))) (fun _ _ _ _ _ => (pv 3)))
    (pss_cons (ps_if (PW.pt (pw_and (pt_cmpR op_eq (pe_callB call_len_seq rfl T.b_len boot_len (pa_cons (pv 2) pa_nil)) pe_int rfl) (pw_and1 (pt_val (pe_c h_is_leaf (hr.mono (by decide)) T.g_is_leaf (pa_cons (pe_m h_Nodes_at (hr.mono (by decide)) T.cl_Nodes T.me_Nodes_at (pe_fld (pv 0) rfl) (pa_cons (pe_ix ix_list (pv 2) pe_int (fun _ _ => rfl)) pa_nil)) pa_nil)))))) (pss_one (ps_ret (pe_ix ix_list (pv 2) pe_int (fun _ _ => rfl)))) pss_nil)
    (pss_one (ps_ret pe_non)))), ?_⟩
  refine ⟨_, rfl, p, rfl, ⟨_, hS⟩, fun D nD => ?_⟩
  refine lc_tup (xs := four ns) (fun i H' => KQ K M0 H H' ∧ H' D = some (.lst (((four ns).take i).filter fun z => decide (z ≠ .int 0)))) ⟨Kp.refl.new nD, upd_same⟩ (fun i H' _ p => p.1.sqT hS) (fun i x H' hx p => ?_) fun H' p => ?_
  · obtain ⟨kp, hD⟩ := p
    have hxi : ∃ j : Nat, x = .int j := by
      have z := List.mem_of_getElem? hx
      simp only [four, List.mem_cons, List.not_mem_nil, or_false] at z
      rcases z with z | z | z | z <;> exact ⟨_, z⟩
    obtain ⟨j, rfl⟩ := hxi
    refine ⟨rfl, _, rfl, rfl, _, rfl, ?_⟩
    rw [take_filter _ hx]
    by_cases e : (j : Nat) = 0
    · have e2 : decide (V.int (j : Nat) ≠ V.int 0) = false := decide_eq_false fun z => z (by rw [e]; rfl)
      have e3 : decide (V.int (j : Nat) = V.int 0) = true := decide_eq_true (by rw [e]; rfl)
      rw [e2, e3, if_neg Bool.false_ne_true, List.append_nil]
      exact ⟨kp, hD⟩
    · have e2 : decide (V.int (j : Nat) ≠ V.int 0) = true := decide_eq_true fun z => e (by injection z with z; omega)
      have e3 : decide (V.int (j : Nat) = V.int 0) = false := decide_eq_false fun z => e (by injection z with z; omega)
      rw [e2, e3, if_pos rfl]
      refine ⟨_, rfl, _, hD, ?_, kp.mutL (.of nD) hD, by rw [upd_same]⟩
      exact sz_lt (Nat.lt_of_le_of_lt (filter_le _ _ _) (by show 4 < _; omega))
  · obtain ⟨kp, hD⟩ := p
    rw [show (four ns).take (four ns).length = four ns from List.take_length] at hD
    have hD2 : H' D = some (.lst ((four ns).filter nzP)) := hD
    refine ⟨_, rfl, D, _, rfl, .inl (sqL_at hD2), rfl, _, rfl, ?_⟩
    by_cases e : ((four ns).filter nzP).length = 1
    · have e1 : decide (V.int (((four ns).filter nzP).length : Nat) = V.int 1) = true := decide_eq_true (by rw [e]; rfl)
      rw [e1]
      obtain ⟨d, h0, hf⟩ := four_one e
      rw [hf] at hD2
      have St1 := St.k0 kp
      obtain ⟨dx, ho⟩ := St1.obj
      obtain ⟨dn, hn⟩ := St1.nod.obj
      obtain ⟨b, tag, r, hb, hT, hF, hL⟩ := row_of T St1.fst ((hR d).kp kp)
      refine ⟨_, rfl, a, _, dx, _, _, rfl, ho, T.cl_Store, T.na_Store_nodes, rfl, nod, dn, _, rfl, hn, rfl, _, rfl, D, _, 0, _, rfl, rfl, sqL_at hD2, at0, nod, rows, as, ns d, _, rfl, St1.nod, hb, b, tag, r, rfl, hT, _, rfl, ?_⟩
      rw [hL]
      have hz : ∀ e, e ≠ d → f e = .bare := fun e z => by
        have y := hR e
        rw [h0 e z] at y
        exact rep_zero y
      cases ht : f d with
      | leaf m ps => exact ⟨_, rfl, D, _, 0, _, rfl, rfl, sqL_at hD2, at0, q H' _ kp (.inr ⟨d, m, ps, ht, hz, rfl⟩)⟩
      | bare => exact q H' _ kp (.inl rfl)
      | fork g => exact q H' _ kp (.inl rfl)
    · have e1 : decide (V.int (((four ns).filter nzP).length : Nat) = V.int 1) = false := decide_eq_false fun z => e (by injection z with z; omega)
      rw [e1]
      exact q H' _ kp (.inl rfl)
def spLeftAt (K : PySem.W.Frag) (d : Nat) : Sp := fun vs H Q _ => ∃ (a nod rows told : Addr) (as : List V) (tk : List (Key × V)) (n l : Nat) (x : Str) (t : RS.T) (S : Str → Prop) (Pm : Nat → Prop),
  vs = [.ref a, .int n, .int (markN x : Nat), .str x, .int l] ∧ StoA K H a nod rows told as tk ∧ as.length < 70000 ∧ Rep H as t n ∧ t.WF S l Pm ∧ t.ps.length ≤ 40 ∧ val t.ps x ≠ none ∧ l ≤ 5 ∧ 6 ≤ l + d ∧
  RowsOut K H Q rows as (6 - l) fun t' => t'.WF S l Pm ∧ ButT t x none t'
theorem d_Store_left_at_ok (T : Tx K mg base) : ∀ d : Nat, Df P w K mg base CX0 (4 + d) (mA K "Store" "left_at") (spLeftAt K d) := fun d => by
  have h_Nodes_at := d_Nodes_at_ok (P := P) (w := w) T
  have h_Nodes_fork := d_Nodes_fork_ok (P := P) (w := w) T
  have h_Nodes_leaf := d_Nodes_leaf_ok (P := P) (w := w) T
  have h_is_fork := d_is_fork_ok (P := P) (w := w) T
  have h_with_part := d_with_part_ok (P := P) (w := w) T
  have h_pairs_without := d_pairs_without_ok (P := P) (w := w) T
  have h_digit := d_digit_ok (P := P) (w := w) T
  have h_Store_lone_leaf := d_Store_lone_leaf_ok (P := P) (w := w) T
  induction d with
  | zero =>
    refine df0 T.F_Store_left_at sc_Store_left_at (fun _ _ _ _ _ _ us hl => match us, hl with | [_, _, _, _, _], _ => rfl) (fun vs H Q E ⟨_, _, _, _, _, _, _, _, _, _, _, _, h, _⟩ => by rw [h]; rfl) fun cd A outer s H vs Q E hr h => ?_
    obtain ⟨a, nod, rows, told, as, tk, n, l, x, t, S, Pm, rfl, St, hz, hR, hW, hps, hv, hl5, hl, q⟩ := h
    omega
  | succ d h_Store_left_at =>
    refine df0 (k := 4 + d) T.F_Store_left_at sc_Store_left_at (fun _ _ _ _ _ _ us hl => match us, hl with | [_, _, _, _, _], _ => rfl) (fun vs H Q E ⟨_, _, _, _, _, _, _, _, _, _, _, _, h, _⟩ => by rw [h]; rfl) fun cd A outer s H vs Q E hr h => ?_
    obtain ⟨a, nod, rows, told, as, tk, n, l, x, t, S, Pm, rfl, St, hz, hR, hW, hps, hv, hl5, hl, q⟩ := h
    refine ⟨_, (pss_cons (ps_set (i := 5) sc_Store_left_at.nd rfl (.inl rfl) (pe_m h_Nodes_at (hr.mono (by omega)) T.cl_Nodes T.me_Nodes_at (pe_fld (pv 0) rfl) (pa_cons (pv 1) pa_nil)))
    (pss_cons (ps_if (pt_val (pe_c h_is_fork (hr.mono (by omega)) T.g_is_fork (pa_cons (pv 5) pa_nil))) (pss_cons (ps_set (i := 6) sc_Store_left_at.nd rfl (.inl rfl) (pe_c h_digit (hr.mono (by omega)) T.g_digit (pa_cons (pv 2) (pa_cons (pv 4) pa_nil))))
    (pss_cons (ps_set (i := 7) sc_Store_left_at.nd rfl (.inl rfl) (pe_c h_with_part (hr.mono (by omega)) T.g_with_part (pa_cons (pe_ix ix_tup (pv 5) pe_int (fun _ _ => rfl)) (pa_cons (pv 6) (pa_cons (pe_m h_Store_left_at (hr.mono (by omega)) T.cl_Store T.me_Store_left_at (pv 0) (pa_cons (pe_ix ix_tup (pe_ix ix_tup (pv 5) pe_int (fun _ _ => rfl)) (pv 6) (fun _ _ => rfl)) (pa_cons (pv 2) (pa_cons (pv 3) (pa_cons (pe_op op_add (pv 4) pe_int) pa_nil))))) pa_nil)))))
    (pss_cons (ps_set (i := 8) sc_Store_left_at.nd rfl (.inl rfl) (pe_m h_Store_lone_leaf (hr.mono (by omega)) T.cl_Store T.me_Store_lone_leaf (pv 0) (pa_cons (pv 7) pa_nil)))
    (pss_one (ps_ret (pe_ifExp (pt_cmpR op_isN (pv 8) pe_non rfl) (pe_m h_Nodes_fork (hr.mono (by omega)) T.cl_Nodes T.me_Nodes_fork (pe_fld (pv 0) rfl) (pa_cons (pv 7) pa_nil)) (pv 8))))))) pss_nil)
    (pss_cons (ps_set (i := 9) sc_Store_left_at.nd rfl (.inl rfl) (pe_c h_pairs_without (hr.mono (by omega)) T.g_pairs_without (pa_cons (pe_ix ix_tup (pv 5) pe_int (fun _ _ => rfl)) (pa_cons (pv 3) pa_nil))))
    (pss_one (ps_ret (pe_ifExp (pt_cmpR op_eq (pe_callB call_len_seq rfl T.b_len boot_len (pa_cons (pv 9) pa_nil)) pe_int rfl) (pe_gi rfl T.i_BARE) (pe_m h_Nodes_leaf (hr.mono (by omega)) T.cl_Nodes T.me_Nodes_leaf (pe_fld (pv 0) rfl) (pa_cons (pv 2) (pa_cons (pv 9) pa_nil))))))))), ?_⟩
    obtain ⟨dx, ho⟩ := St.obj
    obtain ⟨dn, hn⟩ := St.nod.obj
    refine ⟨_, rfl, a, _, dx, _, _, rfl, ho, T.cl_Store, T.na_Store_nodes, rfl, nod, dn, _, rfl, hn, rfl, _, rfl, nod, rows, as, n, ?_⟩
    cases t with
    | bare => exact absurd rfl hv
    | fork f =>
      obtain ⟨h0, b, ns, hb, ⟨qn, l1, hq⟩, hd⟩ := hR
      have hl4 : l < 5 := hW.1
      refine ⟨_, rfl, St.nod, hb, _, rfl, b, _, _, rfl, sqT_at l1, _, rfl, ?_⟩
      rw [tg_ff]
      refine ⟨_, rfl, _, rfl, markN x, l, rfl, by omega, ?_⟩
      refine ⟨_, rfl, b, _, 1, _, rfl, rfl, sqT_at l1, at1, _, rfl, _, rfl, a, dx, _, rfl, ho, rfl, _, rfl, b, _, 1, _, rfl, rfl, sqT_at l1, at1, _, rfl, qn, _, _, _, rfl, rfl, sqT_at hq, four_at _, _, rfl, _, rfl, _, rfl, _, _, rfl, rfl, ?_⟩
      refine ⟨a, nod, rows, told, as, tk, ns (dig (markN x) l), l + 1, x, f (dig (markN x) l), S, _, rfl, St, hz, hd _, hW.2 _, Nat.le_trans (part_le f _) hps, by rw [← val_fork hW]; exact hv, by omega, by omega, ?_⟩
      refine fun H1 bs r t1 k1 h1 hb1 hR1 ⟨w1, v1⟩ => ?_
      have St1 := St.rows k1 h1
      refine ⟨qn, ns, dig (markN x) l, r, rfl, sqT_at (k1.tup hq), fun H2 qd k2 hq2 => ?_⟩
      have St2 := St1.k0 k2
      obtain ⟨dx2, ho2⟩ := St2.obj
      have hd2 : ∀ e, Rep H2 (as ++ bs) (updF f (dig (markN x) l) t1 e) (setF ns (dig (markN x) l) r e) := rep_set (f := f) (ns := ns) (fun e => (((hd e).kp (k1.trans k2.m0)).app bs)) (hR1.kp k2)
      obtain ⟨wF, vF⟩ := fork_put hW w1 v1
      refine ⟨_, rfl, a, dx2, _, rfl, ho2, rfl, _, rfl, a, nod, rows, told, qd, as ++ bs, tk, _, _, rfl, St2, sqT_at hq2, hd2, fun H3 lv k3 hlv => ?_⟩
      have k03 : KQ K (Only rows) H H3 := (k1.trans k2.m0).trans k3.m0
      have St3 := St2.k0 k3
      obtain ⟨dx3, ho3⟩ := St3.obj
      obtain ⟨dn3, hn3⟩ := St3.nod.obj
      have hbl : (as ++ bs).length < 90000 := by rw [List.length_append]; omega
      rcases hlv with rfl | ⟨d1, m1, ps1, hf1, hf2, rfl⟩
      · refine ⟨_, rfl, rfl, true, rfl, ?_⟩
        refine ⟨_, rfl, a, _, dx3, _, _, rfl, ho3, T.cl_Store, T.na_Store_nodes, rfl, nod, dn3, _, rfl, hn3, rfl, _, rfl, nod, rows, as ++ bs, qd, _, rfl, St3.nod, hbl, k3.tup hq2, fun H4 b3 k4 h4 hF => ?_⟩
        refine q H4 (bs ++ [.ref b3]) _ _ (k03.trans k4) (by rw [h4, List.append_assoc]) (by rw [List.length_append, List.length_singleton]; omega) ?_ ⟨wF, vF⟩
        rw [← List.append_assoc]
        exact rep_fork St1.pos hF fun e => ((hd2 e).kp k3).kp k4
      · refine ⟨_, rfl, rfl, false, rfl, ?_⟩
        obtain ⟨wL, vL⟩ := fork_lone wF hf2 hf1
        have y := (hd2 d1).kp k3
        rw [hf1] at y
        exact ⟨_, rfl, q H3 bs _ _ k03 St3.nod.lst (by omega) y ⟨wL, fun z => by rw [← vF z, vL z]; rfl⟩⟩
    | leaf m ps =>
      obtain ⟨h0, b, qs, hb, ⟨q2, l1, l2, l3⟩, hqs⟩ := hR
      have hql : qs.length ≤ 40 := by
        have z : (RS.T.leaf m ps).ps = ps := rfl
        rw [z, ← hqs, List.length_map] at hps
        exact hps
      have hm : markN x = m := by
        rcases Nat.decEq (markN x) m with z | z
        · exact absurd (val_leaf_ne hW z) hv
        · exact z
      refine ⟨_, rfl, St.nod, hb, _, rfl, b, _, _, rfl, sqT_at l1, _, rfl, ?_⟩
      rw [tg_lf]
      refine ⟨_, rfl, b, _, 2, _, rfl, rfl, sqT_at l1, at2, _, rfl, q2, x, qs, rfl, l2.sq, l3, by omega, fun H1 li ps2 k1 nn hli hp2 he => ?_⟩
      have e2 : ps2.map (·.2) = ps.filter fun q => decide (q.1 ≠ x) := by
        rw [he, ← hqs, List.filter_map]
        rfl
      obtain ⟨c1, c2⟩ := leaf_del hW e2
      have St1 := St.k0 k1
      obtain ⟨dx1, ho1⟩ := St1.obj
      obtain ⟨dn1, hn1⟩ := St1.nod.obj
      refine ⟨_, rfl, li, _, rfl, .inl (sqL_at hli), rfl, ?_⟩
      by_cases e : ps2 = []
      · have e1 : decide (V.int ((ps2.map prV).length : Nat) = V.int 0) = true := by rw [e]; rfl
        rw [e1]
        refine ⟨true, rfl, ?_⟩
        exact q H1 [] 0 .bare k1.m0 (by rw [List.append_nil]; exact St1.nod.lst) (Nat.zero_le _) rfl ⟨trivial, c1 (by rw [e]; rfl)⟩
      · have e1 : decide (V.int ((ps2.map prV).length : Nat) = V.int 0) = false := decide_eq_false fun z => e (by
          injection z with z
          rw [List.length_map] at z
          exact List.length_eq_zero_iff.mp (by omega))
        rw [e1]
        refine ⟨false, rfl, ?_⟩
        refine ⟨_, rfl, a, _, dx1, _, _, rfl, ho1, T.cl_Store, T.na_Store_nodes, rfl, nod, dn1, _, rfl, hn1, rfl, _, rfl, _, rfl, nod, rows, as, markN x, li, ps2, rfl, St1.nod, by omega, hli, nn_ne St.nod.lst nn, hp2, fun H3 b3 k3 h3 hL3 => ?_⟩
        refine q H3 [.ref b3] _ _ (k1.m0.trans k3) h3 (by rw [List.length_singleton]; omega) (rep_leaf St.pos hL3) ?_
        rw [hm]
        exact c2 fun z => e (List.map_eq_nil_iff.mp z)
def spSWithout (K : PySem.W.Frag) : Sp := fun vs H Q _ => ∃ (a nod rows told : Addr) (as : List V) (tk : List (Key × V)) (n : Nat) (x : Str) (t : RS.T) (S : Str → Prop),
  vs = [.ref a, .int n, .str x] ∧ StoA K H a nod rows told as tk ∧ (valV tk (.inl n)).isSome = true ∧ as.length < 70000 ∧ tk.length < 80000 ∧ Rep H as t n ∧ t.WF S 0 Root ∧ t.ps.length ≤ 40 ∧ GoodN x ∧
  StoOut K H Q a nod rows told as tk fun t' => t'.WF S 0 Root ∧ ButT t x none t'
theorem d_Store_without_ok (T : Tx K mg base) : Df P w K mg base CX0 11 (mA K "Store" "without") (spSWithout K) := by
  have h_mark := d_mark_ok (P := P) (w := w) T
  have h_Store_looked := d_Store_looked_ok (P := P) (w := w) T
  have h_Store_tell := d_Store_tell_ok (P := P) (w := w) T
  have h_Store_left_at := d_Store_left_at_ok (P := P) (w := w) T 6
  refine df0 T.F_Store_without sc_Store_without (fun _ _ _ _ _ _ us hl => match us, hl with | [_, _, _], _ => rfl) (fun vs H Q E ⟨_, _, _, _, _, _, _, _, _, _, h, _⟩ => by rw [h]; rfl) fun cd A outer s H vs Q E hr h => ?_
  obtain ⟨a, nod, rows, told, as, tk, n, x, t, S, rfl, St, ht, hz, hz2, hR, hW, hps, gx, q⟩ := h
  refine ⟨_, (pss_cons (ps_if (pt_cmpR op_isN (pe_m h_Store_looked (hr.mono (by decide)) T.cl_Store T.me_Store_looked (pv 0) (pa_cons (pv 1) (pa_cons (pv 2) pa_nil))) pe_non rfl) (pss_one (ps_ret (pv 1))) pss_nil)
    (pss_one (ps_ret (pe_m h_Store_tell (hr.mono (by decide)) T.cl_Store T.me_Store_tell (pv 0) (pa_cons (pe_m h_Store_left_at (hr.mono (by decide)) T.cl_Store T.me_Store_left_at (pv 0) (pa_cons (pv 1) (pa_cons (pe_c h_mark (hr.mono (by decide)) T.g_mark (pa_cons (pv 2) pa_nil)) (pa_cons (pv 2) (pa_cons pe_int pa_nil))))) pa_nil))))), ?_⟩
  obtain ⟨dx, ho⟩ := St.obj
  refine ⟨_, rfl, a, dx, _, rfl, ho, rfl, _, rfl, _, rfl, a, nod, rows, told, as, tk, n, x, t, S, Root, rfl, St, ht, gx, hR, hW, fun H1 k1 => ?_⟩
  cases hx : val t.ps x with
  | none =>
    refine ⟨rfl, true, rfl, _, rfl, q.same k1 St ht hR ⟨hW, fun y => ?_⟩⟩
    by_cases e2 : y = x
    · rw [if_pos e2, e2]; exact hx
    · rw [if_neg e2]
  | some v =>
    have hv : isVal v = true := (hW.each _ (val_mem hx)).2.2
    have St1 := St.k0 k1
    obtain ⟨dx1, ho1⟩ := St1.obj
    refine ⟨rfl, false, (by rw [show (some v).getD V.non = v from rfl]; cases v <;> first | rfl | (cases hv)), ?_⟩
    refine ⟨_, rfl, a, dx1, _, rfl, ho1, rfl, _, rfl, a, dx1, _, rfl, ho1, rfl, _, rfl, _, rfl, x, rfl, gx, fun H2 k2 => ?_⟩
    have St2 := St1.k0 k2
    refine ⟨_, rfl, a, nod, rows, told, as, tk, n, 0, x, t, S, Root, rfl, St2, hz, (hR.kp k1).kp k2, hW, hps, (by rw [hx]; exact fun z => nomatch z), by omega, by omega, fun H3 bs r t' k3 h3 hb hR' hR2 => ?_⟩
    obtain ⟨St3, q3⟩ := q.told St (k1.trans k2) k3 h3 (by omega) hR' hR2
    exact ⟨a, nod, rows, told, as ++ bs, tk, r, rfl, St3, by omega, q3⟩
end RS

/-! text D10 -/
set_option Elab.async false
set_option linter.all false
set_option maxRecDepth 100000
set_option maxHeartbeats 1000000
/-! Stops and roads: what stands there. -/
namespace RS
open PySem PySem.Spec PyProof.Rows L2
theorem sc_Stop_init : FnScope ["self", "before_it", "move_made", "far_on", "table_there", "nodes_more"] ["self", "before_it", "move_made", "far_on", "table_there", "nodes_more"] (defScope s_Stop_init) := ⟨rfl, rfl, rfl, by decide +kernel, rfl, by decide +kernel, by decide +kernel⟩
theorem sc_Stop_is_of : FnScope ["self", "name"] ["self", "name"] (defScope s_Stop_is_of) := ⟨rfl, rfl, rfl, by decide +kernel, rfl, by decide +kernel, by decide +kernel⟩
variable {P : Program} {w : World} {K : PySem.W.Frag} {mg : Str → Option Value} {base : Heap}
abbrev Mv := Option (Str × Option V)
/-- a stop: the one ahead, the move, the table, what the table shows -/
structure SG where
  prev : Nat
  mv : Mv
  tb : Nat
  tr : RS.T
def MvAt (H : Hp) (u : V) : Mv → Prop
  | none => u = .non
  | some (x, some v) => ∃ q, u = .ref q ∧ H q = some (.tup [.str "set", .str x, v])
  | some (x, none) => ∃ q, u = .ref q ∧ H q = some (.tup [.str "clear", .str x])
def bvV (g : SG) : V := match g.mv with | none => .non | some _ => .int g.prev
abbrev stopF (a b c d e : V) : List (Str × V) := [("before_it", a), ("move_made", b), ("far_on", c), ("table_there", d), ("nodes_more", e)]
def StopAt (K : PySem.W.Frag) (H : Hp) (b : Addr) (g : SG) : Prop := ∃ (u : V) (k m : Int), InsA H b (gA K "Stop") (stopF (bvV g) u (.int k) (.int g.tb) (.int m)) ∧ MvAt H u g.mv
section
variable {H H1 : Hp} {T : Tbs} {M : Addr → Prop}
theorem MvAt.kp {u : V} (k : Kp T M H H1) : ∀ {m : Mv}, MvAt H u m → MvAt H1 u m
  | none, h => h
  | some (x, some v), ⟨q, h1, h2⟩ => ⟨q, h1, k.tup h2⟩
  | some (x, none), ⟨q, h1, h2⟩ => ⟨q, h1, k.tup h2⟩
theorem StopAt.kp {b : Addr} {g : SG} (h : StopAt K H b g) (k : Kp T M H H1) : StopAt K H1 b g := let ⟨u, i, j, h1, h2⟩ := h; ⟨u, i, j, h1.kp k, h2.kp k⟩
end
/-- the stops: each leads on from an earlier one -/
structure GOk (S : Str → Prop) (Gs : List SG) : Prop where
  zero : Gs[0]? = some ⟨0, none, 0, .bare⟩
  next : ∀ (i : Nat) (g : SG), Gs[i]? = some g → i ≠ 0 → ∃ (x : Str) (ov : Option V) (gp : SG), g.mv = some (x, ov) ∧ g.prev < i ∧ Gs[g.prev]? = some gp ∧ ButT gp.tr x ov g.tr
  wf : ∀ (i : Nat) (g : SG), Gs[i]? = some g → g.tr.WF S 0 Root
structure RoaA (K : PySem.W.Frag) (H : Hp) (r sto nod rows told stops : Addr) (as : List V) (tk : List (Key × V)) (xs : List V) (Gs : List SG) : Prop where
  obj : InsA H r (gA K "Roads") [("shelf", .ref sto), ("stops", .ref stops)]
  sto : StoA K H sto nod rows told as tk
  lst : H stops = some (.lst xs)
  len : xs.length = Gs.length
  each : ∀ (i : Nat) (g : SG), Gs[i]? = some g → ∃ b : Addr, xs[i]? = some (.ref b) ∧ StopAt K H b g ∧ Rep H as g.tr g.tb ∧ (valV tk (.inl (g.tb : Int))).isSome = true
section
variable {H H1 : Hp} {r sto nod rows told stops : Addr} {as : List V} {tk : List (Key × V)} {xs : List V} {Gs : List SG}
theorem RoaA.kp {T : Tbs} {M : Addr → Prop} (h : RoaA K H r sto nod rows told stops as tk xs Gs) (k : Kp T M H H1) (n : ¬ M rows) (n2 : ¬ M told) (n3 : ¬ M stops) : RoaA K H1 r sto nod rows told stops as tk xs Gs :=
  ⟨h.obj.kp k, h.sto.kp k n n2, k.lst h.lst n3, h.len, fun i g e => let ⟨b, h1, h2, h3, h4⟩ := h.each i g e; ⟨b, h1, h2.kp k, h3.kp k, h4⟩⟩
theorem RoaA.k0 (h : RoaA K H r sto nod rows told stops as tk xs Gs) (k : KQ K M0 H H1) : RoaA K H1 r sto nod rows told stops as tk xs Gs := h.kp k id id id
theorem RoaA.sr (h : RoaA K H r sto nod rows told stops as tk xs Gs) : told ≠ stops := fun e => by
  have h1 := h.sto.tld
  rw [e, h.lst] at h1
  cases h1
end
/-! ### a stop -/
def spStopInit (K : PySem.W.Frag) : Sp := fun vs H Q _ => ∃ x dx a b c d e, vs = [.ref x, a, b, c, d, e] ∧ H x = some (.ins (gA K "Stop") dx []) ∧ ∀ H', (∀ H0, KQ K M0 H0 H → NN H0 x → KQ K M0 H0 H') → (∀ b, b ≠ x → H' b = H b) → InsA H' x (gA K "Stop") (stopF a b c d e) → Q .non H'
theorem d_Stop_init_ok (T : Tx K mg base) : Df P w K mg base CX0 1 (mA K "Stop" "__init__") (spStopInit K) := by
  refine df0 T.F_Stop_init sc_Stop_init (fun _ _ _ _ _ _ us hl => match us, hl with | [_, _, _, _, _, _], _ => rfl) (fun vs H Q E ⟨_, _, _, _, _, _, _, h, _⟩ => by rw [h]; rfl) fun cd A outer s H vs Q E hr h => ?_
  obtain ⟨x, dx, a, b, c, d, e, rfl, hx, q⟩ := h
  refine ⟨_, (pss_cons (ps_fld (pv 0) (pv 1) rfl)
    (pss_cons (ps_fld (pv 0) (pv 2) rfl)
    (pss_cons (ps_fld (pv 0) (pv 3) rfl)
    (pss_cons (ps_fld (pv 0) (pv 4) rfl)
    (pss_one (ps_fld (pv 0) (pv 5) rfl)))))), ?_⟩
  refine ⟨_, rfl, _, rfl, x, _, dx, _, rfl, hx, T.cl_Stop, T.na_Stop_before_it, show 0 < 1000 by decide, ?_⟩
  refine ⟨_, rfl, _, rfl, x, _, dx, _, rfl, upd_same, T.cl_Stop, T.na_Stop_move_made, show 1 < 1000 by decide, ?_⟩
  refine ⟨_, rfl, _, rfl, x, _, dx, _, rfl, upd_same, T.cl_Stop, T.na_Stop_far_on, show 2 < 1000 by decide, ?_⟩
  refine ⟨_, rfl, _, rfl, x, _, dx, _, rfl, upd_same, T.cl_Stop, T.na_Stop_table_there, show 3 < 1000 by decide, ?_⟩
  refine ⟨_, rfl, _, rfl, x, _, dx, _, rfl, upd_same, T.cl_Stop, T.na_Stop_nodes_more, show 4 < 1000 by decide, ?_⟩
  refine q _ (fun H0 k nn => ?_) (fun b hb => ?_) ⟨dx, upd_same⟩
  · exact ((((k.mutI nn hx).mutI nn upd_same).mutI nn upd_same).mutI nn upd_same).mutI nn upd_same
  · rw [upd_ne hb, upd_ne hb, upd_ne hb, upd_ne hb, upd_ne hb]
def isOf (g : SG) (n : Str) : Bool := match g.mv with | none => false | some (x, _) => decide (x = n)
def spIsOf (K : PySem.W.Frag) : Sp := fun vs H Q _ => ∃ b n g, vs = [.ref b, .str n] ∧ StopAt K H b g ∧ Q (.bl (isOf g n)) H
theorem d_Stop_is_of_ok (T : Tx K mg base) : Df P w K mg base CX0 1 (mA K "Stop" "is_of") (spIsOf K) := by
  refine df0 T.F_Stop_is_of sc_Stop_is_of (fun _ _ _ _ _ _ us hl => match us, hl with | [_, _], _ => rfl) (fun vs H Q E ⟨_, _, _, h, _⟩ => by rw [h]; rfl) fun cd A outer s H vs Q E hr h => ?_
  obtain ⟨b, n, g, rfl, ⟨u, k, m, ⟨dx, ho⟩, hm⟩, q⟩ := h
  refine ⟨_, (pss_one (ps_ret (pe_and (pe_cmpR op_notN (pe_fld (pv 0) rfl) pe_non rfl) (pe_one (pe_cmpR op_eq (pe_ix ix_tup (pe_fld (pv 0) rfl) pe_int (fun _ _ => rfl)) (pv 1) rfl))))), ?_⟩
  obtain ⟨pv, mv, tb, tr⟩ := g
  match mv, hm, q with
  | none, hm, q =>
    obtain rfl : u = .non := hm
    exact ⟨_, rfl, b, _, dx, _, _, rfl, ho, T.cl_Stop, T.na_Stop_move_made, rfl, rfl, false, rfl, q⟩
  | some (x, some v), ⟨a, e, ha⟩, q =>
    subst e
    refine ⟨_, rfl, b, _, dx, _, _, rfl, ho, T.cl_Stop, T.na_Stop_move_made, rfl, rfl, true, rfl, ?_⟩
    refine ⟨_, rfl, b, _, dx, _, _, rfl, ho, T.cl_Stop, T.na_Stop_move_made, rfl, a, _, 1, _, rfl, rfl, sqT_at ha, at1, _, rfl, rfl, ?_⟩
    rw [dec_str]
    exact q
  | some (x, none), ⟨a, e, ha⟩, q =>
    subst e
    refine ⟨_, rfl, b, _, dx, _, _, rfl, ho, T.cl_Stop, T.na_Stop_move_made, rfl, rfl, true, rfl, ?_⟩
    refine ⟨_, rfl, b, _, dx, _, _, rfl, ho, T.cl_Stop, T.na_Stop_move_made, rfl, a, _, 1, _, rfl, rfl, sqT_at ha, at1, _, rfl, rfl, ?_⟩
    rw [dec_str]
    exact q
end RS

/-! text D11 -/
set_option Elab.async false
set_option linter.all false
set_option maxRecDepth 100000
set_option maxHeartbeats 1000000
/-! Roads. -/
namespace RS
open PySem PySem.Spec PyProof.Rows L2
theorem sc_Roads_init : FnScope ["self"] ["self"] (defScope s_Roads_init) := ⟨rfl, rfl, rfl, by decide +kernel, rfl, by decide +kernel, by decide +kernel⟩
theorem sc_Roads_stop_at : FnScope ["self", "place"] ["self", "place"] (defScope s_Roads_stop_at) := ⟨rfl, rfl, rfl, by decide +kernel, rfl, by decide +kernel, by decide +kernel⟩
theorem sc_Roads_table_behind : FnScope ["self", "table", "move"] ["self", "table", "move"] (defScope s_Roads_table_behind) := ⟨rfl, rfl, rfl, by decide +kernel, rfl, by decide +kernel, by decide +kernel⟩
theorem sc_Roads_go_on : FnScope ["self", "place", "move", "stop", "nodes_ahead", "table"] ["self", "place", "move"] (defScope s_Roads_go_on) := ⟨rfl, rfl, rfl, by decide +kernel, rfl, by decide +kernel, by decide +kernel⟩
variable {P : Program} {w : World} {K : PySem.W.Frag} {mg : Str → Option Value} {base : Heap}
def spRInit (K : PySem.W.Frag) : Sp := fun vs H Q _ => ∃ x dx, vs = [.ref x] ∧ H x = some (.ins (gA K "Roads") dx []) ∧ ∀ (H' : Hp) (sto nod rows told stops b : Addr), (∀ H0, KQ K M0 H0 H → NN H0 x → KQ K M0 H0 H' ∧ NN H0 rows ∧ NN H0 told ∧ NN H0 stops) → rows ≠ stops → RoaA K H' x sto nod rows told stops [.ref (gA K "FIRST")] [(.inl 0, .bl true)] [.ref b] [⟨0, none, 0, .bare⟩] → Q .non H'
theorem d_Roads_init_ok (T : Tx K mg base) : Df P w K mg base CX0 5 (mA K "Roads" "__init__") (spRInit K) := by
  have h_Store_init := d_Store_init_ok (P := P) (w := w) T
  have h_Store_empty := d_Store_empty_ok (P := P) (w := w) T
  have h_Stop_init := d_Stop_init_ok (P := P) (w := w) T
  refine df0 T.F_Roads_init sc_Roads_init (fun _ _ _ _ _ _ us hl => match us, hl with | [_], _ => rfl) (fun vs H Q E ⟨_, _, h, _⟩ => by rw [h]; rfl) fun cd A outer s H vs Q E hr h => ?_
  obtain ⟨x, dx, rfl, hx, q⟩ := h
  refine ⟨_, (pss_cons (ps_fld (pv 0) (pe_k0 h_Store_init (hr.mono (by decide)) T.mk_Store T.g_Store) rfl)
    (pss_one (ps_fld (pv 0) (pe_lst (pa_cons (pe_k h_Stop_init (hr.mono (by decide)) T.mk_Stop T.g_Stop (pa_cons pe_non (pa_cons pe_non (pa_cons pe_int (pa_cons (pe_m0 h_Store_empty (hr.mono (by decide)) T.cl_Store T.me_Store_empty (pe_fld (pv 0) rfl)) (pa_cons pe_int pa_nil)))))) pa_nil)) rfl))), ?_⟩
  refine fun so sd h1 h2 h3 => ?_
  have nx : x ≠ so := ne_of_none hx h1
  refine ⟨so, sd, rfl, upd_same, fun H1 nod rows told hk St => ⟨rfl, ?_⟩⟩
  have km : KQ K M0 H (upd (upd H sd (.own so)) so (.ins (gA K "Store") sd [])) := Kp.refl.made h1 h2 h3
  obtain ⟨k1, nr, nt⟩ := hk H km (.of h1)
  have hx1 : H1 x = some (.ins (gA K "Roads") dx []) := k1.ins hx
  refine ⟨_, rfl, x, _, dx, _, rfl, hx1, T.cl_Roads, T.na_Roads_shelf, show 0 < 1000 by decide, ?_⟩
  obtain ⟨dsx, hso⟩ := St.obj
  have hso2 : upd H1 x (.ins (gA K "Roads") dx (putF "shelf" (.ref so) [])) so = some (.ins (gA K "Store") dsx [("nodes", .ref nod), ("told", .ref told)]) := by rw [upd_ne (Ne.symm nx)]; exact hso
  refine ⟨_, rfl, x, _, dx, _, _, rfl, upd_same, T.cl_Roads, T.na_Roads_shelf, rfl, so, dsx, _, rfl, hso2, rfl, _, rfl, ?_⟩
  refine fun st sx g1 g2 g3 => ⟨st, sx, _, _, _, _, _, rfl, upd_same, fun H2 hk2 hne hst => ⟨rfl, ?_⟩⟩
  have km2 : KQ K M0 (upd H1 x (.ins (gA K "Roads") dx (putF "shelf" (.ref so) []))) (upd (upd (upd H1 x (.ins (gA K "Roads") dx (putF "shelf" (.ref so) []))) sx (.own st)) st (.ins (gA K "Stop") sx [])) := Kp.refl.made g1 g2 g3
  have k2 := hk2 _ km2 (.of g1)
  have hx2 := k2.ins (a := x) upd_same
  refine ⟨sz1, fun l nl => ?_⟩
  have nlx : l ≠ x := fun e => by rw [e, hx2] at nl; cases nl
  have hx3 : upd H2 l (.lst [.ref st]) x = some (.ins (gA K "Roads") dx (putF "shelf" (.ref so) [])) := by rw [upd_ne (Ne.symm nlx)]; exact hx2
  refine ⟨_, rfl, x, _, dx, _, rfl, hx3, T.cl_Roads, T.na_Roads_stops, show 1 < 1000 by decide, ?_⟩
  -- the store and the stop at the end
  have other : ∀ b o, b ≠ x → (∀ y, H1 b = some y → y = o) → H1 b = some o → Ok M0 b o → upd (upd H2 l (.lst [.ref st])) x (.ins (gA K "Roads") dx (putF "stops" (.ref l) (putF "shelf" (.ref so) []))) b = some o := fun b o hb _ e ok => by
    have e2 : H2 b = some o := k2.k b o (by rw [upd_ne hb]; exact e) ok
    rw [upd_ne hb, upd_ne (ne_of_none e2 nl)]
    exact e2
  have nrx : rows ≠ x := fun e => by have z := St.nod.lst; rw [e, hx1] at z; cases z
  have ntx : told ≠ x := fun e => by have z := St.tld; rw [e, hx1] at z; cases z
  obtain ⟨dn, hn⟩ := St.nod.obj
  have nnx : nod ≠ x := fun e => by
    rw [e, hx1] at hn
    injection hn with z
    injection z with _ _ z
    cases z
  have e1 : ∀ b o, b ≠ x → H1 b = some o → Ok M0 b o → _ := fun b o hb e ok => other b o hb (fun y z => by rw [e] at z; injection z with z; exact z.symm) e ok
  have hr2 := e1 rows _ nrx St.nod.lst (fun z => z)
  have lr : rows ≠ l := ne_of_none (k2.at_ (by rw [upd_ne nrx]; exact St.nod.lst)) nl
  refine q _ so nod rows told l st (fun H0 k nn => ?_) lr ⟨⟨dx, upd_same⟩, ⟨⟨dsx, e1 so _ (Ne.symm nx) hso trivial⟩, ⟨⟨dn, e1 nod _ nnx hn trivial⟩, hr2⟩, e1 told _ ntx St.tld (fun z => z), rfl⟩, ?_, rfl, fun i g e => ?_⟩
  · obtain ⟨kk, n1, n2⟩ := hk H0 (k.made h1 h2 h3) (k.nn h1)
    have k3 := kk.mutI (C' := gA K "Roads") (dx' := dx) (ys := putF "shelf" (.ref so) []) nn hx1
    have k4 := hk2 H0 (k3.made g1 g2 g3) (k3.nn g1)
    exact ⟨(k4.new nl).mutI nn hx3, n1, n2, k4.nn nl⟩
  · rw [upd_ne nlx]
    exact upd_same
  · have hi : i = 0 := by
      rcases Nat.eq_zero_or_pos i with z | z
      · exact z
      · rw [List.getElem?_eq_none (by show 1 ≤ i; omega)] at e; cases e
    subst hi
    obtain rfl : (⟨0, none, 0, .bare⟩ : SG) = g := by injection e
    refine ⟨st, rfl, ⟨.non, 0, 0, ?_, rfl⟩, rfl, rfl⟩
    obtain ⟨dst, hs2⟩ := hst
    have stx : st ≠ x := fun e => by rw [e, upd_same] at g1; cases g1
    refine ⟨dst, ?_⟩
    rw [upd_ne stx, upd_ne (ne_of_none hs2 nl)]
    exact hs2
def spStopAt (K : PySem.W.Frag) : Sp := fun vs H Q _ => ∃ (r stops : Addr) (sv : V) (xs : List V) (n : Nat) (v : V), vs = [.ref r, .int n] ∧ InsA H r (gA K "Roads") [("shelf", sv), ("stops", .ref stops)] ∧ H stops = some (.lst xs) ∧ xs[n]? = some v ∧ Q v H
theorem d_Roads_stop_at_ok (T : Tx K mg base) : Df P w K mg base CX0 1 (mA K "Roads" "stop_at") (spStopAt K) := by
  refine df0 T.F_Roads_stop_at sc_Roads_stop_at (fun _ _ _ _ _ _ us hl => match us, hl with | [_, _], _ => rfl) (fun vs H Q E ⟨_, _, _, _, _, _, h, _⟩ => by rw [h]; rfl) fun cd A outer s H vs Q E hr h => ?_
  obtain ⟨r, stops, sv, xs, n, v, rfl, ⟨dx, ho⟩, hl, hv, q⟩ := h
  refine ⟨_, (pss_cons (ps_if (pt_not (pt_chain op_le op_lt pe_int (pv 1) (pe_callB call_len_seq rfl T.b_len boot_len (pa_cons (pe_fld (pv 0) rfl) pa_nil)))) (pss_one ps_never) pss_nil)
    (pss_one (ps_ret (pe_ix ix_list (pe_fld (pv 0) rfl) (pv 1) (fun _ _ => rfl))))), ?_⟩
  have hlt : n < xs.length := (List.getElem?_eq_some_iff.mp hv).1
  have e0 : decide ((0 : Int) ≤ (n : Nat)) = true := decide_eq_true (by omega)
  have e1 : decide (((n : Nat) : Int) < (xs.length : Nat)) = true := decide_eq_true (by omega)
  refine ⟨_, rfl, _, _, rfl, rfl, ?_⟩
  refine ⟨true, congrArg V.bl e0, ?_⟩
  rw [if_pos rfl]
  refine ⟨_, rfl, r, _, dx, _, _, rfl, ho, T.cl_Roads, T.na_Roads_stops, rfl, stops, xs, rfl, .inl (sqL_at hl), _, _, rfl, rfl, ?_⟩
  refine ⟨true, congrArg V.bl e1, ?_⟩
  exact ⟨_, rfl, r, _, dx, _, _, rfl, ho, T.cl_Roads, T.na_Roads_stops, rfl, _, rfl, stops, xs, n, v, rfl, rfl, sqL_at hl, atN hv, q⟩
abbrev GoodM (S : Str → Prop) (x : Str) (ov : Option V) : Prop := GoodN x ∧ ∀ v, ov = some v → S x ∧ isVal v = true
theorem dec_sc : decide (("set" : Str) = "set") = true ∧ decide (("clear" : Str) = "set") = false := by decide +kernel
def spBehind (K : PySem.W.Frag) : Sp := fun vs H Q _ => ∃ (r sto nod rows told : Addr) (sv : V) (as : List V) (tk : List (Key × V)) (n : Nat) (u : V) (x : Str) (ov : Option V) (t : RS.T) (S : Str → Prop), vs = [.ref r, .int n, u] ∧ InsA H r (gA K "Roads") [("shelf", .ref sto), ("stops", sv)] ∧ StoA K H sto nod rows told as tk ∧ MvAt H u (some (x, ov)) ∧
  (valV tk (.inl (n : Int))).isSome = true ∧ as.length < 70000 ∧ tk.length < 80000 ∧ LamX.Tabs (TT K) H ∧ Rep H as t n ∧ t.WF S 0 Root ∧ t.ps.length ≤ 40 ∧ GoodM S x ov ∧ StoOut K H Q sto nod rows told as tk fun t' => t'.WF S 0 Root ∧ ButT t x ov t'
theorem d_Roads_table_behind_ok (T : Tx K mg base) : Df P w K mg base CX0 12 (mA K "Roads" "table_behind") (spBehind K) := by
  have h_Store_put := d_Store_put_ok (P := P) (w := w) T
  have h_Store_without := d_Store_without_ok (P := P) (w := w) T
  refine df0 T.F_Roads_table_behind sc_Roads_table_behind (fun _ _ _ _ _ _ us hl => match us, hl with | [_, _, _], _ => rfl) (fun vs H Q E ⟨_, _, _, _, _, _, _, _, _, _, _, _, _, _, h, _⟩ => by rw [h]; rfl) fun cd A outer s H vs Q E hr h => ?_
  obtain ⟨r, sto, nod, rows, told, sv, as, tk, n, u, x, ov, t, S, rfl, ⟨dx, ho⟩, St, hm, ht, hz, hz2, hT, hR, hW, hps, ⟨gx, hS⟩, q⟩ := h
  refine ⟨_, (pss_cons (ps_if (pt_cmpR op_eq (pe_ix ix_tup (pv 2) pe_int (fun _ _ => rfl)) pe_str rfl) (pss_one (ps_ret (pe_m h_Store_put (hr.mono (by decide)) T.cl_Store T.me_Store_put (pe_fld (pv 0) rfl) (pa_cons (pv 1) (pa_cons (pe_ix ix_tup (pv 2) pe_int (fun _ _ => rfl)) (pa_cons (pe_ix ix_tup (pv 2) pe_int (fun _ _ => rfl)) pa_nil)))))) pss_nil)
    (pss_one (ps_ret (pe_m h_Store_without (hr.mono (by decide)) T.cl_Store T.me_Store_without (pe_fld (pv 0) rfl) (pa_cons (pv 1) (pa_cons (pe_ix ix_tup (pv 2) pe_int (fun _ _ => rfl)) pa_nil)))))), ?_⟩
  obtain ⟨ds, hs⟩ := St.obj
  match ov, hm, hS, q with
  | some v, ⟨p, e, hp⟩, hS, q =>
    subst e
    refine ⟨_, rfl, p, _, 0, _, rfl, rfl, sqT_at hp, at0, rfl, _, rfl, ?_⟩
    rw [dec_str, dec_sc.1]
    refine ⟨_, rfl, r, _, dx, _, _, rfl, ho, T.cl_Roads, T.na_Roads_shelf, rfl, sto, ds, _, rfl, hs, rfl, _, rfl, _, rfl, p, _, 1, _, rfl, rfl, sqT_at hp, at1, _, rfl, p, _, 2, _, rfl, rfl, sqT_at hp, at2, ?_⟩
    exact ⟨sto, nod, rows, told, as, tk, n, x, v, t, S, rfl, St, ht, hz, hz2, hT, hR, hW, hps, gx, (hS v rfl).1, (hS v rfl).2, q⟩
  | none, ⟨p, e, hp⟩, hS, q =>
    subst e
    refine ⟨_, rfl, p, _, 0, _, rfl, rfl, sqT_at hp, at0, rfl, _, rfl, ?_⟩
    rw [dec_str, dec_sc.2]
    refine ⟨_, rfl, r, _, dx, _, _, rfl, ho, T.cl_Roads, T.na_Roads_shelf, rfl, sto, ds, _, rfl, hs, rfl, _, rfl, _, rfl, p, _, 1, _, rfl, rfl, sqT_at hp, at1, ?_⟩
    exact ⟨sto, nod, rows, told, as, tk, n, x, t, S, rfl, St, ht, hz, hz2, hR, hW, hps, gx, q⟩
abbrev Thr (a b c : Addr) : Addr → Prop := fun d => d = a ∨ d = b ∨ d = c
theorem GOk.snoc {S : Str → Prop} {Gs : List SG} (h : GOk S Gs) {p tb : Nat} {gp : SG} {x : Str} {ov : Option V} {t : RS.T} (hp : Gs[p]? = some gp) (w : t.WF S 0 Root) (b : ButT gp.tr x ov t) : GOk S (Gs ++ [⟨p, some (x, ov), tb, t⟩]) := by
  have hl := (List.getElem?_eq_some_iff.mp hp).1
  have cases : ∀ (i : Nat) (g : SG), (Gs ++ [(⟨p, some (x, ov), tb, t⟩ : SG)])[i]? = some g → Gs[i]? = some g ∨ i = Gs.length ∧ g = ⟨p, some (x, ov), tb, t⟩ := fun i g e => by
    rcases Nat.lt_or_ge i Gs.length with z | z
    · rw [List.getElem?_append_left z] at e; exact .inl e
    · rw [List.getElem?_append_right z] at e
      rcases Nat.eq_zero_or_pos (i - Gs.length) with y | y
      · rw [y] at e
        injection e with e
        exact .inr ⟨by omega, e.symm⟩
      · rw [List.getElem?_eq_none (by show 1 ≤ _; omega)] at e; cases e
  have up : ∀ (i : Nat) (g : SG), Gs[i]? = some g → (Gs ++ [(⟨p, some (x, ov), tb, t⟩ : SG)])[i]? = some g := fun i g e => by rw [List.getElem?_append_left (List.getElem?_eq_some_iff.mp e).1]; exact e
  refine ⟨up _ _ h.zero, fun i g e hi => ?_, fun i g e => ?_⟩
  · rcases cases i g e with z | ⟨z1, z2⟩
    · obtain ⟨x, ov, gp, a1, a2, a3, a4⟩ := h.next i g z hi
      exact ⟨x, ov, gp, a1, a2, up _ _ a3, a4⟩
    · subst z2
      exact ⟨x, ov, gp, rfl, by rw [z1]; exact hl, up _ _ hp, b⟩
  · rcases cases i g e with z | ⟨z1, z2⟩
    · exact h.wf i g z
    · subst z2
      exact w
theorem snoc_at {α : Type} {l : List α} {z : α} {i : Nat} {g : α} (e : (l ++ [z])[i]? = some g) : l[i]? = some g ∨ i = l.length ∧ g = z := by
  rcases Nat.lt_or_ge i l.length with y | y
  · rw [List.getElem?_append_left y] at e; exact .inl e
  · rw [List.getElem?_append_right y] at e
    rcases Nat.eq_zero_or_pos (i - l.length) with y | y
    · rw [y] at e
      injection e with e
      exact .inr ⟨by omega, e.symm⟩
    · rw [List.getElem?_eq_none (by show 1 ≤ _; omega)] at e; cases e
/-- behind a step on the roads -/
def RoaOut (K : PySem.W.Frag) (H : Hp) (Q : VK) (S : Str → Prop) (r sto nod rows told stops : Addr) (as : List V) (tk : List (Key × V)) (xs : List V) (Gs : List SG) (p : Nat) (x : Str) (ov : Option V) : Prop := ∀ (H' : Hp) (bs : List V) (tk' : List (Key × V)) (b : Addr) (tb : Nat) (t' : RS.T),
  KQ K (Thr rows told stops) H H' → RoaA K H' r sto nod rows told stops (as ++ bs) tk' (xs ++ [.ref b]) (Gs ++ [⟨p, some (x, ov), tb, t'⟩]) → GOk S (Gs ++ [⟨p, some (x, ov), tb, t'⟩]) → bs.length ≤ 7 → tk'.length ≤ tk.length + 1 → Q (.int Gs.length) H'
def GoPre (K : PySem.W.Frag) (H : Hp) (Q : VK) (S : Str → Prop) (r sto nod rows told stops : Addr) (as : List V) (tk : List (Key × V)) (xs : List V) (Gs : List SG) (p : Nat) (x : Str) (ov : Option V) : Prop :=
  RoaA K H r sto nod rows told stops as tk xs Gs ∧ rows ≠ stops ∧ GOk S Gs ∧ p < Gs.length ∧ as.length < 70000 ∧ tk.length < 80000 ∧ Gs.length < 80000 ∧ LamX.Tabs (TT K) H ∧ (∀ t : RS.T, t.WF S 0 Root → t.ps.length ≤ 40) ∧ GoodM S x ov ∧ RoaOut K H Q S r sto nod rows told stops as tk xs Gs p x ov
def spGoOn (K : PySem.W.Frag) : Sp := fun vs H Q _ => ∃ (r sto nod rows told stops : Addr) (as : List V) (tk : List (Key × V)) (xs : List V) (Gs : List SG) (p : Nat) (u : V) (x : Str) (ov : Option V) (S : Str → Prop), vs = [.ref r, .int p, u] ∧ MvAt H u (some (x, ov)) ∧ GoPre K H Q S r sto nod rows told stops as tk xs Gs p x ov
theorem d_Roads_go_on_ok (T : Tx K mg base) : Df P w K mg base CX0 13 (mA K "Roads" "go_on") (spGoOn K) := by
  have h_Roads_stop_at := d_Roads_stop_at_ok (P := P) (w := w) T
  have h_Roads_table_behind := d_Roads_table_behind_ok (P := P) (w := w) T
  have h_Store_made := d_Store_made_ok (P := P) (w := w) T
  have h_Stop_init := d_Stop_init_ok (P := P) (w := w) T
  refine df0 T.F_Roads_go_on sc_Roads_go_on (fun _ _ _ _ _ _ us hl => match us, hl with | [_, _, _], _ => rfl) (fun vs H Q E ⟨_, _, _, _, _, _, _, _, _, _, _, _, _, _, _, h, _⟩ => by rw [h]; rfl) fun cd A outer s H vs Q E hr h => ?_
  obtain ⟨r, sto, nod, rows, told, stops, as, tk, xs, Gs, p, u, x, ov, S, rfl, hm, R, hrs, hG, hp, hz, hz2, hz3, hT, h40, hgm, q⟩ := h
  refine ⟨_, (pss_cons (ps_set (i := 3) sc_Roads_go_on.nd rfl (.inl rfl) (pe_m h_Roads_stop_at (hr.mono (by decide)) T.cl_Roads T.me_Roads_stop_at (pv 0) (pa_cons (pv 1) pa_nil)))
    (pss_cons (ps_set (i := 4) sc_Roads_go_on.nd rfl (.inl rfl) (pe_m0 h_Store_made (hr.mono (by decide)) T.cl_Store T.me_Store_made (pe_fld (pv 0) rfl)))
    (pss_cons (ps_set (i := 5) sc_Roads_go_on.nd rfl (.inl rfl) (pe_m h_Roads_table_behind (hr.mono (by decide)) T.cl_Roads T.me_Roads_table_behind (pv 0) (pa_cons (pe_fld (pv 3) rfl) (pa_cons (pv 2) pa_nil))))
    (pss_cons (ps_expr (pe_bm PySem.F.plainAttrs_list PySem.F.slot_list_append PySem.F.type_list_append mt_append (pe_fld (pv 0) rfl) (pa_cons (pe_k h_Stop_init (hr.mono (by decide)) T.mk_Stop T.g_Stop (pa_cons (pv 1) (pa_cons (pv 2) (pa_cons (pe_op op_add (pe_fld (pv 3) rfl) pe_int) (pa_cons (pv 5) (pa_cons (pe_op op_sub (pe_m0 h_Store_made (hr.mono (by decide)) T.cl_Store T.me_Store_made (pe_fld (pv 0) rfl)) (pv 4)) pa_nil)))))) pa_nil)))
    (pss_one (ps_ret (pe_op op_sub (pe_callB call_len_seq rfl T.b_len boot_len (pa_cons (pe_fld (pv 0) rfl) pa_nil)) pe_int))))))), ?_⟩
  obtain ⟨dx, ho⟩ := R.obj
  obtain ⟨ds, hs⟩ := R.sto.obj
  obtain ⟨gp, hgp⟩ : ∃ gp, Gs[p]? = some gp := ⟨_, List.getElem?_eq_getElem hp⟩
  obtain ⟨b, hb, ⟨bu, bk, bm, ⟨db, hbo⟩, hbm⟩, hR, htd⟩ := R.each p gp hgp
  refine ⟨_, rfl, r, dx, _, rfl, ho, rfl, _, rfl, r, stops, _, xs, p, _, rfl, ⟨dx, ho⟩, R.lst, hb, ?_⟩
  refine ⟨_, rfl, r, _, dx, _, _, rfl, ho, T.cl_Roads, T.na_Roads_shelf, rfl, sto, ds, _, rfl, hs, rfl, sto, nod, rows, told, as, tk, rfl, R.sto, ?_⟩
  refine ⟨_, rfl, r, dx, _, rfl, ho, rfl, _, rfl, b, _, db, _, _, rfl, hbo, T.cl_Stop, T.na_Stop_table_there, rfl, _, rfl, ?_⟩
  refine ⟨r, sto, nod, rows, told, _, as, tk, gp.tb, u, x, ov, gp.tr, S, rfl, ⟨dx, ho⟩, R.sto, hm, htd, hz, hz2, hT, hR, hG.wf p gp hgp, h40 _ (hG.wf p gp hgp), hgm, ?_⟩
  refine fun H1 bs tk1 rb t1 k1 St1 hb1 htk hto1 hto2 hR1 ⟨w1, bt1⟩ => ?_
  have n1 : ¬ Two rows told stops := fun z => by
    rcases z with z | z
    · exact hrs z.symm
    · exact R.sr z.symm
  have ho1 := k1.ins ho
  have hl1 : H1 stops = some (.lst xs) := k1.lst R.lst n1
  obtain ⟨ds1, hs1⟩ := St1.obj
  refine ⟨_, rfl, r, _, dx, _, _, rfl, ho1, T.cl_Roads, T.na_Roads_stops, rfl, tyl hl1, ?_⟩
  refine ⟨_, rfl, _, rfl, _, rfl, b, _, db, _, _, rfl, k1.ins hbo, T.cl_Stop, T.na_Stop_far_on, rfl, _, _, rfl, rfl, _, rfl, _, rfl, r, _, dx, _, _, rfl, ho1, T.cl_Roads, T.na_Roads_shelf, rfl, sto, ds1, _, rfl, hs1, rfl, sto, nod, rows, told, as ++ bs, tk1, rfl, St1, _, rfl, _, _, rfl, rfl, ?_⟩
  refine fun st sx g1 g2 g3 => ⟨st, sx, _, _, _, _, _, rfl, upd_same, fun H2 hk hne hst => ⟨rfl, ?_⟩⟩
  have k2 : KQ K M0 H1 H2 := hk H1 (Kp.refl.made g1 g2 g3) (.of g1)
  have hl2 : H2 stops = some (.lst xs) := k2.at_ hl1
  refine ⟨stops, xs, _, rfl, rfl, hl2, sz_lt (by rw [R.len]; omega), ?_⟩
  have k3 : KQ K (Thr rows told stops) H2 (upd H2 stops (.lst (xs ++ [.ref st]))) := Kp.refl.updL (.inr (.inr rfl)) hl2
  have k03 : KQ K (Thr rows told stops) H (upd H2 stops (.lst (xs ++ [.ref st]))) := ((k1.mono fun c z => z.elim .inl fun z => .inr (.inl z)).trans k2.m0).trans k3
  have ho3 := k03.ins ho
  refine ⟨_, rfl, r, _, dx, _, _, rfl, ho3, T.cl_Roads, T.na_Roads_stops, rfl, stops, _, rfl, .inl (sqL_at upd_same), _, _, rfl, rfl, ?_⟩
  show Q (.int (((xs ++ [V.ref st]).length : Int) - 1)) _
  rw [show (((xs ++ [V.ref st]).length : Int) - 1) = ((Gs.length : Nat) : Int) by rw [List.length_append, R.len]; show (((Gs.length + 1 : Nat) : Int) - 1) = _; omega]
  have St2 := St1.k0 k2
  have kO : KQ K (Only stops) H2 (upd H2 stops (.lst (xs ++ [.ref st]))) := Kp.refl.updL rfl hl2
  have St3 := St2.kp kO hrs R.sr
  refine q _ bs tk1 st rb t1 k03 ⟨R.obj.kp k03, St3, upd_same, by rw [List.length_append, List.length_append, R.len]; rfl, fun i g e => ?_⟩ (hG.snoc hgp w1 bt1) hb1 htk
  rcases snoc_at e with z | ⟨z1, z2⟩
  · obtain ⟨c, c1, c2, c3, c4⟩ := R.each i g z
    exact ⟨c, by rw [List.getElem?_append_left (List.getElem?_eq_some_iff.mp c1).1]; exact c1, c2.kp k03, (c3.kp k03).app _, hto1 _ c4⟩
  · subst z2
    refine ⟨st, by rw [z1, ← R.len, List.getElem?_append_right (Nat.le_refl _), Nat.sub_self]; rfl, ⟨u, _, _, hst.kp kO, ((hm.kp k1).kp k2).kp kO⟩, (hR1.kp k2).kp kO, hto2⟩
end RS

/-! text D12 -/
set_option Elab.async false
set_option linter.all false
set_option maxRecDepth 100000
set_option maxHeartbeats 1000000
/-! Roads: put, clear, last, walked, looked. -/
namespace RS
open PySem PySem.Spec PyProof.Rows L2
theorem sc_Roads_put : FnScope ["self", "place", "name", "value"] ["self", "place", "name", "value"] (defScope s_Roads_put) := ⟨rfl, rfl, rfl, by decide +kernel, rfl, by decide +kernel, by decide +kernel⟩
theorem sc_Roads_clear : FnScope ["self", "place", "name"] ["self", "place", "name"] (defScope s_Roads_clear) := ⟨rfl, rfl, rfl, by decide +kernel, rfl, by decide +kernel, by decide +kernel⟩
theorem sc_Roads_last : FnScope ["self", "place", "name", "stop"] ["self", "place", "name"] (defScope s_Roads_last) := ⟨rfl, rfl, rfl, by decide +kernel, rfl, by decide +kernel, by decide +kernel⟩
theorem sc_Roads_walked : FnScope ["self", "place", "name", "found"] ["self", "place", "name"] (defScope s_Roads_walked) := ⟨rfl, rfl, rfl, by decide +kernel, rfl, by decide +kernel, by decide +kernel⟩
theorem sc_Roads_store : FnScope ["self"] ["self"] (defScope s_Roads_store) := ⟨rfl, rfl, rfl, by decide +kernel, rfl, by decide +kernel, by decide +kernel⟩
theorem sc_Roads_table : FnScope ["self", "place"] ["self", "place"] (defScope s_Roads_table) := ⟨rfl, rfl, rfl, by decide +kernel, rfl, by decide +kernel, by decide +kernel⟩
theorem sc_Roads_looked : FnScope ["self", "place", "name"] ["self", "place", "name"] (defScope s_Roads_looked) := ⟨rfl, rfl, rfl, by decide +kernel, rfl, by decide +kernel, by decide +kernel⟩
theorem sc_Roads_all_at : FnScope ["self", "place"] ["self", "place"] (defScope s_Roads_all_at) := ⟨rfl, rfl, rfl, by decide +kernel, rfl, by decide +kernel, by decide +kernel⟩
variable {P : Program} {w : World} {K : PySem.W.Frag} {mg : Str → Option Value} {base : Heap}
theorem GoPre.k0 {H H1 : Hp} {Q : VK} {S : Str → Prop} {r sto nod rows told stops : Addr} {as : List V} {tk : List (Key × V)} {xs : List V} {Gs : List SG} {p : Nat} {x : Str} {ov : Option V} (h : GoPre K H Q S r sto nod rows told stops as tk xs Gs p x ov) (k : KQ K M0 H H1) : GoPre K H1 Q S r sto nod rows told stops as tk xs Gs p x ov := by
  obtain ⟨R, h1, h2, h3, h4, h5, h6, h7, h8, h9, q⟩ := h
  exact ⟨R.k0 k, h1, h2, h3, h4, h5, h6, k.t h7, h8, h9, fun H' bs tk' b tb t' k' => q H' bs tk' b tb t' (k.m0.trans k')⟩
def spRPut (K : PySem.W.Frag) : Sp := fun vs H Q _ => ∃ (r sto nod rows told stops : Addr) (as : List V) (tk : List (Key × V)) (xs : List V) (Gs : List SG) (p : Nat) (x : Str) (v : V) (S : Str → Prop), vs = [.ref r, .int p, .str x, v] ∧ GoPre K H Q S r sto nod rows told stops as tk xs Gs p x (some v)
theorem d_Roads_put_ok (T : Tx K mg base) : Df P w K mg base CX0 14 (mA K "Roads" "put") (spRPut K) := by
  have h_Roads_go_on := d_Roads_go_on_ok (P := P) (w := w) T
  refine df0 T.F_Roads_put sc_Roads_put (fun _ _ _ _ _ _ us hl => match us, hl with | [_, _, _, _], _ => rfl) (fun vs H Q E ⟨_, _, _, _, _, _, _, _, _, _, _, _, _, _, h, _⟩ => by rw [h]; rfl) fun cd A outer s H vs Q E hr h => ?_
  obtain ⟨r, sto, nod, rows, told, stops, as, tk, xs, Gs, p, x, v, S, rfl, G⟩ := h
  refine ⟨_, (pss_one (ps_ret (pe_m h_Roads_go_on (hr.mono (by decide)) T.cl_Roads T.me_Roads_go_on (pv 0) (pa_cons (pv 1) (pa_cons (pe_tup (pa_cons pe_str (pa_cons (pv 2) (pa_cons (pv 3) pa_nil)))) pa_nil))))), ?_⟩
  obtain ⟨dx, ho⟩ := G.1.obj
  refine ⟨_, rfl, r, dx, _, rfl, ho, rfl, _, rfl, _, rfl, _, rfl, sz3, fun t nt => ?_⟩
  have k1 : KQ K M0 H (upd H t (.tup [.str "set", .str x, v])) := Kp.refl.new nt
  exact ⟨r, sto, nod, rows, told, stops, as, tk, xs, Gs, p, _, x, some v, S, rfl, ⟨t, rfl, upd_same⟩, G.k0 k1⟩
def spRClear (K : PySem.W.Frag) : Sp := fun vs H Q _ => ∃ (r sto nod rows told stops : Addr) (as : List V) (tk : List (Key × V)) (xs : List V) (Gs : List SG) (p : Nat) (x : Str) (S : Str → Prop), vs = [.ref r, .int p, .str x] ∧ GoPre K H Q S r sto nod rows told stops as tk xs Gs p x none
theorem d_Roads_clear_ok (T : Tx K mg base) : Df P w K mg base CX0 14 (mA K "Roads" "clear") (spRClear K) := by
  have h_Roads_go_on := d_Roads_go_on_ok (P := P) (w := w) T
  refine df0 T.F_Roads_clear sc_Roads_clear (fun _ _ _ _ _ _ us hl => match us, hl with | [_, _, _], _ => rfl) (fun vs H Q E ⟨_, _, _, _, _, _, _, _, _, _, _, _, _, h, _⟩ => by rw [h]; rfl) fun cd A outer s H vs Q E hr h => ?_
  obtain ⟨r, sto, nod, rows, told, stops, as, tk, xs, Gs, p, x, S, rfl, G⟩ := h
  refine ⟨_, (pss_one (ps_ret (pe_m h_Roads_go_on (hr.mono (by decide)) T.cl_Roads T.me_Roads_go_on (pv 0) (pa_cons (pv 1) (pa_cons (pe_tup (pa_cons pe_str (pa_cons (pv 2) pa_nil))) pa_nil))))), ?_⟩
  obtain ⟨dx, ho⟩ := G.1.obj
  refine ⟨_, rfl, r, dx, _, rfl, ho, rfl, _, rfl, _, rfl, sz2, fun t nt => ?_⟩
  have k1 : KQ K M0 H (upd H t (.tup [.str "clear", .str x])) := Kp.refl.new nt
  exact ⟨r, sto, nod, rows, told, stops, as, tk, xs, Gs, p, _, x, none, S, rfl, ⟨t, rfl, upd_same⟩, G.k0 k1⟩
/-- the roads at r, stop p of them -/
def AtStop (K : PySem.W.Frag) (H : Hp) (S : Str → Prop) (r : Addr) (p : Nat) (g : SG) : Prop := ∃ (sto nod rows told stops : Addr) (as : List V) (tk : List (Key × V)) (xs : List V) (Gs : List SG), RoaA K H r sto nod rows told stops as tk xs Gs ∧ GOk S Gs ∧ Gs[p]? = some g
def spRStore (K : PySem.W.Frag) : Sp := fun vs H Q _ => ∃ (r : Addr) (sv u : V), vs = [.ref r] ∧ InsA H r (gA K "Roads") [("shelf", sv), ("stops", u)] ∧ Q sv H
theorem d_Roads_store_ok (T : Tx K mg base) : Df P w K mg base CX0 1 (mA K "Roads" "store") (spRStore K) := by
  refine df0 T.F_Roads_store sc_Roads_store (fun _ _ _ _ _ _ us hl => match us, hl with | [_], _ => rfl) (fun vs H Q E ⟨_, _, _, h, _⟩ => by rw [h]; rfl) fun cd A outer s H vs Q E hr h => ?_
  obtain ⟨r, sv, u, rfl, ⟨dx, ho⟩, q⟩ := h
  refine ⟨_, (pss_one (ps_ret (pe_fld (pv 0) rfl))), ?_⟩
  exact ⟨_, rfl, r, _, dx, _, _, rfl, ho, T.cl_Roads, T.na_Roads_shelf, rfl, q⟩
def spRTable (K : PySem.W.Frag) : Sp := fun vs H Q _ => ∃ (r : Addr) (S : Str → Prop) (p : Nat) (g : SG), vs = [.ref r, .int p] ∧ AtStop K H S r p g ∧ Q (.int g.tb) H
theorem d_Roads_table_ok (T : Tx K mg base) : Df P w K mg base CX0 2 (mA K "Roads" "table") (spRTable K) := by
  have h_Roads_stop_at := d_Roads_stop_at_ok (P := P) (w := w) T
  refine df0 T.F_Roads_table sc_Roads_table (fun _ _ _ _ _ _ us hl => match us, hl with | [_, _], _ => rfl) (fun vs H Q E ⟨_, _, _, _, h, _⟩ => by rw [h]; rfl) fun cd A outer s H vs Q E hr h => ?_
  obtain ⟨r, S, p, g, rfl, ⟨sto, nod, rows, told, stops, as, tk, xs, Gs, R, hG, hg⟩, q⟩ := h
  refine ⟨_, (pss_one (ps_ret (pe_fld (pe_m h_Roads_stop_at (hr.mono (by decide)) T.cl_Roads T.me_Roads_stop_at (pv 0) (pa_cons (pv 1) pa_nil)) rfl))), ?_⟩
  obtain ⟨dx, ho⟩ := R.obj
  obtain ⟨b, hb, ⟨bu, bk, bm, ⟨db, hbo⟩, hbm⟩, hR, htd⟩ := R.each p g hg
  exact ⟨_, rfl, r, dx, _, rfl, ho, rfl, _, rfl, r, stops, _, xs, p, _, rfl, ⟨dx, ho⟩, R.lst, hb, b, _, db, _, _, rfl, hbo, T.cl_Stop, T.na_Stop_table_there, rfl, q⟩
def spRLooked (K : PySem.W.Frag) : Sp := fun vs H Q _ => ∃ (r : Addr) (S : Str → Prop) (p : Nat) (g : SG) (x : Str), vs = [.ref r, .int p, .str x] ∧ AtStop K H S r p g ∧ GoodN x ∧ ∀ H', KQ K M0 H H' → Q ((val g.tr.ps x).getD .non) H'
theorem d_Roads_looked_ok (T : Tx K mg base) : Df P w K mg base CX0 6 (mA K "Roads" "looked") (spRLooked K) := by
  have h_Roads_stop_at := d_Roads_stop_at_ok (P := P) (w := w) T
  have h_Store_looked := d_Store_looked_ok (P := P) (w := w) T
  refine df0 T.F_Roads_looked sc_Roads_looked (fun _ _ _ _ _ _ us hl => match us, hl with | [_, _, _], _ => rfl) (fun vs H Q E ⟨_, _, _, _, _, h, _⟩ => by rw [h]; rfl) fun cd A outer s H vs Q E hr h => ?_
  obtain ⟨r, S, p, g, x, rfl, ⟨sto, nod, rows, told, stops, as, tk, xs, Gs, R, hG, hg⟩, gx, q⟩ := h
  refine ⟨_, (pss_one (ps_ret (pe_m h_Store_looked (hr.mono (by decide)) T.cl_Store T.me_Store_looked (pe_fld (pv 0) rfl) (pa_cons (pe_fld (pe_m h_Roads_stop_at (hr.mono (by decide)) T.cl_Roads T.me_Roads_stop_at (pv 0) (pa_cons (pv 1) pa_nil)) rfl) (pa_cons (pv 2) pa_nil))))), ?_⟩
  obtain ⟨dx, ho⟩ := R.obj
  obtain ⟨ds, hs⟩ := R.sto.obj
  obtain ⟨b, hb, ⟨bu, bk, bm, ⟨db, hbo⟩, hbm⟩, hR, htd⟩ := R.each p g hg
  exact ⟨_, rfl, r, _, dx, _, _, rfl, ho, T.cl_Roads, T.na_Roads_shelf, rfl, sto, ds, _, rfl, hs, rfl, _, rfl, r, dx, _, rfl, ho, rfl, _, rfl, r, stops, _, xs, p, _, rfl, ⟨dx, ho⟩, R.lst, hb, b, _, db, _, _, rfl, hbo, T.cl_Stop, T.na_Stop_table_there, rfl, _, rfl, sto, nod, rows, told, as, tk, g.tb, x, g.tr, S, Root, rfl, R.sto, htd, gx, hR, hG.wf p g hg, q⟩
def spRAll (K : PySem.W.Frag) : Sp := fun vs H Q _ => ∃ (r : Addr) (S : Str → Prop) (p : Nat) (g : SG), vs = [.ref r, .int p] ∧ AtStop K H S r p g ∧ (∀ t : RS.T, t.WF S 0 Root → t.ps.length ≤ 40) ∧ LamX.Tabs (TT K) H ∧ PairsOut K H Q fun qs => (qs.map (·.2)).Perm g.tr.ps ∧ (qs.map (·.2.1)).Pairwise strLe
theorem d_Roads_all_at_ok (T : Tx K mg base) : Df P w K mg base CX0 6 (mA K "Roads" "all_at") (spRAll K) := by
  have h_Roads_stop_at := d_Roads_stop_at_ok (P := P) (w := w) T
  have h_Store_pairs := d_Store_pairs_ok (P := P) (w := w) T
  refine df0 T.F_Roads_all_at sc_Roads_all_at (fun _ _ _ _ _ _ us hl => match us, hl with | [_, _], _ => rfl) (fun vs H Q E ⟨_, _, _, _, h, _⟩ => by rw [h]; rfl) fun cd A outer s H vs Q E hr h => ?_
  obtain ⟨r, S, p, g, rfl, ⟨sto, nod, rows, told, stops, as, tk, xs, Gs, R, hG, hg⟩, h40, hT, q⟩ := h
  refine ⟨_, (pss_one (ps_ret (pe_m h_Store_pairs (hr.mono (by decide)) T.cl_Store T.me_Store_pairs (pe_fld (pv 0) rfl) (pa_cons (pe_fld (pe_m h_Roads_stop_at (hr.mono (by decide)) T.cl_Roads T.me_Roads_stop_at (pv 0) (pa_cons (pv 1) pa_nil)) rfl) pa_nil)))), ?_⟩
  obtain ⟨dx, ho⟩ := R.obj
  obtain ⟨ds, hs⟩ := R.sto.obj
  obtain ⟨b, hb, ⟨bu, bk, bm, ⟨db, hbo⟩, hbm⟩, hR, htd⟩ := R.each p g hg
  exact ⟨_, rfl, r, _, dx, _, _, rfl, ho, T.cl_Roads, T.na_Roads_shelf, rfl, sto, ds, _, rfl, hs, rfl, _, rfl, r, dx, _, rfl, ho, rfl, _, rfl, r, stops, _, xs, p, _, rfl, ⟨dx, ho⟩, R.lst, hb, b, _, db, _, _, rfl, hbo, T.cl_Stop, T.na_Stop_table_there, rfl, sto, nod, rows, told, as, tk, g.tb, g.tr, rfl, R.sto, htd, hR, (hG.wf p g hg).sz_le, h40 _ (hG.wf p g hg), hT, q⟩
/-! ### walking back -/
def LastOf (Gs : List SG) (g : SG) (n : Str) (v : V) : Prop := (v = .non ∧ val g.tr.ps n = none) ∨ ∃ (j : Nat) (gj : SG) (ov : Option V), v = .int (j : Nat) ∧ j ≠ 0 ∧ Gs[j]? = some gj ∧ gj.mv = some (n, ov) ∧ val g.tr.ps n = ov
def spRLast (K : PySem.W.Frag) : Sp := fun vs H Q _ => ∃ (r sto nod rows told stops : Addr) (as : List V) (tk : List (Key × V)) (xs : List V) (Gs : List SG) (S : Str → Prop) (p : Nat) (g : SG) (n : Str), vs = [.ref r, .int p, .str n] ∧ RoaA K H r sto nod rows told stops as tk xs Gs ∧ GOk S Gs ∧ Gs[p]? = some g ∧ ∀ v, LastOf Gs g n v → Q v H
theorem d_Roads_last_ok (T : Tx K mg base) : Df P w K mg base CX0 2 (mA K "Roads" "last") (spRLast K) := by
  have h_Roads_stop_at := d_Roads_stop_at_ok (P := P) (w := w) T
  have h_Stop_is_of := d_Stop_is_of_ok (P := P) (w := w) T
  refine df0 T.F_Roads_last sc_Roads_last (fun _ _ _ _ _ _ us hl => match us, hl with | [_, _, _], _ => rfl) (fun vs H Q E ⟨_, _, _, _, _, _, _, _, _, _, _, _, _, _, h, _⟩ => by rw [h]; rfl) fun cd A outer s H vs Q E hr h => ?_
  obtain ⟨r, sto, nod, rows, told, stops, as, tk, xs, Gs, S, p, g, n, rfl, R, hG, hg, q⟩ := h
  refine ⟨_, (pss_cons (ps_set (i := 3) sc_Roads_last.nd rfl (.inl rfl) (pe_m h_Roads_stop_at (hr.mono (by decide)) T.cl_Roads T.me_Roads_stop_at (pv 0) (pa_cons (pv 1) pa_nil)))
    (pss_cons (ps_while PassesOwn.never (PW.pt (pw_and (pt_cmpR op_ne (pv 1) (pe_gi rfl T.i_BEGIN) rfl) (pw_and1 (pt_not (pt_val (pe_m h_Stop_is_of (hr.mono (by decide)) T.cl_Stop T.me_Stop_is_of (pv 3) (pa_cons (pv 2) pa_nil))))))) (pss_cons (ps_set (i := 1) sc_Roads_last.nd rfl (.inl rfl) (pe_fld (pv 3) rfl))
    (pss_one (ps_set (i := 3) sc_Roads_last.nd rfl (.inl rfl) (pe_ix ix_list (pe_fld (pv 0) rfl) (pv 1) (fun _ _ => rfl))))))
    (pss_one (ps_ret (pe_ifExp (pt_cmpR op_eq (pv 1) (pe_gi rfl T.i_BEGIN) rfl) pe_non (pv 1)))))), ?_⟩
  obtain ⟨dx, ho⟩ := R.obj
  obtain ⟨b, hb, hst, hR, htd⟩ := R.each p g hg
  refine ⟨_, rfl, r, dx, _, rfl, ho, rfl, _, rfl, r, stops, _, xs, p, _, rfl, ⟨dx, ho⟩, R.lst, hb, ?_⟩
  refine ⟨fun c σ H' => ∃ (i : Nat) (gi : SG) (bi : Addr), σ = [some (.ref r), some (.int i), some (.str n), some (.ref bi)] ∧ H' = H ∧ Gs[i]? = some gi ∧ xs[i]? = some (.ref bi) ∧ val gi.tr.ps n = val g.tr.ps n ∧ i = c, ⟨p, p, g, b, rfl, rfl, hg, hb, rfl, rfl⟩, fun c σ H' hI => ?_⟩
  obtain ⟨i, gi, bi, rfl, rfl, hgi, hbi, hv, rfl⟩ := hI
  have dT : i = 0 → decide (V.int (i : Nat) = V.int 0) = true := fun e => decide_eq_true (by rw [e]; rfl)
  have dF : i ≠ 0 → decide (V.int (i : Nat) = V.int 0) = false := fun e => decide_eq_false fun z => e (by injection z with z; omega)
  obtain ⟨b2, hb2, hst2, _⟩ := R.each i gi hgi
  rw [hbi] at hb2
  injection hb2 with hb2
  injection hb2 with hb2
  subst hb2
  refine ⟨_, rfl, rfl, _, rfl, ?_⟩
  by_cases e : i = 0
  · rw [dT e]
    refine ⟨_, rfl, rfl, ?_⟩
    rw [dT e]
    refine ⟨true, rfl, ?_⟩
    rw [e, hG.zero] at hgi
    injection hgi with hgi
    rw [← hgi] at hv
    exact q _ (.inl ⟨rfl, hv.symm⟩)
  · rw [dF e]
    have hst3 := hst2
    obtain ⟨bu, bk, bm, ⟨db, hbo⟩, hbm⟩ := hst3
    obtain ⟨y, ov, gp, m1, m2, m3, m4⟩ := hG.next i gi hgi e
    refine ⟨_, rfl, bi, db, _, rfl, hbo, rfl, _, rfl, bi, n, gi, rfl, hst2, _, rfl, ?_⟩
    have e3 : isOf gi n = decide (y = n) := by unfold isOf; rw [m1]
    rw [e3]
    by_cases e2 : y = n
    · rw [decide_eq_true e2]
      refine ⟨_, rfl, rfl, ?_⟩
      rw [dF e]
      refine ⟨false, rfl, _, rfl, q _ (.inr ⟨i, gi, ov, rfl, e, hgi, by rw [m1, e2], ?_⟩)⟩
      rw [← hv, m4, if_pos e2.symm]
    · rw [decide_eq_false e2]
      have hbv : bvV gi = .int gi.prev := by unfold bvV; rw [m1]
      rw [hbv] at hbo
      obtain ⟨bp, hbp, _⟩ := R.each gi.prev gp m3
      refine ⟨fun σ2 H2 => ∃ (i2 : Nat) (g2 : SG) (b2 : Addr), σ2 = [some (.ref r), some (.int i2), some (.str n), some (.ref b2)] ∧ H2 = H' ∧ Gs[i2]? = some g2 ∧ xs[i2]? = some (.ref b2) ∧ val g2.tr.ps n = val g.tr.ps n ∧ i2 < i,
        fun σ2 H2 ⟨i2, g2, b2, a1, a2, a3, a4, a5, a6⟩ => ⟨i2, a6, i2, g2, b2, a1, a2, a3, a4, a5, rfl⟩, ?_⟩
      refine ⟨_, rfl, bi, _, db, _, _, rfl, hbo, T.cl_Stop, T.na_Stop_before_it, rfl, ?_⟩
      refine ⟨_, rfl, r, _, dx, _, _, rfl, ho, T.cl_Roads, T.na_Roads_stops, rfl, _, rfl, stops, xs, gi.prev, _, rfl, rfl, sqL_at R.lst, atN hbp, ?_⟩
      refine ⟨gi.prev, gp, bp, rfl, rfl, m3, hbp, ?_, m2⟩
      rw [← hv, m4, if_neg (Ne.symm e2)]
theorem dec_sc2 : decide (("set" : Str) = "clear") = false ∧ decide (("clear" : Str) = "clear") = true := by decide +kernel
def spRWalked (K : PySem.W.Frag) : Sp := fun vs H Q _ => ∃ (r : Addr) (S : Str → Prop) (p : Nat) (g : SG) (n : Str), vs = [.ref r, .int p, .str n] ∧ AtStop K H S r p g ∧ Q ((val g.tr.ps n).getD .non) H
theorem d_Roads_walked_ok (T : Tx K mg base) : Df P w K mg base CX0 3 (mA K "Roads" "walked") (spRWalked K) := by
  have h_Roads_last := d_Roads_last_ok (P := P) (w := w) T
  refine df0 T.F_Roads_walked sc_Roads_walked (fun _ _ _ _ _ _ us hl => match us, hl with | [_, _, _], _ => rfl) (fun vs H Q E ⟨_, _, _, _, _, h, _⟩ => by rw [h]; rfl) fun cd A outer s H vs Q E hr h => ?_
  obtain ⟨r, S, p, g, n, rfl, ⟨sto, nod, rows, told, stops, as, tk, xs, Gs, R, hG, hg⟩, q⟩ := h
  refine ⟨_, (pss_cons (ps_set (i := 3) sc_Roads_walked.nd rfl (.inl rfl) (pe_m h_Roads_last (hr.mono (by decide)) T.cl_Roads T.me_Roads_last (pv 0) (pa_cons (pv 1) (pa_cons (pv 2) pa_nil))))
    (pss_cons (ps_if (PW.pt (pw_or (pt_cmpR op_isN (pv 3) pe_non rfl) (pw_or1 (pt_cmpR op_eq (pe_ix ix_tup (pe_fld (pe_ix ix_list (pe_fld (pv 0) rfl) (pv 3) (fun _ _ => rfl)) rfl) pe_int (fun _ _ => rfl)) pe_str rfl)))) (pss_one (ps_ret pe_non)) pss_nil)
    (pss_one (ps_ret (pe_ix ix_tup (pe_fld (pe_ix ix_list (pe_fld (pv 0) rfl) (pv 3) (fun _ _ => rfl)) rfl) pe_int (fun _ _ => rfl)))))), ?_⟩
  obtain ⟨dx, ho⟩ := R.obj
  refine ⟨_, rfl, r, dx, _, rfl, ho, rfl, _, rfl, _, rfl, r, sto, nod, rows, told, stops, as, tk, xs, Gs, S, p, g, n, rfl, R, hG, hg, fun v hv => ?_⟩
  rcases hv with ⟨rfl, hv⟩ | ⟨j, gj, ov, rfl, hj0, hgj, hmv, hv⟩
  · refine ⟨_, rfl, rfl, true, rfl, ?_⟩
    rw [hv] at q
    exact q
  · obtain ⟨b, hb, ⟨bu, bk, bm, ⟨db, hbo⟩, hbm⟩, _⟩ := R.each j gj hgj
    rw [hmv] at hbm
    match ov, hbm, hv with
    | some v, ⟨q2, e, h2⟩, hv =>
      subst e
      refine ⟨_, rfl, rfl, false, rfl, ?_⟩
      refine ⟨_, rfl, r, _, dx, _, _, rfl, ho, T.cl_Roads, T.na_Roads_stops, rfl, _, rfl, stops, xs, j, _, rfl, rfl, sqL_at R.lst, atN hb, b, _, db, _, _, rfl, hbo, T.cl_Stop, T.na_Stop_move_made, rfl, q2, _, 0, _, rfl, rfl, sqT_at h2, at0, rfl, _, rfl, ?_⟩
      rw [dec_str, dec_sc2.1]
      refine ⟨_, rfl, r, _, dx, _, _, rfl, ho, T.cl_Roads, T.na_Roads_stops, rfl, _, rfl, stops, xs, j, _, rfl, rfl, sqL_at R.lst, atN hb, b, _, db, _, _, rfl, hbo, T.cl_Stop, T.na_Stop_move_made, rfl, q2, _, 2, _, rfl, rfl, sqT_at h2, at2, ?_⟩
      rw [hv] at q
      exact q
    | none, ⟨q2, e, h2⟩, hv =>
      subst e
      refine ⟨_, rfl, rfl, false, rfl, ?_⟩
      refine ⟨_, rfl, r, _, dx, _, _, rfl, ho, T.cl_Roads, T.na_Roads_stops, rfl, _, rfl, stops, xs, j, _, rfl, rfl, sqL_at R.lst, atN hb, b, _, db, _, _, rfl, hbo, T.cl_Stop, T.na_Stop_move_made, rfl, q2, _, 0, _, rfl, rfl, sqT_at h2, at0, rfl, _, rfl, ?_⟩
      rw [dec_str, dec_sc2.2]
      rw [hv] at q
      exact q
end RS

/-! text D13 -/
set_option Elab.async false
set_option linter.all false
set_option maxRecDepth 100000
set_option maxHeartbeats 1000000
/-! Diffs: pairs_of, unlike_names. -/
namespace RS
open PySem PySem.Spec PyProof.Rows L2
theorem sc_pairs_of : FnScope ["store", "number", "found", "waiting", "node"] ["store", "number"] (defScope s_pairs_of) := ⟨rfl, rfl, rfl, by decide +kernel, rfl, by decide +kernel, by decide +kernel⟩
theorem sc_unlike_names : FnScope ["one", "other", "names", "name"] ["one", "other"] (defScope s_unlike_names) := ⟨rfl, rfl, rfl, by decide +kernel, rfl, by decide +kernel, by decide +kernel⟩
variable {P : Program} {w : World} {K : PySem.W.Frag} {mg : Str → Option Value} {base : Heap}
/-- a dict of names -/
def kvP (ps : List (Str × V)) : List (Key × V) := ps.map fun p => (.inr p.1, p.2)
theorem kvP_app (a b : List (Str × V)) : kvP (a ++ b) = kvP a ++ kvP b := List.map_append
theorem kvP_len (a : List (Str × V)) : (kvP a).length = a.length := List.length_map ..
theorem kvP_val (n : Str) : ∀ ps : List (Str × V), valV (kvP ps) (.inr n) = val ps n
  | [] => rfl
  | (k, v) :: r => by
    have ih := kvP_val n r
    by_cases e : k = n
    · rw [val, if_pos e]
      exact valV_pos (by show (Sum.inr k : Key) = .inr n; rw [e])
    · rw [val, if_neg e, ← ih]
      exact valV_neg fun z => e (by injection z)
theorem kvP_none {n : Str} {ps : List (Str × V)} (h : n ∉ ps.map (·.1)) : valV (kvP ps) (.inr n) = none := by rw [kvP_val]; exact val_none_iff.mpr h
theorem merge_kvP : ∀ (b a : List (Str × V)), ((a ++ b).map (·.1)).Nodup → mergeK (kvP a) (kvP b) = kvP (a ++ b)
  | [], a, _ => by rw [List.append_nil]; rfl
  | (k, v) :: r, a, nd => by
    have hk : k ∉ a.map (·.1) := fun m => by
      rw [List.map_append, List.nodup_append] at nd
      exact nd.2.2 k m k (List.mem_cons_self ..) rfl
    have ih := merge_kvP r (a ++ [(k, v)]) (by rw [List.append_assoc]; exact nd)
    have e : putK (kvP a) (.inr k) v = kvP (a ++ [(k, v)]) := by rw [putK_new v (kvP_none hk), kvP_app]; rfl
    show mergeK (putK (kvP a) (.inr k) v) (kvP r) = _
    rw [e, ih, List.append_assoc]
    rfl
theorem merge_kvP0 {b : List (Str × V)} (nd : (b.map (·.1)).Nodup) : mergeK [] (kvP b) = kvP b := merge_kvP b [] nd
theorem prs_paired {H : Hp} : ∀ {qs : List Pr}, Prt H qs → Paired (fun p (kv : Key × V) => SqT K H p [kV kv.1, kv.2]) (qs.map (·.1)) (kvP (qs.map (·.2)))
  | [], _ => .nil
  | q :: r, h => .cons (sqT_at (h q (List.mem_cons_self ..))) (prs_paired fun p m => h p (List.mem_cons_of_mem _ m))
theorem tyd {H : Hp} {a : Addr} {xs : List (Key × V)} (h : H a = some (.dK xs)) : tyV K "dict" (.ref a) H := .inr (.inr (.inl ⟨rfl, .inl ⟨_, h⟩⟩))
def spPairsOf (K : PySem.W.Frag) : Sp := fun vs H Q _ => ∃ (a nod rows told : Addr) (as : List V) (tk : List (Key × V)) (n : Nat) (t : RS.T), vs = [.ref a, .int n] ∧ StoA K H a nod rows told as tk ∧ Rep H as t n ∧ t.sz ≤ 1365 ∧ t.ps.length ≤ 100 ∧ (t.ps.map (·.1)).Nodup ∧
  ∀ (H' : Hp) (d : Addr) (qs : List (Str × V)), KQ K M0 H H' → NN H d → H' d = some (.dK (kvP qs)) → qs.Perm t.ps → Q (.ref d) H'
theorem d_pairs_of_ok (T : Tx K mg base) : Df P w K mg base CX0 3 (gA K "pairs_of") (spPairsOf K) := by
  have h_Store_node := d_Store_node_ok (P := P) (w := w) T
  have h_parts_of := d_parts_of_ok (P := P) (w := w) T
  refine df0 T.F_pairs_of sc_pairs_of (fun _ _ _ _ _ _ us hl => match us, hl with | [_, _], _ => rfl) (fun vs H Q E ⟨_, _, _, _, _, _, _, _, h, _⟩ => by rw [h]; rfl) fun cd A outer s H vs Q E hr h => ?_
  obtain ⟨a, nod, rows, told, as, tk, n, t, rfl, St, hR, hsz, hps, hnd, q⟩ := h
  refine ⟨_, (pss_cons (ps_set (i := 2) sc_pairs_of.nd rfl (.inl rfl) pe_dnewK)
    (pss_cons (ps_set (i := 3) sc_pairs_of.nd rfl (.inl rfl) (pe_lst (pa_cons (pv 1) pa_nil)))
    (pss_cons (ps_while PassesOwn.never (pt_cmpR op_gt (pe_callB call_len_seq rfl T.b_len boot_len (pa_cons (pv 3) pa_nil)) pe_int rfl) (pss_cons (ps_set (i := 4) sc_pairs_of.nd rfl (.inl rfl) (pe_m h_Store_node (hr.mono (by decide)) T.cl_Store T.me_Store_node (pv 0) (pa_cons (pe_bm0 PySem.F.plainAttrs_list PySem.F.slot_list_pop PySem.F.type_list_pop mt_pop (pv 3)) pa_nil)))
    (pss_cons (ps_expr (pe_bm PySem.F.plainAttrs_list PySem.F.slot_list_extend PySem.F.type_list_extend mt_ext2 (pv 3) (pa_cons (pe_c h_parts_of (hr.mono (by decide)) T.g_parts_of (pa_cons (pv 4) pa_nil)) pa_nil)))
    (pss_one (ps_if (pt_cmpR op_eq (pe_ix ix_tup (pv 4) pe_int (fun _ _ => rfl)) pe_str rfl) (pss_one (ps_expr (pe_bm PySem.F.plainAttrs_dict PySem.F.slot_dict_update PySem.F.type_dict_update mt_updD (pv 2) (pa_cons (pe_callTy (call_dictF rfl) rfl T.b_dict (by decide +kernel) (pa_cons (pe_ix ix_tup (pv 4) pe_int (fun _ _ => rfl)) pa_nil)) pa_nil)))) pss_nil)))))
    (pss_one (ps_ret (pv 2)))))), ?_⟩
  refine fun f nf => ⟨_, rfl, sz1, fun wt nw => ?_⟩
  have hf0 : upd (upd H f (.dK [])) wt (.lst [.int n]) f = some (.dK []) := by rw [upd_ne (ne_of_none upd_same nw)]; exact upd_same
  have nnw : NN H wt := (Kp.nn (T := TT K) (M := M0) (Kp.refl.new nf) nw)
  refine ⟨fun m σ H' => ∃ z ws qs, σ = [some (.ref a), some (.int n), some (.ref f), some (.ref wt), z] ∧ KQ K M0 H H' ∧ H' f = some (.dK (kvP qs)) ∧ H' wt = some (.lst (ws.map ntV)) ∧ (∀ p ∈ ws, Rep H as p.2 p.1) ∧ (qs ++ psW ws).Perm t.ps ∧ m = szs ws ∧ m ≤ 1365,
    ⟨t.sz, _, [(n, t)], [], rfl, (Kp.refl.new nf).new nw, hf0, upd_same, fun p m => by rw [List.mem_singleton.mp m]; exact hR, by show (t.ps ++ []).Perm t.ps; rw [List.append_nil], by show t.sz = t.sz + 0; rfl, hsz⟩, fun m σ H' hW => ?_⟩
  obtain ⟨z, ws, qs, rfl, kp, hf, hw, hr', hperm, rfl, hm⟩ := hW
  have fw : f ≠ wt := fun e => by rw [e, hw] at hf; cases hf
  have hql : qs.length ≤ 100 := by
    have z := hperm.length_eq
    rw [List.length_append] at z
    omega
  refine ⟨_, rfl, wt, _, rfl, .inl (sqL_at hw), _, _, rfl, rfl, _, rfl, ?_⟩
  rcases snoc_cases ws with rfl | ⟨ws', ⟨n1, t1⟩, rfl⟩
  · refine ⟨_, rfl, ?_⟩
    refine q H' f qs kp (.of nf) hf ?_
    have e : psW [] = [] := rfl
    rw [e, List.append_nil] at hperm
    exact hperm
  · have hpos : decide ((0 : Int) < (((ws' ++ [(n1, t1)]).map ntV).length : Nat)) = true := decide_eq_true (by rw [List.length_map, List.length_append]; show (0 : Int) < ((ws'.length + 1 : Nat) : Int); omega)
    rw [hpos]
    have hsz' : szs (ws' ++ [(n1, t1)]) = szs ws' + t1.sz := by rw [szs_app]; rfl
    have hlen : ws'.length ≤ szs ws' := szs_len ws'
    have ht1 := t1.sz_pos
    have hR1 : Rep H as t1 n1 := hr' (n1, t1) (List.mem_append_right _ (List.mem_singleton.mpr rfl))
    have hRw : ∀ p ∈ ws', Rep H as p.2 p.1 := fun p m => hr' p (List.mem_append_left _ m)
    refine ⟨fun σ2 H2 => ∃ z ws qs, σ2 = [some (.ref a), some (.int n), some (.ref f), some (.ref wt), z] ∧ KQ K M0 H H2 ∧ H2 f = some (.dK (kvP qs)) ∧ H2 wt = some (.lst (ws.map ntV)) ∧ (∀ p ∈ ws, Rep H as p.2 p.1) ∧ (qs ++ psW ws).Perm t.ps ∧ szs ws < szs (ws' ++ [(n1, t1)]),
      fun σ2 H2 ⟨z, ws2, qs2, e1, e2, e3, e4, e5, e7, e8⟩ => ⟨szs ws2, e8, z, ws2, qs2, e1, e2, e3, e4, e5, e7, rfl, by omega⟩, ?_⟩
    have hdl : (((ws' ++ [(n1, t1)]).map ntV)).dropLast = ws'.map ntV := by rw [List.map_append]; exact List.dropLast_concat
    have hla : ((ws' ++ [(n1, t1)]).map ntV)[((ws' ++ [(n1, t1)]).map ntV).length - 1]? = some (.int n1) := by
      rw [List.map_append]
      exact last_at _ _
    have k2 : KQ K M0 H (upd H' wt (.lst (ws'.map ntV))) := kp.mutL nnw hw
    have St2 := St.k0 k2
    have hf2 : upd H' wt (.lst (ws'.map ntV)) f = some (.dK (kvP qs)) := by rw [upd_ne fw]; exact hf
    obtain ⟨dx, ho⟩ := St2.obj
    obtain ⟨dx', ho'⟩ := (St.k0 kp).obj
    refine ⟨_, rfl, a, dx', _, rfl, ho', rfl, _, rfl, tyl hw, wt, _, _, rfl, rfl, hw, hla, ?_⟩
    rw [hdl]
    cases t1 with
    | bare =>
      have e0 : n1 = 0 := hR1
      subst e0
      refine ⟨a, nod, rows, told, as, tk, 0, _, rfl, St2, St.fst, ?_⟩
      refine ⟨_, rfl, tyl upd_same, _, rfl, _, rfl, .inr ⟨"bare", [], T.first _, tg_bf, fun H2 q2 k3 hq2 => ?_⟩⟩
      have hw2 : H2 wt = some (.lst (ws'.map ntV)) := k3.at_ upd_same
      refine .inr ⟨wt, q2, _, [], rfl, rfl, hw2, hq2, by rw [List.length_map]; exact sz_le (by show _ + 0 ≤ _; omega), ?_⟩
      rw [List.append_nil]
      have k4 : KQ K M0 H (upd H2 wt (.lst (ws'.map ntV))) := (k2.trans k3).mutL nnw hw2
      refine ⟨_, rfl, _, _, 0, _, rfl, rfl, T.first _, at0, rfl, _, rfl, ?_⟩
      rw [dec_str, tg_bl]
      refine ⟨_, ws', qs, rfl, k4, by rw [upd_ne fw]; exact k3.atD hf2, upd_same, hRw, ?_, by omega⟩
      rw [psW_app, show psW [((0 : Nat), RS.T.bare)] = [] from rfl, List.append_nil] at hperm
      exact hperm
    | leaf k ps =>
      obtain ⟨h0, b, ps1, hb, hL, hps1⟩ := hR1
      obtain ⟨q2, l1, l2, l3⟩ := hL.kp k2
      refine ⟨a, nod, rows, told, as, tk, n1, _, rfl, St2, hb, ?_⟩
      refine ⟨_, rfl, tyl upd_same, _, rfl, b, rfl, .inr ⟨"leaf", _, sqT_at l1, tg_lf, fun H2 q3 k3 hq3 => ?_⟩⟩
      have hw2 : H2 wt = some (.lst (ws'.map ntV)) := k3.at_ upd_same
      refine .inr ⟨wt, q3, _, [], rfl, rfl, hw2, hq3, by rw [List.length_map]; exact sz_le (by show _ + 0 ≤ _; omega), ?_⟩
      rw [List.append_nil]
      have k4 : KQ K M0 H (upd H2 wt (.lst (ws'.map ntV))) := (k2.trans k3).mutL nnw hw2
      have hL4 := hL.kp k4
      obtain ⟨q4, m1, m2, m3⟩ := hL4
      have hf4 : upd H2 wt (.lst (ws'.map ntV)) f = some (.dK (kvP qs)) := by rw [upd_ne fw]; exact k3.atD hf2
      refine ⟨_, rfl, b, _, 0, _, rfl, rfl, sqT_at m1, at0, rfl, _, rfl, ?_⟩
      rw [dec_str, tg_ll]
      have hperm2 : ((qs ++ ps) ++ psW ws').Perm t.ps := by
        rw [psW_app, show psW [(n1, RS.T.leaf k ps)] = ps ++ [] from rfl, List.append_nil] at hperm
        rw [List.append_assoc]
        exact (List.Perm.append_left _ List.perm_append_comm).trans hperm
      have hnd2 : ((qs ++ ps).map (·.1)).Nodup := by
        have z := (hperm2.map (·.1)).nodup_iff.mpr hnd
        rw [List.map_append] at z
        exact (List.nodup_append.mp z).1
      have hnd3 : (ps.map (·.1)).Nodup := by
        rw [List.map_append] at hnd2
        exact (List.nodup_append.mp hnd2).2.1
      refine ⟨_, rfl, tyd hf4, _, rfl, b, _, 2, .ref q4, rfl, rfl, sqT_at m1, at2, q4, ps1.map (·.1), kvP (ps1.map (·.2)), rfl, ?_, prs_paired m3, fun d nd => ?_⟩
      · have e : (ps1.map (·.1)).map V.ref = ps1.map prV := by rw [List.map_map]; rfl
        rw [e]
        exact m2
      · rw [hps1, merge_kvP0 hnd3]
        have fd : f ≠ d := ne_of_none hf4 nd
        have hf5 : upd (upd H2 wt (.lst (ws'.map ntV))) d (.dK (kvP ps)) f = some (.dK (kvP qs)) := by rw [upd_ne fd]; exact hf4
        refine ⟨f, d, _, _, rfl, rfl, fd, hf5, upd_same, ?_, ?_⟩
        · rw [kvP_len, kvP_len]
          have z := hperm2.length_eq
          rw [List.length_append, List.length_append] at z
          exact sz_le (by omega)
        · rw [merge_kvP _ _ hnd2]
          have k6 := (k4.new nd (o := .dK (kvP ps))).mutD (ys := kvP (qs ++ ps)) (.of nf) hf5
          have hwd : wt ≠ d := ne_of_none (upd_same) nd
          exact ⟨_, ws', qs ++ ps, rfl, k6, upd_same, by rw [upd_ne (Ne.symm fw), upd_ne hwd]; exact upd_same, hRw, hperm2, by omega⟩
    | fork g =>
      obtain ⟨h0, b, ns, hb, hF, hd⟩ := hR1
      obtain ⟨q2, l1, l2⟩ := hF.kp k2
      refine ⟨a, nod, rows, told, as, tk, n1, _, rfl, St2, hb, ?_⟩
      refine ⟨_, rfl, tyl upd_same, _, rfl, b, rfl, .inl ⟨ns, ⟨q2, l1, l2⟩, fun q3 hq3 => ?_⟩⟩
      have hk := kids_sz g ns
      refine .inr ⟨wt, q3, _, _, rfl, rfl, upd_same, sqT_at hq3, ?_, ?_⟩
      · rw [List.length_map]
        exact sz_le (by show _ + 4 ≤ _; omega)
      · have k3 : KQ K M0 H (upd (upd H' wt (.lst (ws'.map ntV))) wt (.lst (ws'.map ntV ++ four ns))) := k2.mutL nnw upd_same
        refine ⟨_, rfl, b, _, 0, _, rfl, rfl, sqT_at ((hF.kp k3).choose_spec.1), at0, rfl, _, rfl, ?_⟩
        rw [dec_str, tg_fl]
        refine ⟨_, ws' ++ kids g ns, qs, rfl, k3, by rw [upd_ne fw]; exact hf2, by rw [upd_same, List.map_append]; rfl, fun p m => ?_, ?_, ?_⟩
        · rcases List.mem_append.mp m with m | m
          · exact hRw p m
          · exact kids_rep hd p m
        · rw [psW_app, show psW [(n1, RS.T.fork g)] = (RS.T.fork g).ps ++ [] from rfl, List.append_nil] at hperm
          rw [psW_app, kids_ps]
          exact hperm
        · rw [szs_app]
          omega
/-! ### unlike_names -/
def cnt (n : Str) (ns : List Str) : Nat := ns.countP fun m => decide (m = n)
theorem cnt_app (n : Str) (a b : List Str) : cnt n (a ++ b) = cnt n a + cnt n b := List.countP_append ..
theorem cnt_cons (n m : Str) (a : List Str) : cnt n (m :: a) = cnt n a + if m = n then 1 else 0 := by
  unfold cnt
  rw [List.countP_cons]
  by_cases e : m = n
  · rw [decide_eq_true e, if_pos rfl, if_pos e]
  · rw [decide_eq_false e, if_neg Bool.false_ne_true, if_neg e]
theorem cnt_zero {n : Str} : ∀ {ns : List Str}, n ∉ ns → cnt n ns = 0
  | [], _ => rfl
  | m :: r, h => by
    rw [cnt_cons, cnt_zero fun z => h (List.mem_cons_of_mem _ z), if_neg fun e => h (by rw [e]; exact List.mem_cons_self ..)]
theorem cnt_nodup {n : Str} : ∀ {ns : List Str}, ns.Nodup → cnt n ns = if n ∈ ns then 1 else 0
  | [], _ => by rw [if_neg (fun z => nomatch z)]; rfl
  | m :: r, h => by
    rw [List.nodup_cons] at h
    rw [cnt_cons]
    by_cases e : m = n
    · subst e
      rw [cnt_zero h.1, if_pos rfl, if_pos (List.mem_cons_self ..)]
    · rw [cnt_nodup h.2, if_neg e]
      by_cases y : n ∈ r
      · rw [if_pos y, if_pos (List.mem_cons_of_mem _ y)]
      · rw [if_neg y, if_neg fun z => (List.mem_cons.mp z).elim (fun z => e z.symm) y]
theorem nodup_cnt : ∀ {ns : List Str}, (∀ n, cnt n ns ≤ 1) → ns.Nodup
  | [], _ => List.nodup_nil
  | m :: r, h => by
    rw [List.nodup_cons]
    refine ⟨fun z => ?_, nodup_cnt fun n => ?_⟩
    · have y := h m
      rw [cnt_cons, if_pos rfl] at y
      have x : 0 < cnt m r := List.countP_pos_iff.mpr ⟨m, z, decide_eq_true rfl⟩
      omega
    · have y := h n
      rw [cnt_cons] at y
      omega
theorem cnt_mem {n : Str} {ns : List Str} : 0 < cnt n ns ↔ n ∈ ns := by
  unfold cnt
  rw [List.countP_pos_iff]
  exact ⟨fun ⟨m, h, e⟩ => by rw [← of_decide_eq_true e]; exact h, fun h => ⟨n, h, decide_eq_true rfl⟩⟩
/-- one for a name that two lists of pairs hold unlike -/
def unl (ps qs : List (Str × V)) (n : Str) : Nat := if val ps n = val qs n then 0 else 1
theorem kvP_keys (ps : List (Str × V)) : (kvP ps).map (fun kv => kV kv.1) = (ps.map (·.1)).map V.str := by
  unfold kvP
  rw [List.map_map, List.map_map]
  rfl
def Vals1 (ps : List (Str × V)) : Prop := ∀ q ∈ ps, isVal q.2 = true
theorem Vals1.sc {ps : List (Str × V)} (h : Vals1 ps) (n : Str) : Sc ((val ps n).getD .non) := by
  cases e : val ps n with
  | none => exact .inl rfl
  | some v => exact .inr (h _ (val_mem e))
theorem Vals1.eq {ps qs : List (Str × V)} (h1 : Vals1 ps) (h2 : Vals1 qs) (n : Str) : ((val ps n).getD .non = (val qs n).getD .non) ↔ val ps n = val qs n := by
  refine ⟨fun e => ?_, fun e => by rw [e]⟩
  cases e1 : val ps n with
  | none =>
    cases e2 : val qs n with
    | none => rfl
    | some v => rw [e1, e2] at e; exact absurd e.symm (isVal.ne (h2 _ (val_mem e2)))
  | some u =>
    cases e2 : val qs n with
    | none => rw [e1, e2] at e; exact absurd e (isVal.ne (h1 _ (val_mem e1)))
    | some v => rw [e1, e2] at e; rw [show u = v from e]
def spUnlike (K : PySem.W.Frag) : Sp := fun vs H Q _ => ∃ (a b : Addr) (ps qs : List (Str × V)), vs = [.ref a, .ref b] ∧ H a = some (.dK (kvP ps)) ∧ H b = some (.dK (kvP qs)) ∧ Vals1 ps ∧ Vals1 qs ∧ ps.length ≤ 30 ∧ qs.length ≤ 30 ∧
  ∀ (H' : Hp) (l : Addr) (ns : List Str), KQ K M0 H H' → NN H l → H' l = some (.lst (ns.map V.str)) → (∀ n, cnt n ns = unl ps qs n) → ns.length ≤ 60 → Q (.ref l) H'
theorem d_unlike_names_ok (T : Tx K mg base) : Df P w K mg base CX0 2 (gA K "unlike_names") (spUnlike K) := by
  have h_alike := d_alike_ok (P := P) (w := w) T
  refine df0 T.F_unlike_names sc_unlike_names (fun _ _ _ _ _ _ us hl => match us, hl with | [_, _], _ => rfl) (fun vs H Q E ⟨_, _, _, _, h, _⟩ => by rw [h]; rfl) fun cd A outer s H vs Q E hr h => ?_
  obtain ⟨a, b, ps, qs, rfl, ha, hb, v1, v2, l1, l2, q⟩ := h
  refine ⟨_, (pss_cons (ps_set (i := 2) sc_unlike_names.nd rfl (.inl rfl) (pe_callB (cr_sortSet rfl) rfl T.b_sorted (by decide +kernel) (pa_cons (pe_callTy (cr_setS rfl) rfl T.b_set (by decide +kernel) (pa_cons (pe_op op_cat (pe_callTy (call_list_dK rfl) rfl T.b_list (by decide +kernel) (pa_cons (pv 0) pa_nil)) (pe_callTy (call_list_dK rfl) rfl T.b_list (by decide +kernel) (pa_cons (pv 1) pa_nil))) pa_nil)) pa_nil)))
    (pss_one (ps_ret (pe_lc rfl sc_unlike_names.nd (pi_list (pv 2)) (blkOk_by (own := [("name", 3)]) (by kernel_rfl)) (fun _ _ _ _ _ => (pg_name (i := 3) sc_unlike_names.nd rfl (.inl rfl) (.inr rfl))) (fun _ _ _ _ _ => (pts_one (pt_not (pt_val (pe_c h_alike (hr.mono (by decide)) T.g_alike (pa_cons (pe_dget1 (hu_of hr) (pv 0) (pv 3) ⟨rfl, rfl, rfl, rfl⟩) (pa_cons (pe_dget1 (hu_of hr) (pv 1) (pv 3) ⟨rfl, rfl, rfl, rfl⟩) pa_nil))))))) (fun _ _ _ _ _ => (pv 3)))))), ?_⟩
  refine ⟨_, rfl, a, _, rfl, ha, fun p np => ⟨_, rfl, b, _, rfl, (Kp.refl (T := TT K) (M := M0) |>.new np).atD hb, fun p2 np2 => ?_⟩⟩
  rw [kvP_keys] at np2 ⊢
  rw [kvP_keys]
  refine ⟨p, p2, _, _, rfl, rfl, by rw [upd_ne (ne_of_none upd_same np2)]; exact upd_same, upd_same, ?_, fun p3 np3 => ?_⟩
  · rw [List.length_map, List.length_map, List.length_map, List.length_map]
    exact sz_le (by omega)
  refine ⟨p3, ps.map (·.1) ++ qs.map (·.1), rfl, sqL_at (by rw [upd_same, List.map_append]), by rw [List.length_append, List.length_map, List.length_map]; omega, fun p4 L nd mem le np4 => ?_⟩
  have hL : L.length ≤ 60 := by
    rw [List.length_append, List.length_map, List.length_map] at le
    omega
  refine ⟨p4, L, rfl, upd_same, by omega, fun ys p5 perm srt np5 => ?_⟩
  have k1 : KQ K M0 H _ := (Kp.refl.new np).new np2 (o := .lst ((qs.map (·.1)).map V.str))
  have k5 : KQ K M0 H _ := ((k1.new np3).new np4).new np5 (o := .lst (ys.map V.str))
  refine ⟨_, rfl, p5, rfl, ⟨_, sqL_at upd_same⟩, fun D nD => ?_⟩
  have kD := k5.new nD (o := .lst [])
  have ndy : ys.Nodup := perm.nodup_iff.mpr nd
  have h5 : KQ K M0 _ _ := (Kp.refl (T := TT K) (M := M0)).new nD (o := .lst [])
  refine lc_list (xs := ys.map V.str) (fun i H' => KQ K M0 H H' ∧ H' p5 = some (.lst (ys.map V.str)) ∧ H' D = some (.lst (((ys.take i).filter fun n => decide (val ps n ≠ val qs n)).map V.str))) ⟨kD, h5.at_ upd_same, upd_same⟩ (fun i H' _ p => sqL_at p.2.1) (fun i x H' hx p => ?_) fun H' p => ?_
  · obtain ⟨kp, h5', hD⟩ := p
    rw [List.getElem?_map] at hx
    cases hi : ys[i]? with
    | none => rw [hi] at hx; cases hx
    | some n =>
      rw [hi] at hx
      cases hx
      have D5 : p5 ≠ D := ne_of_none upd_same nD
      refine ⟨rfl, ?_⟩
      refine ⟨_, rfl, a, rfl, .inl ⟨_, .inl (kp.atD ha)⟩, _, rfl, _, DGet.k (k := .inr n) (kp.atD ha), _, rfl, b, rfl, .inl ⟨_, .inl (kp.atD hb)⟩, _, rfl, _, DGet.k (k := .inr n) (kp.atD hb), ?_⟩
      rw [kvP_val, kvP_val]
      refine ⟨_, _, rfl, v1.sc n, v2.sc n, _, rfl, ?_⟩
      rw [take_filter _ hi]
      by_cases e : val ps n = val qs n
      · rw [decide_eq_true ((v1.eq v2 n).mpr e), decide_eq_false (fun z : val ps n ≠ val qs n => z e), if_neg Bool.false_ne_true, List.append_nil]
        exact ⟨kp, h5', hD⟩
      · rw [decide_eq_false (fun z => e ((v1.eq v2 n).mp z)), decide_eq_true (show val ps n ≠ val qs n from e), if_pos rfl]
        refine ⟨_, rfl, _, hD, ?_, kp.mutL (k5.nn nD) hD, by rw [upd_ne D5]; exact h5', by rw [upd_same, List.map_append]; rfl⟩
        rw [List.length_map]
        exact sz_lt (Nat.lt_of_le_of_lt (filter_le _ _ _) (by rw [perm.length_eq]; omega))
  · obtain ⟨kp, h5', hD⟩ := p
    rw [List.length_map, List.take_length] at hD
    refine q H' D _ kp (k5.nn nD) hD (fun n => ?_) (Nat.le_trans (List.length_filter_le _ _) (by rw [perm.length_eq]; omega))
    rw [cnt_nodup (ndy.sublist List.filter_sublist)]
    unfold unl
    by_cases e : val ps n = val qs n
    · rw [if_pos e, if_neg]
      intro z
      exact (of_decide_eq_true (List.mem_filter.mp z).2) e
    · rw [if_neg e, if_pos]
      refine List.mem_filter.mpr ⟨perm.mem_iff.mpr ((mem n).mpr ?_), decide_eq_true e⟩
      rw [List.mem_append]
      by_cases y : n ∈ ps.map (·.1)
      · exact .inl y
      · by_cases x : n ∈ qs.map (·.1)
        · exact .inr x
        · exact absurd ((val_none_iff.mpr y).trans (val_none_iff.mpr x).symm) e
end RS

/-! text D14 -/
set_option Elab.async false
set_option linter.all false
set_option maxRecDepth 100000
set_option maxHeartbeats 1000000
/-! Diffs: differing. -/
namespace RS
open PySem PySem.Spec PyProof.Rows L2
theorem sc_differing : FnScope ["store", "one", "other", "names", "looks", "waiting", "here", "there", "parts", "others"] ["store", "one", "other"] (defScope s_differing) := ⟨rfl, rfl, rfl, by decide +kernel, rfl, by decide +kernel, by decide +kernel⟩
variable {P : Program} {w : World} {K : PySem.W.Frag} {mg : Str → Option Value} {base : Heap}
def Few (S : Str → Prop) : Prop := ∀ ns : List Str, ns.Nodup → (∀ n ∈ ns, S n) → ns.length ≤ 20
theorem Few.wf {S : Str → Prop} (h : Few S) {t : RS.T} {l : Nat} {Pm : Nat → Prop} (w : t.WF S l Pm) : t.ps.length ≤ 20 := by
  have z := h (t.ps.map (·.1)) w.nodup fun n m => by
    obtain ⟨q, hq, e⟩ := List.mem_map.mp m
    rw [← e]
    exact (w.each q hq).1
  rw [List.length_map] at z
  exact z
theorem wf_vals {S : Str → Prop} {t : RS.T} {l : Nat} {Pm : Nat → Prop} (w : t.WF S l Pm) {qs : List (Str × V)} (p : qs.Perm t.ps) : Vals1 qs := fun q m => (w.each q (p.mem_iff.mp m)).2.2
theorem wf_val {S : Str → Prop} {t : RS.T} {l : Nat} {Pm : Nat → Prop} (w : t.WF S l Pm) {qs : List (Str × V)} (p : qs.Perm t.ps) (n : Str) : val qs n = val t.ps n := val_perm p ((p.map (·.1)).nodup_iff.mpr w.nodup) n
theorem val_off {S : Str → Prop} {f : Fin 4 → RS.T} {l : Nat} {Pm : Nat → Prop} (w : (RS.T.fork f).WF S l Pm) (n : Str) {d : Fin 4} (h : d ≠ dig (markN n) l) : val (f d).ps n = none :=
  val_none fun q m e => h (by
    have z := ((w.2 d).each q m).2.1.2
    rw [e] at z
    exact z.symm)
theorem unl_fork {S : Str → Prop} {f g : Fin 4 → RS.T} {l : Nat} {Pm : Nat → Prop} (w1 : (RS.T.fork f).WF S l Pm) (w2 : (RS.T.fork g).WF S l Pm) (n : Str) :
    unl (RS.T.fork f).ps (RS.T.fork g).ps n = unl (f 0).ps (g 0).ps n + (unl (f 1).ps (g 1).ps n + (unl (f 2).ps (g 2).ps n + unl (f 3).ps (g 3).ps n)) := by
  have off : ∀ d, d ≠ dig (markN n) l → unl (f d).ps (g d).ps n = 0 := fun d h => by unfold unl; rw [val_off w1 n h, val_off w2 n h, if_pos rfl]
  have on : unl (RS.T.fork f).ps (RS.T.fork g).ps n = unl (f (dig (markN n) l)).ps (g (dig (markN n) l)).ps n := by unfold unl; rw [val_fork w1, val_fork w2]
  rw [on]
  rcases fin4 (dig (markN n) l) with e | e | e | e <;> rw [e] at off ⊢
  · rw [off 1 (by decide), off 2 (by decide), off 3 (by decide)]; rfl
  · rw [off 0 (by decide), off 2 (by decide), off 3 (by decide)]; omega
  · rw [off 0 (by decide), off 1 (by decide), off 3 (by decide)]; omega
  · rw [off 0 (by decide), off 1 (by decide), off 2 (by decide)]; omega
theorem unl_le (ps qs : List (Str × V)) (n : Str) : unl ps qs n ≤ 1 := by
  unfold unl
  by_cases e : val ps n = val qs n
  · rw [if_pos e]; exact Nat.zero_le _
  · rw [if_neg e]; exact Nat.le_refl _
theorem unl_mem {ps qs : List (Str × V)} {n : Str} (h : 0 < unl ps qs n) : n ∈ ps.map (·.1) ∨ n ∈ qs.map (·.1) := by
  rcases Classical.em (n ∈ ps.map (·.1)) with a | a
  · exact .inl a
  rcases Classical.em (n ∈ qs.map (·.1)) with b | b
  · exact .inr b
  have e : val ps n = val qs n := (val_none_iff.mpr a).trans (val_none_iff.mpr b).symm
  unfold unl at h
  rw [if_pos e] at h
  exact absurd h (Nat.lt_irrefl _)
/-- two tables that wait -/
structure WT where
  a : Addr
  n : Nat
  m : Nat
  t : RS.T
  s : RS.T
def wtV (w : WT) : V := .ref w.a
structure WOk (H : Hp) (as : List V) (S : Str → Prop) (w : WT) : Prop where
  tup : H w.a = some (.tup [.int w.n, .int w.m])
  r1 : Rep H as w.t w.n
  r2 : Rep H as w.s w.m
  wf : ∃ (l : Nat) (Pm : Nat → Prop), w.t.WF S l Pm ∧ w.s.WF S l Pm
theorem WOk.kp {H H1 : Hp} {as : List V} {S : Str → Prop} {w : WT} {T : Tbs} {M : Addr → Prop} (h : WOk H as S w) (k : Kp T M H H1) : WOk H1 as S w := ⟨k.tup h.tup, h.r1.kp k, h.r2.kp k, h.wf⟩
def wsz (ws : List WT) : Nat := (ws.map fun w => w.t.sz).sum
def wun (ws : List WT) (n : Str) : Nat := (ws.map fun w => unl w.t.ps w.s.ps n).sum
theorem wsz_app (a b : List WT) : wsz (a ++ b) = wsz a + wsz b := by unfold wsz; rw [List.map_append, List.sum_append]
theorem wun_app (a b : List WT) (n : Str) : wun (a ++ b) n = wun a n + wun b n := by unfold wun; rw [List.map_append, List.sum_append]
theorem wsz_len : ∀ ws : List WT, ws.length ≤ wsz ws
  | [] => Nat.le_refl _
  | p :: r => by
    have := wsz_len r
    have := p.t.sz_pos
    show r.length + 1 ≤ p.t.sz + wsz r
    omega
/-- the parts of the row of a tree -/
theorem parts_rule {H : Hp} {as : List V} {t : RS.T} {n : Nat} {v : V} {Q : VK} {E : XK} (T : Tx K mg base) (hB : as[0]? = some (.ref (gA K "FIRST"))) (hR : Rep H as t n) (hv : as[n]? = some v)
    (q : ∀ H' p xs, KQ K M0 H H' → SqT K H' p xs → ((∃ f ns, t = .fork f ∧ xs = four ns ∧ ∀ d, Rep H as (f d) (ns d)) ∨ ((∀ f, t ≠ .fork f) ∧ xs = [])) → Q (.ref p) H') : spPartsOf K [v] H Q E := by
  cases t with
  | fork f =>
    obtain ⟨h0, b, ns, hb, hF, hd⟩ := hR
    rw [hb] at hv
    injection hv with hv
    subst hv
    exact ⟨b, rfl, .inl ⟨ns, hF, fun p hp => q H p _ Kp.refl (sqT_at hp) (.inl ⟨f, ns, rfl, rfl, hd⟩)⟩⟩
  | bare =>
    obtain ⟨b, tag, r, hb, hT, hF, _⟩ := row_of T hB hR
    rw [hb] at hv
    injection hv with hv
    subst hv
    exact ⟨b, rfl, .inr ⟨tag, r, hT, hF, fun H' p k hp => q H' p _ k hp (.inr ⟨(fun f e => nomatch e), rfl⟩)⟩⟩
  | leaf m ps =>
    obtain ⟨b, tag, r, hb, hT, hF, _⟩ := row_of T hB hR
    rw [hb] at hv
    injection hv with hv
    subst hv
    exact ⟨b, rfl, .inr ⟨tag, r, hT, hF, fun H' p k hp => q H' p _ k hp (.inr ⟨(fun f e => nomatch e), rfl⟩)⟩⟩
theorem wf_sz {S : Str → Prop} {t : RS.T} {l : Nat} {Pm : Nat → Prop} (w : t.WF S l Pm) : t.sz ≤ 1365 := by
  cases t with
  | bare => decide
  | leaf m ps => show 1 ≤ 1365; decide
  | fork f =>
    have h := w.lvl (Nat.le_of_lt w.1)
    have e : 4 ^ (6 - l) ≤ 4 ^ 6 := Nat.pow_le_pow_right (by decide) (by omega)
    have e2 : (4 : Nat) ^ 6 = 4096 := by decide
    omega
theorem few_names {S : Str → Prop} (hF : Few S) {t1 t2 : RS.T} {l1 l2 : Nat} {P1 P2 : Nat → Prop} (w1 : t1.WF S l1 P1) (w2 : t2.WF S l2 P2) {ns : List Str} (h : ∀ n, cnt n ns ≤ unl t1.ps t2.ps n) : ns.length ≤ 20 := by
  refine hF ns (nodup_cnt fun n => Nat.le_trans (h n) (unl_le _ _ n)) fun n m => ?_
  have z := unl_mem (Nat.lt_of_lt_of_le (cnt_mem.mpr m) (h n))
  rcases z with z | z
  · obtain ⟨q, hq, e⟩ := List.mem_map.mp z
    rw [← e]
    exact (w1.each q hq).1
  · obtain ⟨q, hq, e⟩ := List.mem_map.mp z
    rw [← e]
    exact (w2.each q hq).1
theorem len4 {α : Type} {l : List α} (h : l.length = 4) : ∃ a b c d, l = [a, b, c, d] := by
  match l, h with
  | [a, b, c, d], _ => exact ⟨a, b, c, d, rfl⟩
def spDiffering (K : PySem.W.Frag) : Sp := fun vs H Q _ => ∃ (a nod rows told : Addr) (as : List V) (tk : List (Key × V)) (n1 n2 : Nat) (t1 t2 : RS.T) (S : Str → Prop), vs = [.ref a, .int n1, .int n2] ∧ StoA K H a nod rows told as tk ∧ (valV tk (.inl (n1 : Int))).isSome = true ∧ (valV tk (.inl (n2 : Int))).isSome = true ∧ Rep H as t1 n1 ∧ Rep H as t2 n2 ∧ t1.WF S 0 Root ∧ t2.WF S 0 Root ∧ Few S ∧ LamX.Tabs (TT K) H ∧
  ∀ (H' : Hp) (p l : Addr) (ns : List Str) (k : Int), KQ K M0 H H' → NN H l → H' p = some (.tup [.ref l, .int k]) → H' l = some (.lst (ns.map V.str)) → sortedS ns = true → (∀ n, cnt n ns = unl t1.ps t2.ps n) → Q (.ref p) H'
theorem d_differing_ok (T : Tx K mg base) : Df P w K mg base CX0 6 (gA K "differing") (spDiffering K) := by
  have h_Store_pairs := d_Store_pairs_ok (P := P) (w := w) T
  have h_Store_node := d_Store_node_ok (P := P) (w := w) T
  have h_parts_of := d_parts_of_ok (P := P) (w := w) T
  have h_pairs_of := d_pairs_of_ok (P := P) (w := w) T
  have h_unlike_names := d_unlike_names_ok (P := P) (w := w) T
  refine df0 T.F_differing sc_differing (fun _ _ _ _ _ _ us hl => match us, hl with | [_, _, _], _ => rfl) (fun vs H Q E ⟨_, _, _, _, _, _, _, _, _, _, _, h, _⟩ => by rw [h]; rfl) fun cd A outer s H vs Q E hr h => ?_
  obtain ⟨a, nod, rows, told, as, tk, n1, n2, t1, t2, S, rfl, St, td1, td2, hR1, hR2, w1, w2, hFew, hT, q⟩ := h
  refine ⟨_, (pss_cons (ps_expr (pe_m h_Store_pairs (hr.mono (by decide)) T.cl_Store T.me_Store_pairs (pv 0) (pa_cons (pv 1) pa_nil)))
    (pss_cons (ps_expr (pe_m h_Store_pairs (hr.mono (by decide)) T.cl_Store T.me_Store_pairs (pv 0) (pa_cons (pv 2) pa_nil)))
    (pss_cons (ps_set (i := 3) sc_differing.nd rfl (.inl rfl) (pe_lst pa_nil))
    (pss_cons (ps_set (i := 4) sc_differing.nd rfl (.inl rfl) pe_int)
    (pss_cons (ps_set (i := 5) sc_differing.nd rfl (.inl rfl) (pe_lst (pa_cons (pe_tup (pa_cons (pv 1) (pa_cons (pv 2) pa_nil))) pa_nil)))
    (pss_cons (ps_while PassesOwn.never (pt_cmpR op_gt (pe_callB call_len_seq rfl T.b_len boot_len (pa_cons (pv 5) pa_nil)) pe_int rfl) (pss_cons (ps_asg (pe_bm0 PySem.F.plainAttrs_list PySem.F.slot_list_pop PySem.F.type_list_pop mt_pop (pv 5)) (pg_tup rfl (pgs_cons (pg_name (i := 6) sc_differing.nd rfl (.inl rfl)) (pgs_cons (pg_name (i := 7) sc_differing.nd rfl (.inl rfl)) pgs_nil))))
    (pss_cons (ps_aug (i := 4) sc_differing.nd rfl (.inl rfl) pe_int iop_add)
    (pss_cons (ps_if (pt_cmpR op_eq (pv 6) (pv 7) rfl) (pss_one ps_continue) pss_nil)
    (pss_cons (ps_par (i := 8) (j := 9) rfl sc_differing.nd rfl rfl (by decide) rfl rfl (pa_cons (pe_c h_parts_of (hr.mono (by decide)) T.g_parts_of (pa_cons (pe_m h_Store_node (hr.mono (by decide)) T.cl_Store T.me_Store_node (pv 0) (pa_cons (pv 6) pa_nil)) pa_nil)) (pa_cons (pe_c h_parts_of (hr.mono (by decide)) T.g_parts_of (pa_cons (pe_m h_Store_node (hr.mono (by decide)) T.cl_Store T.me_Store_node (pv 0) (pa_cons (pv 7) pa_nil)) pa_nil)) pa_nil)) rfl)
    (pss_one (ps_if (PW.pt (pw_and (pt_cmpR op_gt (pe_callB call_len_seq rfl T.b_len boot_len (pa_cons (pv 8) pa_nil)) pe_int rfl) (pw_and1 (pt_cmpR op_gt (pe_callB call_len_seq rfl T.b_len boot_len (pa_cons (pv 9) pa_nil)) pe_int rfl)))) (pss_one (ps_expr (pe_bm PySem.F.plainAttrs_list PySem.F.slot_list_extend PySem.F.type_list_extend mt_ext2 (pv 5) (pa_cons (pe_listZip rfl rfl T.b_list rfl T.b_zip (pa_cons (pv 8) (pa_cons (pv 9) pa_nil))) pa_nil)))) (pss_one (ps_expr (pe_bm PySem.F.plainAttrs_list PySem.F.slot_list_extend PySem.F.type_list_extend mt_ext2 (pv 3) (pa_cons (pe_c h_unlike_names (hr.mono (by decide)) T.g_unlike_names (pa_cons (pe_c h_pairs_of (hr.mono (by decide)) T.g_pairs_of (pa_cons (pv 0) (pa_cons (pv 6) pa_nil))) (pa_cons (pe_c h_pairs_of (hr.mono (by decide)) T.g_pairs_of (pa_cons (pv 0) (pa_cons (pv 7) pa_nil))) pa_nil))) pa_nil)))))))))))
    (pss_one (ps_ret (pe_tup (pa_cons (pe_callB cr_sortedS rfl T.b_sorted (by decide +kernel) (pa_cons (pv 3) pa_nil)) (pa_cons (pv 4) pa_nil))))))))))), ?_⟩
  obtain ⟨dx, ho⟩ := St.obj
  refine ⟨_, rfl, a, dx, _, rfl, ho, rfl, _, rfl, a, nod, rows, told, as, tk, n1, t1, rfl, St, td1, hR1, w1.sz_le, Nat.le_trans (hFew.wf w1) (by decide), hT, fun H1 e1 ps1 k1 _ _ _ _ => ?_⟩
  refine ⟨_, rfl, a, dx, _, rfl, k1.ins ho, rfl, _, rfl, a, nod, rows, told, as, tk, n2, t2, rfl, St.k0 k1, td2, hR2.kp k1, w2.sz_le, Nat.le_trans (hFew.wf w2) (by decide), k1.t hT, fun H2 e2 ps2 k2 _ _ _ _ => ?_⟩
  have k02 := k1.trans k2
  refine ⟨sz0, fun nm nnm => ⟨_, rfl, _, rfl, sz2, fun tp ntp => ⟨sz1, fun wt nwt => ?_⟩⟩⟩
  have k5 := ((k02.new nnm (o := .lst [])).new ntp (o := .tup [.int n1, .int n2])).new nwt (o := .lst [.ref tp])
  have hnt : nm ≠ tp := ne_of_none upd_same ntp
  have hnw : nm ≠ wt := ne_of_none (by rw [upd_ne hnt]; exact upd_same) nwt
  have htw : tp ≠ wt := ne_of_none upd_same nwt
  have nn_n : NN H nm := k02.nn nnm
  have nn_w : NN H wt := ((k02.new nnm (o := .lst [])).new ntp (o := .tup [.int n1, .int n2])).nn nwt
  refine ⟨fun m σ H' => ∃ (k : Int) (z1 z2 z3 z4 : Option V) (ws : List WT) (ns : List Str), σ = [some (.ref a), some (.int n1), some (.int n2), some (.ref nm), some (.int k), some (.ref wt), z1, z2, z3, z4] ∧ KQ K M0 H H' ∧ H' nm = some (.lst (ns.map V.str)) ∧ H' wt = some (.lst (ws.map wtV)) ∧ (∀ w ∈ ws, WOk H' as S w) ∧ (∀ n, cnt n ns + wun ws n = unl t1.ps t2.ps n) ∧ wsz ws = m ∧ m ≤ 1365,
    ⟨t1.sz, 0, none, none, none, none, [⟨tp, n1, n2, t1, t2⟩], [], rfl, k5, by rw [upd_ne hnw, upd_ne hnt]; exact upd_same, upd_same, fun w m => ?_, fun n => ?_, rfl, w1.sz_le⟩, fun m σ H' hW => ?_⟩
  · rw [List.mem_singleton.mp m]
    exact ⟨by rw [upd_ne htw]; exact upd_same, hR1.kp k5, hR2.kp k5, 0, Root, w1, w2⟩
  · show 0 + (unl t1.ps t2.ps n + 0) = _
    omega
  obtain ⟨k, z1, z2, z3, z4, ws, ns, rfl, kp, hn, hw, hwk, hc, rfl, hm⟩ := hW
  have hns : ns.length ≤ 20 := few_names hFew w1 w2 fun n => by have := hc n; omega
  refine ⟨_, rfl, wt, _, rfl, .inl (sqL_at hw), _, _, rfl, rfl, _, rfl, ?_⟩
  rcases snoc_cases ws with rfl | ⟨ws', w0, rfl⟩
  · refine ⟨_, rfl, nm, ns, rfl, sqL_at hn, by omega, fun ys p perm srt np => ⟨_, rfl, sz2, fun t nt => ?_⟩⟩
    have pt : p ≠ t := ne_of_none upd_same nt
    refine q _ t p ys k ((kp.new np).new nt) (kp.nn np) upd_same (by rw [upd_ne pt]; exact upd_same) srt fun n => ?_
    have e : cnt n ys = cnt n ns := perm.countP_eq _
    have e2 : wun [] n = 0 := rfl
    have e3 := hc n
    omega
  · have hpos : decide ((0 : Int) < (((ws' ++ [w0]).map wtV).length : Nat)) = true := decide_eq_true (by rw [List.length_map, List.length_append]; show (0 : Int) < ((ws'.length + 1 : Nat) : Int); omega)
    rw [hpos]
    have hsz' : wsz (ws' ++ [w0]) = wsz ws' + w0.t.sz := by rw [wsz_app]; rfl
    have hun : ∀ n, wun (ws' ++ [w0]) n = wun ws' n + unl w0.t.ps w0.s.ps n := fun n => by rw [wun_app]; rfl
    have hlen : ws'.length ≤ wsz ws' := wsz_len ws'
    have ht1 := w0.t.sz_pos
    obtain ⟨a0, n, m, t, s2⟩ := w0
    have hsz' : wsz (ws' ++ [⟨a0, n, m, t, s2⟩]) = wsz ws' + t.sz := hsz'
    have hun : ∀ x, wun (ws' ++ [⟨a0, n, m, t, s2⟩]) x = wun ws' x + unl t.ps s2.ps x := hun
    have ht1 : 1 ≤ t.sz := ht1
    obtain ⟨htu, hRt, hRs, lv, Pm, wt1, ws1⟩ := hwk _ (List.mem_append_right _ (List.mem_singleton.mpr rfl))
    have hwk' : ∀ w ∈ ws', WOk H' as S w := fun p m => hwk p (List.mem_append_left _ m)
    refine ⟨fun σ2 H2 => ∃ (k : Int) (z1 z2 z3 z4 : Option V) (ws : List WT) (ns : List Str), σ2 = [some (.ref a), some (.int n1), some (.int n2), some (.ref nm), some (.int k), some (.ref wt), z1, z2, z3, z4] ∧ KQ K M0 H H2 ∧ H2 nm = some (.lst (ns.map V.str)) ∧ H2 wt = some (.lst (ws.map wtV)) ∧ (∀ w ∈ ws, WOk H2 as S w) ∧ (∀ n, cnt n ns + wun ws n = unl t1.ps t2.ps n) ∧ wsz ws < wsz (ws' ++ [⟨a0, n, m, t, s2⟩]),
      fun σ2 H2 ⟨k, z1, z2, z3, z4, ws2, ns2, e1, e2, e3, e4, e5, e6, e7⟩ => ⟨wsz ws2, e7, k, z1, z2, z3, z4, ws2, ns2, e1, e2, e3, e4, e5, e6, rfl, by omega⟩, ?_⟩
    have hdl : (((ws' ++ [(⟨a0, n, m, t, s2⟩ : WT)]).map wtV)).dropLast = ws'.map wtV := by rw [List.map_append]; exact List.dropLast_concat
    have hla : ((ws' ++ [(⟨a0, n, m, t, s2⟩ : WT)]).map wtV)[((ws' ++ [(⟨a0, n, m, t, s2⟩ : WT)]).map wtV).length - 1]? = some (.ref a0) := by
      rw [List.map_append]
      exact last_at _ _
    have k6 : KQ K M0 H (upd H' wt (.lst (ws'.map wtV))) := kp.mutL nn_w hw
    have hn6 : upd H' wt (.lst (ws'.map wtV)) nm = some (.lst (ns.map V.str)) := by rw [upd_ne hnw]; exact hn
    have kW : KQ K (Only wt) H' (upd H' wt (.lst (ws'.map wtV))) := Kp.refl.updL rfl hw
    have hwk6 : ∀ w ∈ ws', WOk (upd H' wt (.lst (ws'.map wtV))) as S w := fun w m => (hwk' w m).kp kW
    have hRt6 := hRt.kp kW
    have hRs6 := hRs.kp kW
    have St6 := St.k0 k6
    obtain ⟨dx6, ho6⟩ := St6.obj
    refine ⟨_, rfl, tyl hw, wt, _, _, rfl, rfl, hw, hla, ?_⟩
    rw [hdl]
    refine ⟨a0, [.int n, .int m], rfl, sqT_at (kW.tup htu), rfl, _, _, rfl, _, _, rfl, rfl, ?_⟩
    refine ⟨_, rfl, _, _, rfl, rfl, ?_⟩
    refine ⟨_, rfl, _, rfl, rfl, _, rfl, ?_⟩
    by_cases e : n = m
    · have e1 : decide (V.int (n : Nat) = V.int (m : Nat)) = true := decide_eq_true (by rw [e])
      rw [e1]
      refine ⟨_, _, _, _, _, ws', ns, rfl, k6, hn6, upd_same, hwk6, fun x => ?_, by omega⟩
      have e2 : t = s2 := by
        rw [← e] at hRs
        exact Rep.inj hRt hRs
      have e3 : unl t.ps s2.ps x = 0 := by rw [e2]; unfold unl; rw [if_pos rfl]
      have e4 := hc x
      rw [hun] at e4
      omega
    · have e1 : decide (V.int (n : Nat) = V.int (m : Nat)) = false := decide_eq_false fun z => e (by injection z with z; omega)
      rw [e1]
      obtain ⟨b1, x1, r1, hb1, _⟩ := row_of T St.fst hRt6
      obtain ⟨b2, x2, r2, hb2, _⟩ := row_of T St.fst hRs6
      refine ⟨_, rfl, a, dx6, _, rfl, ho6, rfl, _, rfl, a, nod, rows, told, as, tk, n, _, rfl, St6, hb1, ?_⟩
      dsimp only [tNil]
      change spPartsOf K [V.ref b1] (upd H' wt (.lst (ws'.map wtV))) _ _
      refine parts_rule T St.fst hRt6 hb1 fun H7 p1 xs1 k7 hp1 c1 => ?_
      have St7 := St6.k0 k7
      obtain ⟨dx7, ho7⟩ := St7.obj
      refine ⟨_, rfl, a, dx7, _, rfl, ho7, rfl, _, rfl, a, nod, rows, told, as, tk, m, _, rfl, St7, hb2, ?_⟩
      dsimp only [tNil]
      change spPartsOf K [V.ref b2] H7 _ _
      refine parts_rule T St.fst (hRs6.kp k7) hb2 fun H8 p2 xs2 k8 hp2 c2 => ?_
      have k78 := k7.trans k8
      have k08 := k6.trans k78
      have hp18 := k8.sqT hp1
      have hw8 : H8 wt = some (.lst (ws'.map wtV)) := k78.at_ upd_same
      have hn8 : H8 nm = some (.lst (ns.map V.str)) := k78.at_ hn6
      have hwk8 : ∀ w ∈ ws', WOk H8 as S w := fun w m => (hwk6 w m).kp k78
      have hRt8 := hRt6.kp k78
      have hRs8 := hRs6.kp k78
      have St8 := St7.k0 k8
      -- the names that a pair of tables holds unlike
      refine ⟨_, _, rfl, ?_⟩
      refine ⟨_, rfl, p1, _, rfl, .inr hp18, _, _, rfl, rfl, _, rfl, ?_⟩
      rcases c1 with ⟨f, ns1, rfl, rfl, hd1⟩ | ⟨_, rfl⟩
      · have l4 : decide ((0 : Int) < ((four ns1).length : Nat)) = true := rfl
        rw [l4]
        refine ⟨_, rfl, p2, _, rfl, .inr hp2, _, _, rfl, rfl, _, rfl, ?_⟩
        rcases c2 with ⟨g, ns2, rfl, rfl, hd2⟩ | ⟨_, rfl⟩
        · have l5 : decide ((0 : Int) < ((four ns2).length : Nat)) = true := rfl
          rw [l5]
          refine ⟨_, rfl, tyl hw8, _, rfl, _, rfl, p1, p2, _, _, rfl, hp18, hp2, rfl, (by show 0 < 4; decide), (by show 4 ≤ 1000; decide), fun H9 l ts ext nl nts hl hpa => ?_⟩
          obtain ⟨b0, b1, b2, b3, rfl⟩ := len4 hpa.1
          have k9 : KQ K M0 H8 H9 := Kp.refl.ext ext
          have hw9 := k9.at_ hw8
          refine .inl ⟨wt, l, _, _, rfl, rfl, hw9, hl, by rw [List.length_map]; exact sz_le (by show _ + 4 ≤ _; omega), ?_⟩
          have kf : KQ K M0 H (upd H9 wt (.lst (ws'.map wtV ++ [b0, b1, b2, b3].map V.ref))) := (k08.trans k9).mutL nn_w hw9
          have kN : KQ K (Only wt) H9 (upd H9 wt (.lst (ws'.map wtV ++ [b0, b1, b2, b3].map V.ref))) := Kp.refl.updL rfl hw9
          have ok4 : ∀ (d : Fin 4) (b : Addr), H9 b = some (.tup [.int (ns1 d), .int (ns2 d)]) → WOk (upd H9 wt (.lst (ws'.map wtV ++ [b0, b1, b2, b3].map V.ref))) as S ⟨b, ns1 d, ns2 d, f d, g d⟩ := fun d b hb =>
            ⟨kN.tup hb, (((hd1 d).kp k78).kp k9).kp kN, (((hd2 d).kp k8).kp k9).kp kN, lv + 1, _, wt1.2 d, ws1.2 d⟩
          have hk := kids_sz f ns1
          have hk2 : (RS.T.fork f).sz = 1 + ((f 0).sz + (f 1).sz + (f 2).sz + (f 3).sz) := rfl
          refine ⟨_, _, _, _, _, ws' ++ [⟨b0, ns1 0, ns2 0, f 0, g 0⟩, ⟨b1, ns1 1, ns2 1, f 1, g 1⟩, ⟨b2, ns1 2, ns2 2, f 2, g 2⟩, ⟨b3, ns1 3, ns2 3, f 3, g 3⟩], ns, rfl, kf, by rw [upd_ne hnw]; exact k9.at_ hn8, by rw [upd_same, List.map_append]; rfl, fun w m => ?_, fun x => ?_, ?_⟩
          · rcases List.mem_append.mp m with m | m
            · exact ((hwk8 w m).kp k9).kp kN
            rcases List.mem_cons.mp m with rfl | m
            · exact ok4 0 b0 (hpa.2 0 b0 _ _ rfl rfl rfl)
            rcases List.mem_cons.mp m with rfl | m
            · exact ok4 1 b1 (hpa.2 1 b1 _ _ rfl rfl rfl)
            rcases List.mem_cons.mp m with rfl | m
            · exact ok4 2 b2 (hpa.2 2 b2 _ _ rfl rfl rfl)
            rw [List.mem_singleton.mp m]
            exact ok4 3 b3 (hpa.2 3 b3 _ _ rfl rfl rfl)
          · have e4 := hc x
            rw [hun, unl_fork wt1 ws1] at e4
            rw [wun_app]
            show cnt x ns + (wun ws' x + (unl (f 0).ps (g 0).ps x + (unl (f 1).ps (g 1).ps x + (unl (f 2).ps (g 2).ps x + (unl (f 3).ps (g 3).ps x + 0))))) = _
            omega
          · rw [hsz', wsz_app]
            show wsz ws' + ((f 0).sz + ((f 1).sz + ((f 2).sz + ((f 3).sz + 0)))) < _
            omega
        · have l5 : decide ((0 : Int) < (([] : List V).length : Nat)) = false := rfl
          rw [l5]
          generalize hgen : RS.T.fork f = t at *
          refine ⟨_, rfl, tyl hn8, _, rfl, _, rfl, a, nod, rows, told, as, tk, n, t, rfl, St8, hRt8, wf_sz wt1, Nat.le_trans (hFew.wf wt1) (by decide), wt1.nodup, fun H9 d1 qs1 k9 nn1 hd1 pm1 => ?_⟩
          have St9 := St8.k0 k9
          refine ⟨_, rfl, _, rfl, a, nod, rows, told, as, tk, m, s2, rfl, St9, hRs8.kp k9, wf_sz ws1, Nat.le_trans (hFew.wf ws1) (by decide), ws1.nodup, fun H10 d2 qs2 k10 nn2 hd2 pm2 => ?_⟩
          refine ⟨d1, d2, qs1, qs2, rfl, k10.atD hd1, hd2, wf_vals wt1 pm1, wf_vals ws1 pm2, by rw [pm1.length_eq]; exact Nat.le_trans (hFew.wf wt1) (by decide), by rw [pm2.length_eq]; exact Nat.le_trans (hFew.wf ws1) (by decide), fun H11 l nsx k11 nnl hl hcx hlx => ?_⟩
          have kx := (k9.trans k10).trans k11
          have hn11 := kx.at_ hn8
          refine .inl ⟨nm, l, _, _, rfl, rfl, hn11, hl, by rw [List.length_map, List.length_map]; exact sz_le (by omega), ?_⟩
          have kf : KQ K M0 H (upd H11 nm (.lst (ns.map V.str ++ nsx.map V.str))) := (k08.trans kx).mutL nn_n hn11
          have kN : KQ K (Only nm) H11 (upd H11 nm (.lst (ns.map V.str ++ nsx.map V.str))) := Kp.refl.updL rfl hn11
          refine ⟨_, _, _, _, _, ws', ns ++ nsx, rfl, kf, by rw [upd_same, List.map_append], by rw [upd_ne (Ne.symm hnw)]; exact kx.at_ hw8, fun w m => ((hwk8 w m).kp kx).kp kN, fun x => ?_, by omega⟩
          have e3 : unl qs1 qs2 x = unl t.ps s2.ps x := by unfold unl; rw [wf_val wt1 pm1, wf_val ws1 pm2]
          have e4 := hc x
          rw [hun] at e4
          rw [cnt_app, hcx, e3]
          omega
      · have l4 : decide ((0 : Int) < (([] : List V).length : Nat)) = false := rfl
        rw [l4]
        refine ⟨_, rfl, tyl hn8, _, rfl, _, rfl, a, nod, rows, told, as, tk, n, t, rfl, St8, hRt8, wf_sz wt1, Nat.le_trans (hFew.wf wt1) (by decide), wt1.nodup, fun H9 d1 qs1 k9 nn1 hd1 pm1 => ?_⟩
        have St9 := St8.k0 k9
        refine ⟨_, rfl, _, rfl, a, nod, rows, told, as, tk, m, s2, rfl, St9, hRs8.kp k9, wf_sz ws1, Nat.le_trans (hFew.wf ws1) (by decide), ws1.nodup, fun H10 d2 qs2 k10 nn2 hd2 pm2 => ?_⟩
        refine ⟨d1, d2, qs1, qs2, rfl, k10.atD hd1, hd2, wf_vals wt1 pm1, wf_vals ws1 pm2, by rw [pm1.length_eq]; exact Nat.le_trans (hFew.wf wt1) (by decide), by rw [pm2.length_eq]; exact Nat.le_trans (hFew.wf ws1) (by decide), fun H11 l nsx k11 nnl hl hcx hlx => ?_⟩
        have kx := (k9.trans k10).trans k11
        have hn11 := kx.at_ hn8
        refine .inl ⟨nm, l, _, _, rfl, rfl, hn11, hl, by rw [List.length_map, List.length_map]; exact sz_le (by omega), ?_⟩
        have kf : KQ K M0 H (upd H11 nm (.lst (ns.map V.str ++ nsx.map V.str))) := (k08.trans kx).mutL nn_n hn11
        have kN : KQ K (Only nm) H11 (upd H11 nm (.lst (ns.map V.str ++ nsx.map V.str))) := Kp.refl.updL rfl hn11
        refine ⟨_, _, _, _, _, ws', ns ++ nsx, rfl, kf, by rw [upd_same, List.map_append], by rw [upd_ne (Ne.symm hnw)]; exact kx.at_ hw8, fun w m => ((hwk8 w m).kp kx).kp kN, fun x => ?_, by omega⟩
        have e3 : unl qs1 qs2 x = unl t.ps s2.ps x := by unfold unl; rw [wf_val wt1 pm1, wf_val ws1 pm2]
        have e4 := hc x
        rw [hun] at e4
        rw [cnt_app, hcx, e3]
        omega
end RS

/-! text D15 -/
set_option Elab.async false
set_option linter.all false
set_option maxRecDepth 100000
set_option maxHeartbeats 1000000
/-! Exceptions; tokens. -/
namespace RS
open PySem PySem.Spec PyProof.Rows L2
theorem sc_Busy_init : FnScope ["self", "what"] ["self", "what"] (defScope s_Busy_init) := ⟨rfl, rfl, rfl, by decide +kernel, rfl, by decide +kernel, by decide +kernel⟩
theorem sc_AtHome_init : FnScope ["self", "what"] ["self", "what"] (defScope s_AtHome_init) := ⟨rfl, rfl, rfl, by decide +kernel, rfl, by decide +kernel, by decide +kernel⟩
theorem sc_NoToken_init : FnScope ["self", "what"] ["self", "what"] (defScope s_NoToken_init) := ⟨rfl, rfl, rfl, by decide +kernel, rfl, by decide +kernel, by decide +kernel⟩
theorem sc_Used_init : FnScope ["self", "what"] ["self", "what"] (defScope s_Used_init) := ⟨rfl, rfl, rfl, by decide +kernel, rfl, by decide +kernel, by decide +kernel⟩
theorem sc_Elsewhere_init : FnScope ["self", "what"] ["self", "what"] (defScope s_Elsewhere_init) := ⟨rfl, rfl, rfl, by decide +kernel, rfl, by decide +kernel, by decide +kernel⟩
theorem sc_OutOfTurn_init : FnScope ["self", "what"] ["self", "what"] (defScope s_OutOfTurn_init) := ⟨rfl, rfl, rfl, by decide +kernel, rfl, by decide +kernel, by decide +kernel⟩
theorem sc_Tokens_init : FnScope ["self"] ["self"] (defScope s_Tokens_init) := ⟨rfl, rfl, rfl, by decide +kernel, rfl, by decide +kernel, by decide +kernel⟩
theorem sc_Tokens_issue : FnScope ["self", "world", "name", "old"] ["self", "world", "name", "old"] (defScope s_Tokens_issue) := ⟨rfl, rfl, rfl, by decide +kernel, rfl, by decide +kernel, by decide +kernel⟩
theorem sc_Tokens_check : FnScope ["self", "token"] ["self", "token"] (defScope s_Tokens_check) := ⟨rfl, rfl, rfl, by decide +kernel, rfl, by decide +kernel, by decide +kernel⟩
/-! ### rules -/
section
variable {X : Cx} {k : Nat} {sp : Sp} {x : Str} {p pos : Pos} {e : Expr} {es : List Expr} {ta : TA}
theorem pmk_e (D : Df X.prog X.w X.K X.mg X.base CX0 k (mA X.K x "__init__") sp) (hE : errB X.K x = true) (hr : Room (k + 1) X.A) (hm : X.mg x = some (.ref (gA X.K x))) (ha : PA X (e :: es) ta) (hg : Gl X x := by rfl)
    (hdb : (x == ("__debug__" : Str)) = false := by decide) (he : starEach (e :: es) X.env = (false, eval e X.env) :: starEach es X.env := by rfl) (hpl : (backTo pos (starEach es X.env)).any (·.1) = false := by rfl) :
    PMk X (.Call (.Name x p) (e :: es) [] pos) (tMkO (gA X.K x) sp [] ta) := by
  obtain ⟨⟨fd, ps, F, b⟩, q⟩ := D
  obtain ⟨h1, h2, h3⟩ := oex_of hE
  exact pmk_oex h1 h2 h3 F hr b .nil pass0 hg hm ha hdb he hpl
end
section
variable {P : Program} {w : World} {K : PySem.W.Frag} {mg : Str → Option Value} {base : Heap} {k : Nat} {f : Addr} {sp : Sp} {x qual : Str} {st : Stmt} {N ps : List Str}
/-- a def that may raise: what its body may use -/
theorem dfR (F : FnP K x qual st f) (S : FnScope N ps (defScope st)) (bd : BindP x qual st ps) (len : ∀ vs H Q E, sp vs H Q E → vs.length = ps.length)
    (body : ∀ (cd : Value) (A : Around) (outer : List Env) (s : Shared) (H : Hp) (vs : List V) (Q : VK) (E : XK), Room k (A.deeper (envOfC qual (defScope st) s.heap.objs.size f cd)) → sp vs H Q E →
      Takes (cxOf (L2.CX P w) P w K mg base N qual (defScope st) f cd A outer s H E) (fun cls d _ H => E cls d H) →
      (∀ E' : XK, (∀ c d H, E' c d H → E c d H) → Passes (L2.CX P w) (cxOf (L2.CX P w) P w K mg base N qual (defScope st) f cd A outer s H E) E') →
      PassesOwn (model P w) (cxOf (L2.CX P w) P w K mg base N qual (defScope st) f cd A outer s H E).A (cxOf (L2.CX P w) P w K mg base N qual (defScope st) f cd A outer s H E).env (cxOf (L2.CX P w) P w K mg base N qual (defScope st) f cd A outer s H E).xe →
      ∃ t, PSs (cxOf (L2.CX P w) P w K mg base N qual (defScope st) f cd A outer s H E) (defBody st) t ∧ t { nx := fun _ H' => Q .non H', rt := Q } (start N vs) H) : Df P w K mg base (L2.CX P w) (k + 1) f sp :=
  dfX F S bd len fun cd A outer s H vs Q E hr h => by
    have tk : Takes (cxOf (L2.CX P w) P w K mg base N qual (defScope st) f cd A outer s H E) (fun cls d _ H => E cls d H) := takes_of rfl rfl rfl rfl
    exact body cd A outer s H vs Q E hr h tk (fun E' h => passes_call tk fun c d _ H => h c d H) (passes_of rfl)
end
theorem for_enum {K : PySem.W.Frag} {a : Addr} {xs : List V} {g : TG} {tb : TS} {D : Ends} {σ : L2.St} {H : Hp} (Pv : Nat → L2.St → Hp → Prop) (h0 : Pv 0 σ H) (hl : ∀ i σ H, i ≤ xs.length → Pv i σ H → SqL K H a xs)
    (hs : ∀ i x σ H T, xs[i]? = some x → Pv i σ H → H T = none → g (.ref T) σ (upd H T (.tup [.int (i : Nat), x])) fun σ2 H2 => tb { D with nx := Pv (i + 1), ct := Pv (i + 1), bk := D.nx } σ2 H2) (hd : ∀ σ H, Pv xs.length σ H → D.nx σ H) :
    ∃ W : Nat → Nat → L2.St → Hp → Prop, (∃ m, W 0 m σ H) ∧ ∀ i m σ H, W i m σ H →
      ((Ite K a).stop i H ∧ D.nx σ H) ∨ ((Ite K a).go i H ∧ ∃ N : L2.St → Hp → Prop, (∀ σ' H', N σ' H' → ∃ m', m' < m ∧ W (i + 1) m' σ' H') ∧ ∀ x H', (Ite K a).yld i H x H' → g x σ H' fun σ2 H2 => tb { D with nx := N, ct := N, bk := D.nx } σ2 H2) := by
  refine ⟨fun i m σ H => m = xs.length - i ∧ i ≤ xs.length ∧ Pv i σ H, ⟨xs.length, by simp, Nat.zero_le _, h0⟩, ?_⟩
  rintro i m σ H ⟨rfl, hi, p⟩
  have q := hl i σ H hi p
  by_cases hlt : i < xs.length
  · refine .inr ⟨⟨xs, xs[i], q, by simp [hlt]⟩, Pv (i + 1), fun σ' H' p' => ⟨xs.length - (i + 1), by omega, rfl, hlt, p'⟩, fun v H' y => ?_⟩
    obtain ⟨Tt, x, rfl, nT, rfl, y⟩ := y
    exact hs i x σ H Tt (y xs q) p nT
  · have e : i = xs.length := by omega
    subst e
    exact .inl ⟨⟨xs, q, Nat.le_refl _⟩, hd σ H p⟩
variable {P : Program} {w : World} {K : PySem.W.Frag} {mg : Str → Option Value} {base : Heap}
/-! ### exceptions -/
def spErr (C : Addr → Prop) (K : PySem.W.Frag) : Sp := fun vs H Q _ => ∃ (a : Addr) (Ca : Addr) (v : V), vs = [.ref a, v] ∧ C Ca ∧ H a = some (exo a Ca none) ∧ ∀ dx, H dx = none → dx ≠ a → Q .non (upd (upd H dx (exd dx [("what", v)])) a (exo a Ca (some dx)))
abbrev spE (K : PySem.W.Frag) (x : Str) : Sp := spErr (fun c => c = gA K x) K
theorem d_Busy_init_ok (T : Tx K mg base) : Df P w K mg base CX0 1 (mA K "Busy" "__init__") (spE K "Busy") := by
  refine df0 T.F_Busy_init sc_Busy_init (fun _ _ _ _ _ _ us hl => match us, hl with | [_, _], _ => rfl) (fun vs H Q E ⟨_, _, _, h, _⟩ => by rw [h]; rfl) fun cd A outer s H vs Q E hr h => ?_
  obtain ⟨a, Ca, v, rfl, rfl, ha, q⟩ := h
  refine ⟨_, (pss_cons (ps_expr (pe_roadinit rfl T.g_RoadError T.road (pa_cons (pv 0) (pa_cons pe_str pa_nil))))
    (pss_one (ps_ost (pv 0) (pv 1)))), ?_⟩
  have hX := (oex_of T.eb_Busy).1
  exact ⟨_, rfl, a, _, [.str _], rfl, by decide, hX, ha, _, rfl, _, rfl, a, _, rfl, hX, T.na_Busy_what, .inl ⟨ha, q⟩⟩
theorem d_AtHome_init_ok (T : Tx K mg base) : Df P w K mg base CX0 1 (mA K "AtHome" "__init__") (spE K "AtHome") := by
  refine df0 T.F_AtHome_init sc_AtHome_init (fun _ _ _ _ _ _ us hl => match us, hl with | [_, _], _ => rfl) (fun vs H Q E ⟨_, _, _, h, _⟩ => by rw [h]; rfl) fun cd A outer s H vs Q E hr h => ?_
  obtain ⟨a, Ca, v, rfl, rfl, ha, q⟩ := h
  refine ⟨_, (pss_cons (ps_expr (pe_roadinit rfl T.g_RoadError T.road (pa_cons (pv 0) (pa_cons pe_str pa_nil))))
    (pss_one (ps_ost (pv 0) (pv 1)))), ?_⟩
  have hX := (oex_of T.eb_AtHome).1
  exact ⟨_, rfl, a, _, [.str _], rfl, by decide, hX, ha, _, rfl, _, rfl, a, _, rfl, hX, T.na_AtHome_what, .inl ⟨ha, q⟩⟩
theorem d_NoToken_init_ok (T : Tx K mg base) : Df P w K mg base CX0 1 (mA K "NoToken" "__init__") (spE K "NoToken") := by
  refine df0 T.F_NoToken_init sc_NoToken_init (fun _ _ _ _ _ _ us hl => match us, hl with | [_, _], _ => rfl) (fun vs H Q E ⟨_, _, _, h, _⟩ => by rw [h]; rfl) fun cd A outer s H vs Q E hr h => ?_
  obtain ⟨a, Ca, v, rfl, rfl, ha, q⟩ := h
  refine ⟨_, (pss_cons (ps_expr (pe_roadinit rfl T.g_RoadError T.road (pa_cons (pv 0) (pa_cons pe_str pa_nil))))
    (pss_one (ps_ost (pv 0) (pv 1)))), ?_⟩
  have hX := (oex_of T.eb_NoToken).1
  exact ⟨_, rfl, a, _, [.str _], rfl, by decide, hX, ha, _, rfl, _, rfl, a, _, rfl, hX, T.na_NoToken_what, .inl ⟨ha, q⟩⟩
theorem d_Used_init_ok (T : Tx K mg base) : Df P w K mg base CX0 1 (mA K "Used" "__init__") (spE K "Used") := by
  refine df0 T.F_Used_init sc_Used_init (fun _ _ _ _ _ _ us hl => match us, hl with | [_, _], _ => rfl) (fun vs H Q E ⟨_, _, _, h, _⟩ => by rw [h]; rfl) fun cd A outer s H vs Q E hr h => ?_
  obtain ⟨a, Ca, v, rfl, rfl, ha, q⟩ := h
  refine ⟨_, (pss_cons (ps_expr (pe_roadinit rfl T.g_RoadError T.road (pa_cons (pv 0) (pa_cons pe_str pa_nil))))
    (pss_one (ps_ost (pv 0) (pv 1)))), ?_⟩
  have hX := (oex_of T.eb_Used).1
  exact ⟨_, rfl, a, _, [.str _], rfl, by decide, hX, ha, _, rfl, _, rfl, a, _, rfl, hX, T.na_Used_what, .inl ⟨ha, q⟩⟩
theorem d_Elsewhere_init_ok (T : Tx K mg base) : Df P w K mg base CX0 1 (mA K "Elsewhere" "__init__") (spE K "Elsewhere") := by
  refine df0 T.F_Elsewhere_init sc_Elsewhere_init (fun _ _ _ _ _ _ us hl => match us, hl with | [_, _], _ => rfl) (fun vs H Q E ⟨_, _, _, h, _⟩ => by rw [h]; rfl) fun cd A outer s H vs Q E hr h => ?_
  obtain ⟨a, Ca, v, rfl, rfl, ha, q⟩ := h
  refine ⟨_, (pss_cons (ps_expr (pe_roadinit rfl T.g_RoadError T.road (pa_cons (pv 0) (pa_cons pe_str pa_nil))))
    (pss_one (ps_ost (pv 0) (pv 1)))), ?_⟩
  have hX := (oex_of T.eb_Elsewhere).1
  exact ⟨_, rfl, a, _, [.str _], rfl, by decide, hX, ha, _, rfl, _, rfl, a, _, rfl, hX, T.na_Elsewhere_what, .inl ⟨ha, q⟩⟩
theorem d_OutOfTurn_init_ok (T : Tx K mg base) : Df P w K mg base CX0 1 (mA K "OutOfTurn" "__init__") (spE K "OutOfTurn") := by
  refine df0 T.F_OutOfTurn_init sc_OutOfTurn_init (fun _ _ _ _ _ _ us hl => match us, hl with | [_, _], _ => rfl) (fun vs H Q E ⟨_, _, _, h, _⟩ => by rw [h]; rfl) fun cd A outer s H vs Q E hr h => ?_
  obtain ⟨a, Ca, v, rfl, rfl, ha, q⟩ := h
  refine ⟨_, (pss_cons (ps_expr (pe_roadinit rfl T.g_RoadError T.road (pa_cons (pv 0) (pa_cons pe_str pa_nil))))
    (pss_one (ps_ost (pv 0) (pv 1)))), ?_⟩
  have hX := (oex_of T.eb_OutOfTurn).1
  exact ⟨_, rfl, a, _, [.str _], rfl, by decide, hX, ha, _, rfl, _, rfl, a, _, rfl, hX, T.na_OutOfTurn_what, .inl ⟨ha, q⟩⟩
abbrev errs6 : List Str := ["Busy", "AtHome", "NoToken", "Used", "Elsewhere", "OutOfTurn"]
/-- what is let out: one of the six, and nothing that stands has changed -/
def XOut (K : PySem.W.Frag) (H : Hp) (E : XK) : Prop := ∀ (x : Str) (d : Option Addr) (H' : Hp), x ∈ errs6 → KQ K M0 H H' → E (.ref (gA K x)) d H'
theorem XOut.k0 {H H1 : Hp} {E : XK} (q : XOut K H E) (k : KQ K M0 H H1) : XOut K H1 E := fun x d H' m k' => q x d H' m (k.trans k')
theorem raised {H0 H1 : Hp} {E : XK} {x : Str} {v : V} (m : x ∈ errs6) (k : KQ K M0 H0 H1) (q : XOut K H0 E) : [v].length ≤ 1000 ∧ ∀ a, H1 a = none → spE K x (.ref a :: ([v] ++ [])) (upd H1 a (exo a (gA K x) none))
    (fun u H2 => u = .non ∧ ∃ (d : Addr) (fs : List (Str × V)), H2 a = some (exo a (gA K x) (some d)) ∧ H2 d = some (exd d fs) ∧ H1 d = none ∧ E (.ref (gA K x)) (some d) (upd (del H2 a) d (.xd fs))) (fun _ _ _ => False) := by
  refine ⟨by show 1 ≤ 1000; decide, fun a na => ⟨a, _, v, rfl, rfl, upd_same, fun dx h1 h2 => ⟨rfl, dx, [("what", v)], upd_same, ?_, ?_, ?_⟩⟩⟩
  · rw [upd_ne h2]; exact upd_same
  · rw [upd_ne h2] at h1; exact h1
  · refine q x _ _ m (k.ext fun b o e => ?_)
    have nd : H1 dx = none := by rw [upd_ne h2] at h1; exact h1
    have b1 : b ≠ dx := ne_of_none e nd
    have b2 : b ≠ a := ne_of_none e na
    rw [upd_ne b1, del_ne b2, upd_ne b2, upd_ne b1, upd_ne b2]
    exact e
/-! ### tokens -/
/-- the tokens at p -/
structure TokA (K : PySem.W.Frag) (H : Hp) (S : Str → Prop) (p fa un : Addr) (xs : List V) (us : List Bool) : Prop where
  obj : InsA H p (gA K "Tokens") [("facts", .ref fa), ("unused", .ref un)]
  lst : H fa = some (.lst xs)
  unl : H un = some (.lst (us.map V.bl))
  len : us.length = xs.length
  each : ∀ v ∈ xs, ∃ (b : Addr) (c : Nat) (n : Str) (o : V), v = .ref b ∧ H b = some (.tup [.int c, .str n, o]) ∧ S n ∧ Sc o
theorem TokA.kp {H H1 : Hp} {S : Str → Prop} {p fa un : Addr} {xs : List V} {us : List Bool} {T : Tbs} {M : Addr → Prop} (h : TokA K H S p fa un xs us) (k : Kp T M H H1) (n1 : ¬ M fa) (n2 : ¬ M un) : TokA K H1 S p fa un xs us :=
  ⟨h.obj.kp k, k.lst h.lst n1, k.lst h.unl n2, h.len, fun v m => let ⟨b, c, n, o, e1, e2, e3⟩ := h.each v m; ⟨b, c, n, o, e1, k.tup e2, e3⟩⟩
theorem TokA.k0 {H H1 : Hp} {S : Str → Prop} {p fa un : Addr} {xs : List V} {us : List Bool} (h : TokA K H S p fa un xs us) (k : KQ K M0 H H1) : TokA K H1 S p fa un xs us := h.kp k id id
def spTInit (K : PySem.W.Frag) : Sp := fun vs H Q _ => ∃ (x dx : Addr), vs = [.ref x] ∧ H x = some (.ins (gA K "Tokens") dx []) ∧ ∀ (H' : Hp) (fa un : Addr), (∀ H0, KQ K M0 H0 H → NN H0 x → KQ K M0 H0 H' ∧ NN H0 fa ∧ NN H0 un) → fa ≠ un → (∀ S, TokA K H' S x fa un [] []) → Q .non H'
theorem d_Tokens_init_ok (T : Tx K mg base) : Df P w K mg base CX0 1 (mA K "Tokens" "__init__") (spTInit K) := by
  refine df0 T.F_Tokens_init sc_Tokens_init (fun _ _ _ _ _ _ us hl => match us, hl with | [_], _ => rfl) (fun vs H Q E ⟨_, _, h, _⟩ => by rw [h]; rfl) fun cd A outer s H vs Q E hr h => ?_
  obtain ⟨x, dx, rfl, hx, q⟩ := h
  refine ⟨_, (pss_cons (ps_fld (pv 0) (pe_lst pa_nil) rfl)
    (pss_one (ps_fld (pv 0) (pe_lst pa_nil) rfl))), ?_⟩
  refine ⟨sz0, fun fa nf => ?_⟩
  have xf : x ≠ fa := ne_of_none hx nf
  have hx1 : upd H fa (.lst []) x = some (.ins (gA K "Tokens") dx []) := by rw [upd_ne xf]; exact hx
  refine ⟨_, rfl, x, _, dx, _, rfl, hx1, T.cl_Tokens, T.na_Tokens_facts, show 0 < 1000 by decide, sz0, fun un nu => ?_⟩
  have xu : x ≠ un := ne_of_none upd_same nu
  have hx2 : upd (upd (upd H fa (.lst [])) x (.ins (gA K "Tokens") dx (putF "facts" (.ref fa) []))) un (.lst []) x = some (.ins (gA K "Tokens") dx (putF "facts" (.ref fa) [])) := by rw [upd_ne xu]; exact upd_same
  have fu : fa ≠ un := ne_of_none (by rw [upd_ne (Ne.symm xf)]; exact upd_same) nu
  refine ⟨_, rfl, x, _, dx, _, rfl, hx2, T.cl_Tokens, T.na_Tokens_unused, show 1 < 1000 by decide, ?_⟩
  refine q _ fa un (fun H0 k nn => ?_) fu fun S => ⟨⟨dx, upd_same⟩, ?_, ?_, rfl, fun _ m => nomatch m⟩
  · have k1 := k.new nf (o := .lst [])
    have k2 := k1.mutI (C' := gA K "Tokens") (dx' := dx) (ys := putF "facts" (.ref fa) []) nn hx1
    have k3 := k2.new nu (o := .lst [])
    exact ⟨k3.mutI nn hx2, k.nn nf, k2.nn nu⟩
  · rw [upd_ne (Ne.symm xf), upd_ne fu, upd_ne (Ne.symm xf)]
    exact upd_same
  · rw [upd_ne (Ne.symm xu)]
    exact upd_same
def spTIssue (K : PySem.W.Frag) : Sp := fun vs H Q _ => ∃ (S : Str → Prop) (p fa un : Addr) (xs : List V) (us : List Bool) (c : Nat) (n : Str) (o : V), vs = [.ref p, .int c, .str n, o] ∧ TokA K H S p fa un xs us ∧ fa ≠ un ∧ xs.length < 80000 ∧ S n ∧ Sc o ∧
  ∀ (H' : Hp) (b : Addr), KQ K (Two fa un) H H' → TokA K H' S p fa un (xs ++ [.ref b]) (us ++ [true]) → Q (.int xs.length) H'
theorem d_Tokens_issue_ok (T : Tx K mg base) : Df P w K mg base CX0 1 (mA K "Tokens" "issue") (spTIssue K) := by
  refine df0 T.F_Tokens_issue sc_Tokens_issue (fun _ _ _ _ _ _ us hl => match us, hl with | [_, _, _, _], _ => rfl) (fun vs H Q E ⟨_, _, _, _, _, _, _, _, _, h, _⟩ => by rw [h]; rfl) fun cd A outer s H vs Q E hr h => ?_
  obtain ⟨S, p, fa, un, xs, us, c, n, o, rfl, Tk, fu, hz, hS, hsc, q⟩ := h
  refine ⟨_, (pss_cons (ps_expr (pe_bm PySem.F.plainAttrs_list PySem.F.slot_list_append PySem.F.type_list_append mt_append (pe_fld (pv 0) rfl) (pa_cons (pe_tup (pa_cons (pv 1) (pa_cons (pv 2) (pa_cons (pv 3) pa_nil)))) pa_nil)))
    (pss_cons (ps_expr (pe_bm PySem.F.plainAttrs_list PySem.F.slot_list_append PySem.F.type_list_append mt_append (pe_fld (pv 0) rfl) (pa_cons pe_bl pa_nil)))
    (pss_one (ps_ret (pe_op op_sub (pe_callB call_len_seq rfl T.b_len boot_len (pa_cons (pe_fld (pv 0) rfl) pa_nil)) pe_int))))), ?_⟩
  obtain ⟨dx, ho⟩ := Tk.obj
  refine ⟨_, rfl, p, _, dx, _, _, rfl, ho, T.cl_Tokens, T.na_Tokens_facts, rfl, tyl Tk.lst, _, rfl, _, rfl, _, rfl, sz3, fun t nt => ?_⟩
  have k1 : KQ K (Two fa un) H (upd H t (.tup [.int c, .str n, o])) := Kp.refl.new nt
  have hf1 : upd H t (.tup [.int c, .str n, o]) fa = some (.lst xs) := by rw [upd_ne (ne_of_none Tk.lst nt)]; exact Tk.lst
  refine ⟨fa, xs, _, rfl, rfl, hf1, sz_lt (by omega), ?_⟩
  have k2 := k1.updL (ys := xs ++ [.ref t]) (.inl rfl) hf1
  have hu2 : upd (upd H t (.tup [.int c, .str n, o])) fa (.lst (xs ++ [.ref t])) un = some (.lst (us.map V.bl)) := by rw [upd_ne (Ne.symm fu), upd_ne (ne_of_none Tk.unl nt)]; exact Tk.unl
  have ho2 := k2.ins ho
  refine ⟨_, rfl, p, _, dx, _, _, rfl, ho2, T.cl_Tokens, T.na_Tokens_unused, rfl, tyl hu2, ?_⟩
  refine ⟨un, _, _, rfl, rfl, hu2, by rw [List.length_map, Tk.len]; exact sz_lt (by omega), ?_⟩
  have k3 := k2.updL (ys := us.map V.bl ++ [.bl true]) (.inr rfl) hu2
  have hf3 : upd (upd (upd H t (.tup [.int c, .str n, o])) fa (.lst (xs ++ [.ref t]))) un (.lst (us.map V.bl ++ [.bl true])) fa = some (.lst (xs ++ [.ref t])) := by rw [upd_ne fu]; exact upd_same
  have ho3 := k3.ins ho
  refine ⟨_, rfl, p, _, dx, _, _, rfl, ho3, T.cl_Tokens, T.na_Tokens_facts, rfl, fa, _, rfl, .inl (sqL_at hf3), _, _, rfl, rfl, ?_⟩
  show Q (.int (((xs ++ [V.ref t]).length : Int) - 1)) _
  rw [show (((xs ++ [V.ref t]).length : Int) - 1) = ((xs.length : Nat) : Int) by rw [List.length_append]; show (((xs.length + 1 : Nat) : Int) - 1) = _; omega]
  have ht : (upd (upd (upd H t (.tup [.int c, .str n, o])) fa (.lst (xs ++ [.ref t]))) un (.lst (us.map V.bl ++ [.bl true]))) t = some (.tup [.int c, .str n, o]) := by
    rw [upd_ne (Ne.symm (ne_of_none Tk.unl nt)), upd_ne (Ne.symm (ne_of_none Tk.lst nt))]
    exact upd_same
  refine q _ t k3 ⟨⟨dx, ho3⟩, hf3, by rw [upd_same, List.map_append]; rfl, by rw [List.length_append, List.length_append, Tk.len]; rfl, fun v m => ?_⟩
  rcases List.mem_append.mp m with m | m
  · obtain ⟨b, c', n', o', e1, e2, e3⟩ := Tk.each v m
    exact ⟨b, c', n', o', e1, k3.tup e2, e3⟩
  · rw [List.mem_singleton.mp m]
    exact ⟨t, c, n, o, rfl, ht, hS, hsc⟩
def spTCheck (K : PySem.W.Frag) : Sp := fun vs H Q E => ∃ (S : Str → Prop) (p fa un : Addr) (xs : List V) (us : List Bool) (k : Nat), vs = [.ref p, .int k] ∧ TokA K H S p fa un xs us ∧ (k < xs.length → Q .non H) ∧ (¬ k < xs.length → XOut K H E)
def spTCheck0 (K : PySem.W.Frag) : Sp := fun vs H Q _ => ∃ (S : Str → Prop) (p fa un : Addr) (xs : List V) (us : List Bool) (k : Nat), vs = [.ref p, .int k] ∧ TokA K H S p fa un xs us ∧ k < xs.length ∧ Q .non H
theorem d_Tokens_check_ok (T : Tx K mg base) : Df P w K mg base (L2.CX P w) 4 (mA K "Tokens" "check") (spTCheck K) := by
  have h_NoToken_init := d_NoToken_init_ok (P := P) (w := w) T
  refine dfR T.F_Tokens_check sc_Tokens_check (fun _ _ _ _ _ _ us hl => match us, hl with | [_, _], _ => rfl) (fun vs H Q E ⟨_, _, _, _, _, _, _, h, _⟩ => by rw [h]; rfl) fun cd A outer s H vs Q E hr h tk hX hown => ?_
  obtain ⟨S, p, fa, un, xs, us, k, rfl, Tk, q1, q2⟩ := h
  refine ⟨_, (pss_one (ps_if (pt_not (pt_chain op_le op_lt pe_int (pv 1) (pe_callB call_len_seq rfl T.b_len boot_len (pa_cons (pe_fld (pv 0) rfl) pa_nil)))) (pss_one (ps_raise rfl tk (pmk_e h_NoToken_init T.eb_NoToken (hr.mono (by decide)) T.g_NoToken (pa_cons (pv 1) pa_nil)))) pss_nil)), ?_⟩
  obtain ⟨dx, ho⟩ := Tk.obj
  have e0 : decide ((0 : Int) ≤ (k : Nat)) = true := decide_eq_true (by omega)
  refine ⟨_, rfl, _, _, rfl, rfl, ?_⟩
  refine ⟨true, congrArg V.bl e0, ?_⟩
  rw [if_pos rfl]
  refine ⟨_, rfl, p, _, dx, _, _, rfl, ho, T.cl_Tokens, T.na_Tokens_facts, rfl, fa, xs, rfl, .inl (sqL_at Tk.lst), _, _, rfl, rfl, ?_⟩
  by_cases hk : k < xs.length
  · have e1 : decide (((k : Nat) : Int) < (xs.length : Nat)) = true := decide_eq_true (by omega)
    exact ⟨true, congrArg V.bl e1, q1 hk⟩
  · have e1 : decide (((k : Nat) : Int) < (xs.length : Nat)) = false := decide_eq_false (by omega)
    refine ⟨false, congrArg V.bl e1, ?_⟩
    exact ⟨_, rfl, raised (by decide) Kp.refl (q2 hk)⟩
end RS

/-! text D16 -/
set_option Elab.async false
set_option linter.all false
set_option maxRecDepth 100000
set_option maxHeartbeats 1000000
/-! Tokens: last_like, use. -/
namespace RS
open PySem PySem.Spec PyProof.Rows L2
theorem sc_Tokens_last_like : FnScope ["self", "token", "found", "other", "fact"] ["self", "token"] (defScope s_Tokens_last_like) := ⟨rfl, rfl, rfl, by decide +kernel, rfl, by decide +kernel, by decide +kernel⟩
theorem sc_Tokens_use : FnScope ["self", "token", "world"] ["self", "token", "world"] (defScope s_Tokens_use) := ⟨rfl, rfl, rfl, by decide +kernel, rfl, by decide +kernel, by decide +kernel⟩
variable {P : Program} {w : World} {K : PySem.W.Frag} {mg : Str → Option Value} {base : Heap}
theorem d_Tokens_check0_ok (T : Tx K mg base) : Df P w K mg base CX0 1 (mA K "Tokens" "check") (spTCheck0 K) := by
  refine df0 T.F_Tokens_check sc_Tokens_check (fun _ _ _ _ _ _ us hl => match us, hl with | [_, _], _ => rfl) (fun vs H Q E ⟨_, _, _, _, _, _, _, h, _⟩ => by rw [h]; rfl) fun cd A outer s H vs Q E hr h => ?_
  obtain ⟨S, p, fa, un, xs, us, k, rfl, Tk, hk, q⟩ := h
  refine ⟨_, (pss_one (ps_if (pt_not (pt_chain op_le op_lt pe_int (pv 1) (pe_callB call_len_seq rfl T.b_len boot_len (pa_cons (pe_fld (pv 0) rfl) pa_nil)))) (pss_one ps_never) pss_nil)), ?_⟩
  obtain ⟨dx, ho⟩ := Tk.obj
  have e0 : decide ((0 : Int) ≤ (k : Nat)) = true := decide_eq_true (by omega)
  refine ⟨_, rfl, _, _, rfl, rfl, ?_⟩
  refine ⟨true, congrArg V.bl e0, ?_⟩
  rw [if_pos rfl]
  refine ⟨_, rfl, p, _, dx, _, _, rfl, ho, T.cl_Tokens, T.na_Tokens_facts, rfl, fa, xs, rfl, .inl (sqL_at Tk.lst), _, _, rfl, rfl, ?_⟩
  have e1 : decide (((k : Nat) : Int) < (xs.length : Nat)) = true := decide_eq_true (by omega)
  exact ⟨true, congrArg V.bl e1, q⟩
theorem good_ok {n : Str} (g : GoodN n) : PyData.strOk n = true := by
  unfold PyData.strOk
  rw [← Array.all_toList, List.all_eq_true]
  intro c m
  exact decide_eq_true (by have := g.az c m; omega)
theorem shp2 (c : Int) {n : Str} (g : GoodN n) : SeqAt.shaped (.tuple [.int c, .str n]) = true := by
  simp [SeqAt.shaped, PyData.canLay0, PyData.canLayAll0, PyData.depth, PyData.depthAll, good_ok g]
theorem cut2 {a b c : V} : cutV [a, b, c] none (some (2 : Int)) = [a, b] := rfl
theorem cut1 {a b c : V} : cutV [a, b, c] (some (1 : Int)) none = [b, c] := rfl
theorem nwh2 {a b c : V} : ¬ (HT.sIx [a, b, c].length 0 none = 0 ∧ HT.sIx [a, b, c].length [a, b, c].length (some (2 : Int)) = [a, b, c].length) := fun z => by
  have y : (2 : Nat) = 3 := z.2
  omega
theorem nwh1 {a b c : V} : ¬ (HT.sIx [a, b, c].length 0 (some (1 : Int)) = 0 ∧ HT.sIx [a, b, c].length [a, b, c].length none = [a, b, c].length) := fun z => by
  have y : (1 : Nat) = 0 := z.1
  omega
theorem us_at {us : List Bool} {k : Nat} (h : k < us.length) : (us.map V.bl)[k]? = some (.bl us[k]) := by rw [List.getElem?_map, List.getElem?_eq_getElem h]; rfl
def spTLast (K : PySem.W.Frag) : Sp := fun vs H Q _ => ∃ (S : Str → Prop) (p fa un : Addr) (xs : List V) (us : List Bool) (k : Nat), vs = [.ref p, .int k] ∧ TokA K H S p fa un xs us ∧ (∀ n, S n → GoodN n) ∧ k < xs.length ∧ ∀ H' v, KQ K M0 H H' → (v = .non ∨ ∃ j : Int, v = .int j) → Q v H'
theorem d_Tokens_last_like_ok (T : Tx K mg base) : Df P w K mg base CX0 2 (mA K "Tokens" "last_like") (spTLast K) := by
  have h_Tokens_check := d_Tokens_check0_ok (P := P) (w := w) T
  refine df0 T.F_Tokens_last_like sc_Tokens_last_like (fun _ _ _ _ _ _ us hl => match us, hl with | [_, _], _ => rfl) (fun vs H Q E ⟨_, _, _, _, _, _, _, h, _⟩ => by rw [h]; rfl) fun cd A outer s H vs Q E hr h => ?_
  obtain ⟨S, p, fa, un, xs, us, k, rfl, Tk, hG, hk, q⟩ := h
  refine ⟨_, (pss_cons (ps_expr (pe_m h_Tokens_check (hr.mono (by decide)) T.cl_Tokens T.me_Tokens_check (pv 0) (pa_cons (pv 1) pa_nil)))
    (pss_cons (ps_set (i := 2) sc_Tokens_last_like.nd rfl (.inl rfl) pe_non)
    (pss_cons (ps_for PassesOwn.never rfl (pi_enum rfl T.b_enumerate (pa_cons (pe_fld (pv 0) rfl) pa_nil)) (pg_tup rfl (pgs_cons (pg_name (i := 3) sc_Tokens_last_like.nd rfl (.inl rfl)) (pgs_cons (pg_name (i := 4) sc_Tokens_last_like.nd rfl (.inl rfl)) pgs_nil))) (pss_one (ps_if (PW.pt (pw_and (pt_val (pe_ix ix_list (pe_fld (pv 0) rfl) (pv 3) (fun _ _ => rfl))) (pw_and1 (pt_cmpR (op_eqD hr.units) (pe_slice sl_tupA (pv 4) po_none (po_some pe_int)) (pe_slice sl_tupA (pe_ix ix_list (pe_fld (pv 0) rfl) (pv 1) (fun _ _ => rfl)) po_none (po_some pe_int)) rfl)))) (pss_one (ps_set (i := 2) sc_Tokens_last_like.nd rfl (.inl rfl) (pv 3))) pss_nil)))
    (pss_one (ps_ret (pv 2)))))), ?_⟩
  obtain ⟨dx, ho⟩ := Tk.obj
  refine ⟨_, rfl, p, dx, _, rfl, ho, rfl, _, rfl, S, p, fa, un, xs, us, k, rfl, Tk, hk, ?_⟩
  refine ⟨_, rfl, p, _, dx, _, _, rfl, ho, T.cl_Tokens, T.na_Tokens_facts, rfl, fa, xs, rfl, sqL_at Tk.lst, ?_⟩
  refine for_enum (xs := xs) (fun i σ H' => ∃ v z1 z2, σ = [some (.ref p), some (.int k), some v, z1, z2] ∧ KQ K M0 H H' ∧ (v = .non ∨ ∃ j : Int, v = .int j)) ⟨.non, none, none, rfl, Kp.refl, .inl rfl⟩ (fun i σ H' _ p => by obtain ⟨_, _, _, _, kp, _⟩ := p; exact sqL_at (kp.at_ Tk.lst)) (fun i x σ H' t hx p nt => ?_) fun σ H' p => ?_
  · obtain ⟨v, z1, z2, rfl, kp, hv⟩ := p
    have hi : i < xs.length := (List.getElem?_eq_some_iff.mp hx).1
    have k2 : KQ K M0 H (upd H' t (.tup [.int i, x])) := kp.new nt
    have Tk2 := Tk.k0 k2
    obtain ⟨dx2, ho2⟩ := Tk2.obj
    refine ⟨t, [.int i, x], rfl, sqT_new, rfl, _, _, rfl, _, _, rfl, rfl, ?_⟩
    obtain ⟨ub, hub⟩ : ∃ b, (us.map V.bl)[i]? = some (.bl b) := ⟨_, us_at (by rw [Tk.len]; exact hi)⟩
    refine ⟨_, rfl, p, _, dx2, _, _, rfl, ho2, T.cl_Tokens, T.na_Tokens_unused, rfl, _, rfl, un, _, i, _, rfl, rfl, sqL_at Tk2.unl, atN hub, ?_⟩
    obtain ⟨b1, c1, n1, o1, rfl, hb1, hS1, _⟩ := Tk2.each x (List.mem_of_getElem? hx)
    obtain ⟨b2, c2, n2, o2, eb2, hb2, hS2, _⟩ := Tk2.each xs[k] (List.getElem_mem hk)
    have hxk : xs[k]? = some (.ref b2) := by rw [List.getElem?_eq_getElem hk, eb2]
    refine ⟨ub, rfl, ?_⟩
    cases ub with
    | false => exact ⟨_, _, _, rfl, k2, hv⟩
    | true =>
      refine ⟨_, rfl, 2, rfl, b1, _, rfl, sqT_at hb1, fun z => absurd z nwh2, fun _ d1 nd1 => ?_⟩
      rw [cut2]
      have k3 := k2.new nd1 (o := .tup [.int c1, .str n1])
      have Tk3 := Tk.k0 k3
      obtain ⟨dx3, ho3⟩ := Tk3.obj
      have hb23 : upd (upd H' t (.tup [.int i, .ref b1])) d1 (.tup [.int c1, .str n1]) b2 = some (.tup [.int c2, .str n2, o2]) := by rw [upd_ne (ne_of_none hb2 nd1)]; exact hb2
      refine ⟨_, rfl, p, _, dx3, _, _, rfl, ho3, T.cl_Tokens, T.na_Tokens_facts, rfl, _, rfl, fa, xs, k, _, rfl, rfl, sqL_at Tk3.lst, atN hxk, 2, rfl, b2, _, rfl, sqT_at hb23, fun z => absurd z nwh2, fun _ d2 nd2 => ?_⟩
      rw [cut2]
      have k4 := k3.new nd2 (o := .tup [.int c2, .str n2])
      have hd1 : upd (upd (upd H' t (.tup [.int i, .ref b1])) d1 (.tup [.int c1, .str n1])) d2 (.tup [.int c2, .str n2]) d1 = some (.tup [.int c1, .str n1]) := by rw [upd_ne (ne_of_none upd_same nd2)]; exact upd_same
      refine ⟨.tuple [.int c1, .str n1], .tuple [.int c2, .str n2], .tup (sqT_at hd1) (.cons (.int _) (.cons (.str _) .nil)), .tup (sqT_at upd_same) (.cons (.int _) (.cons (.str _) .nil)), shp2 _ (hG _ hS1), shp2 _ (hG _ hS2), _, rfl, ?_⟩
      generalize PyData.eqv _ _ = b
      cases b with
      | false => exact ⟨_, _, _, rfl, k4, hv⟩
      | true => exact ⟨_, rfl, _, _, _, rfl, k4, .inr ⟨_, rfl⟩⟩
  · obtain ⟨v, z1, z2, rfl, kp, hv⟩ := p
    exact ⟨_, rfl, q H' v kp hv⟩
/-- use: let out, or the fact's name and old value -/
def spTUse (K : PySem.W.Frag) : Sp := fun vs H Q E => ∃ (S : Str → Prop) (p fa un : Addr) (xs : List V) (us : List Bool) (k c : Nat), vs = [.ref p, .int k, .int c] ∧ TokA K H S p fa un xs us ∧ (∀ n, S n → GoodN n) ∧ fa ≠ un ∧ XOut K H E ∧
  ∀ (H' : Hp) (t : Addr) (n : Str) (o : V) (us' : List Bool), KQ K (Only un) H H' → TokA K H' S p fa un xs us' → H' t = some (.tup [.str n, o]) → S n → Sc o → Q (.ref t) H'
theorem d_Tokens_use_ok (T : Tx K mg base) : Df P w K mg base (L2.CX P w) 5 (mA K "Tokens" "use") (spTUse K) := by
  have h_Tokens_check := d_Tokens_check_ok (P := P) (w := w) T
  have h_Tokens_last_like := d_Tokens_last_like_ok (P := P) (w := w) T
  have h_Used_init := d_Used_init_ok (P := P) (w := w) T
  have h_Elsewhere_init := d_Elsewhere_init_ok (P := P) (w := w) T
  have h_OutOfTurn_init := d_OutOfTurn_init_ok (P := P) (w := w) T
  refine dfR T.F_Tokens_use sc_Tokens_use (fun _ _ _ _ _ _ us hl => match us, hl with | [_, _, _], _ => rfl) (fun vs H Q E ⟨_, _, _, _, _, _, _, _, h, _⟩ => by rw [h]; rfl) fun cd A outer s H vs Q E hr h tk hX hown => ?_
  have hx := hX E fun _ _ _ h => h
  obtain ⟨S, p, fa, un, xs, us, k, c, rfl, Tk, hG, fu, qx, q⟩ := h
  refine ⟨_, (pss_cons (ps_expr (pe_mX hx h_Tokens_check (hr.mono (by decide)) T.cl_Tokens T.me_Tokens_check (pv 0) (pa_cons (pv 1) pa_nil)))
    (pss_cons (ps_if (pt_not (pt_val (pe_ix ix_list (pe_fld (pv 0) rfl) (pv 1) (fun _ _ => rfl)))) (pss_one (ps_raise rfl tk (pmk_e h_Used_init T.eb_Used (hr.mono (by decide)) T.g_Used (pa_cons (pv 1) pa_nil)))) pss_nil)
    (pss_cons (ps_if (pt_cmpR op_ne (pe_ix ix_tup (pe_ix ix_list (pe_fld (pv 0) rfl) (pv 1) (fun _ _ => rfl)) pe_int (fun _ _ => rfl)) (pv 2) rfl) (pss_one (ps_raise rfl tk (pmk_e h_Elsewhere_init T.eb_Elsewhere (hr.mono (by decide)) T.g_Elsewhere (pa_cons (pv 1) pa_nil)))) pss_nil)
    (pss_cons (ps_if (pt_cmpR op_ne (pe_m h_Tokens_last_like (hr.mono (by decide)) T.cl_Tokens T.me_Tokens_last_like (pv 0) (pa_cons (pv 1) pa_nil)) (pv 1) rfl) (pss_one (ps_raise rfl tk (pmk_e h_OutOfTurn_init T.eb_OutOfTurn (hr.mono (by decide)) T.g_OutOfTurn (pa_cons (pv 1) pa_nil)))) pss_nil)
    (pss_cons (ps_asg pe_bl (pg_sub (pe_fld (pv 0) rfl) (pv 1) set_list))
    (pss_one (ps_ret (pe_slice sl_tupA (pe_ix ix_list (pe_fld (pv 0) rfl) (pv 1) (fun _ _ => rfl)) (po_some pe_int) po_none)))))))), ?_⟩
  obtain ⟨dx, ho⟩ := Tk.obj
  refine ⟨_, rfl, p, dx, _, rfl, ho, rfl, _, rfl, S, p, fa, un, xs, us, k, rfl, Tk, fun hk => ?_, fun _ => qx⟩
  obtain ⟨ub, hub⟩ : ∃ b, (us.map V.bl)[k]? = some (.bl b) := ⟨_, us_at (by rw [Tk.len]; exact hk)⟩
  obtain ⟨b2, c2, n2, o2, eb2, hb2, hS2, hsc2⟩ := Tk.each xs[k] (List.getElem_mem hk)
  have hxk : xs[k]? = some (.ref b2) := by rw [List.getElem?_eq_getElem hk, eb2]
  refine ⟨_, rfl, p, _, dx, _, _, rfl, ho, T.cl_Tokens, T.na_Tokens_unused, rfl, _, rfl, un, _, k, _, rfl, rfl, sqL_at Tk.unl, atN hub, ?_⟩
  refine ⟨ub, rfl, ?_⟩
  cases ub with
  | false => exact ⟨_, rfl, raised (by decide) Kp.refl qx⟩
  | true =>
    refine ⟨_, rfl, p, _, dx, _, _, rfl, ho, T.cl_Tokens, T.na_Tokens_facts, rfl, _, rfl, fa, xs, k, _, rfl, rfl, sqL_at Tk.lst, atN hxk, b2, _, 0, _, rfl, rfl, sqT_at hb2, at0, _, rfl, rfl, _, rfl, ?_⟩
    by_cases e : c2 = c
    · have e1 : decide (V.int (c2 : Nat) = V.int (c : Nat)) = true := decide_eq_true (by rw [e])
      rw [e1]
      refine ⟨_, rfl, p, dx, _, rfl, ho, rfl, _, rfl, S, p, fa, un, xs, us, k, rfl, Tk, hG, hk, fun H1 v k1 hv => ?_⟩
      have Tk1 := Tk.k0 k1
      obtain ⟨dx1, ho1⟩ := Tk1.obj
      have tail : ∀ b : Bool, b = true ∨ b = false := fun b => by cases b <;> simp
      refine ⟨_, rfl, by rcases hv with rfl | ⟨j, rfl⟩ <;> rfl, _, rfl, ?_⟩
      generalize (decide (v = V.int (k : Nat))) = bb
      cases bb with
      | false => exact ⟨_, rfl, raised (by decide) k1 qx⟩
      | true =>
        have hku : k < (us.map V.bl).length := by rw [List.length_map, Tk.len]; exact hk
        have hj : ixN (us.map V.bl).length (k : Nat) = some k := by
          unfold ixN
          rw [if_pos (by omega), if_pos (by omega)]
          rfl
        refine ⟨_, rfl, p, _, dx1, _, _, rfl, ho1, T.cl_Tokens, T.na_Tokens_unused, rfl, _, rfl, un, _, _, k, rfl, rfl, Tk1.unl, hj, ?_⟩
        have kU : KQ K (Only un) H1 (upd H1 un (.lst ((us.map V.bl).set k (.bl false)))) := Kp.refl.updL rfl Tk1.unl
        have hf2 : upd H1 un (.lst ((us.map V.bl).set k (.bl false))) fa = some (.lst xs) := by rw [upd_ne fu]; exact Tk1.lst
        have k02 : KQ K (Only un) H (upd H1 un (.lst ((us.map V.bl).set k (.bl false)))) := k1.m0.trans kU
        have ho2 := k02.ins ho
        refine ⟨_, rfl, p, _, dx, _, _, rfl, ho2, T.cl_Tokens, T.na_Tokens_facts, rfl, _, rfl, fa, xs, k, _, rfl, rfl, sqL_at hf2, atN hxk, 1, rfl, b2, _, rfl, sqT_at (k02.tup hb2), fun z => absurd z nwh1, fun _ t nt => ?_⟩
        rw [cut1]
        have k3 : KQ K (Only un) _ (upd _ t (.tup [.str n2, o2])) := Kp.refl.new nt
        refine q _ t n2 o2 (us.set k false) (k02.trans k3) ⟨⟨dx, k3.ins ho2⟩, ?_, ?_, by rw [List.length_set, Tk.len], fun v m => ?_⟩ upd_same hS2 hsc2
        · rw [upd_ne (ne_of_none hf2 nt)]; exact hf2
        · rw [upd_ne (ne_of_none upd_same nt), upd_same, List.map_set]
        · obtain ⟨b, c', n', o', e1, e2, e3⟩ := Tk.each v m
          exact ⟨b, c', n', o', e1, (k02.trans k3).tup e2, e3⟩
    · have e1 : decide (V.int (c2 : Nat) = V.int (c : Nat)) = false := decide_eq_false fun z => e (by injection z with z; omega)
      rw [e1]
      exact ⟨_, rfl, raised (by decide) Kp.refl qx⟩
end RS

/-! text D17 -/
set_option Elab.async false
set_option linter.all false
set_option maxRecDepth 100000
set_option maxHeartbeats 1000000
/-! Hall: its state; making it; the small defs. -/
namespace RS
open PySem PySem.Spec PyProof.Rows L2
theorem sc_Hall_init : FnScope ["self"] ["self"] (defScope s_Hall_init) := ⟨rfl, rfl, rfl, by decide +kernel, rfl, by decide +kernel, by decide +kernel⟩
variable {P : Program} {w : World} {K : PySem.W.Frag} {mg : Str → Option Value} {base : Heap}
abbrev natV (n : Nat) : V := .int n
/-- the addresses of a hall -/
structure Ad where
  hall : Addr
  df : Addr
  r : Addr
  sto : Addr
  nod : Addr
  rows : Addr
  told : Addr
  stops : Addr
  spl : Addr
  stl : Addr
  pu : Addr
  fa : Addr
  un : Addr
/-- what a hall holds -/
structure Gh where
  as : List V
  tk : List (Key × V)
  xs : List V
  Gs : List SG
  sps : List Nat
  sts : List Nat
  fx : List V
  us : List Bool
/-- the settings' names -/
structure SOk (S : Str → Prop) : Prop where
  few : Few S
  good : ∀ n, S n → GoodN n
theorem SOk.ps {S : Str → Prop} (h : SOk S) : ∀ t : RS.T, t.WF S 0 Root → t.ps.length ≤ 40 := fun t w => Nat.le_trans (h.few.wf w) (by decide)
structure HallA (K : PySem.W.Frag) (H : Hp) (S : Str → Prop) (ds : List (Str × V)) (A : Ad) (g : Gh) : Prop where
  obj : InsA H A.hall (gA K "Hall") [("defaults", .ref A.df), ("grid", .ref A.r), ("spots", .ref A.spl), ("stack", .ref A.stl), ("purse", .ref A.pu)]
  df : H A.df = some (.dK (kvP ds))
  roa : RoaA K H A.r A.sto A.nod A.rows A.told A.stops g.as g.tk g.xs g.Gs
  spo : H A.spl = some (.lst (g.sps.map natV))
  sta : H A.stl = some (.lst (g.sts.map natV))
  tok : TokA K H S A.pu A.fa A.un g.fx g.us
  gok : GOk S g.Gs
  spOk : ∀ p ∈ g.sps, p < g.Gs.length
  stOk : ∀ c ∈ g.sts, c < g.sps.length
  ne : g.sts ≠ []
  nd : [A.rows, A.stops, A.spl, A.stl, A.fa, A.un].Nodup
  nd2 : A.df ≠ A.told
/-- what a hall writes, once the settings stand -/
def MH (A : Ad) : Addr → Prop := fun b => b ∈ [A.rows, A.told, A.stops, A.spl, A.stl, A.fa, A.un]
theorem MH.of {A : Ad} {b : Addr} (h : b ∈ [A.rows, A.told, A.stops, A.spl, A.stl, A.fa, A.un]) : MH A b := h
structure Bud (g : Gh) (k : Nat) : Prop where
  as : g.as.length ≤ 1 + 7 * k
  tk : g.tk.length ≤ 1 + k
  Gs : g.Gs.length ≤ 1 + k
  fx : g.fx.length ≤ k
  sps : g.sps.length ≤ 1 + k
  sts : g.sts.length ≤ 1 + k
  le : k ≤ 500
theorem HallA.k0 {H H1 : Hp} {S : Str → Prop} {ds : List (Str × V)} {A : Ad} {g : Gh} (h : HallA K H S ds A g) (k : KQ K M0 H H1) : HallA K H1 S ds A g :=
  ⟨h.obj.kp k, k.atD h.df, h.roa.k0 k, k.at_ h.spo, k.at_ h.sta, h.tok.k0 k, h.gok, h.spOk, h.stOk, h.ne, h.nd, h.nd2⟩
/-- the world now, its place, its stop -/
theorem HallA.cur {H : Hp} {S : Str → Prop} {ds : List (Str × V)} {A : Ad} {g : Gh} (h : HallA K H S ds A g) : ∃ l c p gp, g.sts = l ++ [c] ∧ g.sps[c]? = some p ∧ g.Gs[p]? = some gp := by
  rcases snoc_cases g.sts with e | ⟨l, c, e⟩
  · exact absurd e h.ne
  · have hc := h.stOk c (by rw [e]; exact List.mem_append_right _ (List.mem_singleton.mpr rfl))
    have hp := h.spOk g.sps[c] (List.getElem_mem hc)
    exact ⟨l, c, _, _, e, List.getElem?_eq_getElem hc, List.getElem?_eq_getElem hp⟩
theorem gok_root (S : Str → Prop) : GOk S [⟨0, none, 0, .bare⟩] := by
  have z : ∀ (i : Nat) (g : SG), [(⟨0, none, 0, .bare⟩ : SG)][i]? = some g → i = 0 ∧ g = ⟨0, none, 0, .bare⟩ := fun i g e => by
    rcases Nat.eq_zero_or_pos i with h | h
    · subst h; injection e with e; exact ⟨rfl, e.symm⟩
    · rw [List.getElem?_eq_none (by show 1 ≤ i; omega)] at e; cases e
  exact ⟨rfl, fun i g e h => absurd (z i g e).1 h, fun i g e => by rw [(z i g e).2]; trivial⟩
abbrev g00 (K : PySem.W.Frag) (b : Addr) : Gh := ⟨[.ref (gA K "FIRST")], [(.inl 0, .bl true)], [.ref b], [⟨0, none, 0, .bare⟩], [0], [0], [], []⟩
/-- roads as they are made, past a write at x -/
theorem RoaA.past {H H' : Hp} {r sto nod rows told stops b x C dx : Addr} {v : V} {fs : List (Str × V)} (h : RoaA K H r sto nod rows told stops [.ref (gA K "FIRST")] [(.inl 0, .bl true)] [.ref b] [⟨0, none, 0, .bare⟩])
    (hx : H x = some (.ins C dx (("defaults", v) :: fs))) (kp : ∀ c o, c ≠ x → H c = some o → Ok M0 c o → H' c = some o) : RoaA K H' r sto nod rows told stops [.ref (gA K "FIRST")] [(.inl 0, .bl true)] [.ref b] [⟨0, none, 0, .bare⟩] := by
  have ins : ∀ {a C' : Addr} {f : Str} {u : V} {gs : List (Str × V)}, InsA H a C' ((f, u) :: gs) → ("defaults" : Str) ≠ f → InsA H' a C' ((f, u) :: gs) := fun {a C' f u gs} ⟨d, e⟩ ne => ⟨d, kp a _ (fun z => by
    rw [z, hx] at e
    injection e with e
    injection e with _ _ e
    injection e with e _
    injection e with e _
    exact ne e) e trivial⟩
  have nlst : ∀ {a : Addr} {ys : List V}, H a = some (.lst ys) → H' a = some (.lst ys) := fun {a ys} e => kp a _ (fun z => by rw [z, hx] at e; cases e) e id
  have ndk : ∀ {a : Addr} {ys : List (Key × V)}, H a = some (.dK ys) → H' a = some (.dK ys) := fun {a ys} e => kp a _ (fun z => by rw [z, hx] at e; cases e) e id
  refine ⟨ins h.obj (by decide), ⟨ins h.sto.obj (by decide), ⟨ins h.sto.nod.obj (by decide), nlst h.sto.nod.lst⟩, ndk h.sto.tld, h.sto.fst⟩, nlst h.lst, h.len, fun i g e => ?_⟩
  obtain ⟨c, c1, ⟨u, k, m, c2, c3⟩, c4, c5⟩ := h.each i g e
  have hg : g = ⟨0, none, 0, .bare⟩ := by
    rcases Nat.eq_zero_or_pos i with h | h
    · subst h; injection e with e; exact e.symm
    · rw [List.getElem?_eq_none (by show 1 ≤ i; omega)] at e; cases e
  subst hg
  exact ⟨c, c1, ⟨u, k, m, ins c2 (by decide), c3⟩, rfl, c5⟩
def spHInit (K : PySem.W.Frag) : Sp := fun vs H Q _ => ∃ (x dx : Addr), vs = [.ref x] ∧ H x = some (.ins (gA K "Hall") dx []) ∧ ∀ (H' : Hp) (A : Ad) (b : Addr), A.hall = x → (∀ H0, KQ K M0 H0 H → NN H0 x → KQ K M0 H0 H' ∧ NN H0 A.df ∧ ∀ c, MH A c → NN H0 c) → (∀ S, HallA K H' S [] A (g00 K b)) → Q .non H'
theorem d_Hall_init_ok (T : Tx K mg base) : Df P w K mg base CX0 7 (mA K "Hall" "__init__") (spHInit K) := by
  have h_Roads_init := d_Roads_init_ok (P := P) (w := w) T
  have h_Tokens_init := d_Tokens_init_ok (P := P) (w := w) T
  refine df0 T.F_Hall_init sc_Hall_init (fun _ _ _ _ _ _ us hl => match us, hl with | [_], _ => rfl) (fun vs H Q E ⟨_, _, h, _⟩ => by rw [h]; rfl) fun cd A outer s H vs Q E hr h => ?_
  obtain ⟨x, dx, rfl, hx, q⟩ := h
  refine ⟨_, (pss_cons (ps_fld (pv 0) pe_dnewK rfl)
    (pss_cons (ps_fld (pv 0) (pe_k0 h_Roads_init (hr.mono (by decide)) T.mk_Roads T.g_Roads) rfl)
    (pss_cons (ps_fld (pv 0) (pe_lst (pa_cons pe_int pa_nil)) rfl)
    (pss_cons (ps_fld (pv 0) (pe_lst (pa_cons pe_int pa_nil)) rfl)
    (pss_one (ps_fld (pv 0) (pe_k0 h_Tokens_init (hr.mono (by decide)) T.mk_Tokens T.g_Tokens) rfl)))))), ?_⟩
  -- defaults
  refine fun df n1 => ?_
  have xdf : x ≠ df := ne_of_none hx n1
  have hx1 : upd H df (.dK []) x = some (.ins (gA K "Hall") dx []) := by rw [upd_ne xdf]; exact hx
  refine ⟨_, rfl, x, _, dx, _, rfl, hx1, T.cl_Hall, T.na_Hall_defaults, show 0 < 1000 by decide, ?_⟩
  generalize e2 : upd (upd H df (.dK [])) x (.ins (gA K "Hall") dx (putF "defaults" (.ref df) [])) = H2
  have hx2 : H2 x = some (.ins (gA K "Hall") dx [("defaults", .ref df)]) := by rw [← e2]; exact upd_same
  have hdf2 : H2 df = some (.dK []) := by rw [← e2, upd_ne (Ne.symm xdf)]; exact upd_same
  have f2 : ∀ H0, KQ K M0 H0 H → NN H0 x → KQ K M0 H0 H2 := fun H0 k nn => by rw [← e2]; exact (k.new n1).mutI nn hx1
  -- the roads
  refine fun r rd m1 m2 m3 => ⟨r, rd, rfl, upd_same, fun H4 sto nod rows told stops b hk4 rs R => ⟨rfl, ?_⟩⟩
  have k24 : KQ K M0 H2 H4 := (hk4 H2 (Kp.refl.made m1 m2 m3) (.of m1)).1
  have hx4 := k24.ins hx2
  have hdf4 := k24.atD hdf2
  have f4 : ∀ H0, KQ K M0 H0 H → NN H0 x → KQ K M0 H0 H4 ∧ NN H0 rows ∧ NN H0 told ∧ NN H0 stops := fun H0 k nn => hk4 H0 ((f2 H0 k nn).made m1 m2 m3) ((f2 H0 k nn).nn m1)
  have nt2 : NN H2 told := (hk4 H2 (Kp.refl.made m1 m2 m3) (.of m1)).2.2.1
  have dft : df ≠ told := fun e => by
    rw [← e] at nt2
    obtain ⟨ps, z⟩ := nt2 _ hdf2
    cases z
  refine ⟨_, rfl, x, _, dx, _, rfl, hx4, T.cl_Hall, T.na_Hall_grid, show 1 < 1000 by decide, ?_⟩
  -- spots
  refine ⟨sz1, fun spl n5 => ?_⟩
  generalize e5 : upd (upd H4 x (.ins (gA K "Hall") dx (putF "grid" (.ref r) [("defaults", .ref df)]))) spl (.lst [.int 0]) = H6
  have xsp : x ≠ spl := ne_of_none upd_same n5
  have hx6 : H6 x = some (.ins (gA K "Hall") dx [("defaults", .ref df), ("grid", .ref r)]) := by rw [← e5, upd_ne xsp]; exact upd_same
  refine ⟨_, rfl, x, _, dx, _, rfl, hx6, T.cl_Hall, T.na_Hall_spots, show 2 < 1000 by decide, ?_⟩
  -- stack
  refine ⟨sz1, fun stl n7 => ?_⟩
  generalize e7 : upd (upd H6 x (.ins (gA K "Hall") dx (putF "spots" (.ref spl) [("defaults", .ref df), ("grid", .ref r)]))) stl (.lst [.int 0]) = H8
  have xst : x ≠ stl := ne_of_none upd_same n7
  have hx8 : H8 x = some (.ins (gA K "Hall") dx [("defaults", .ref df), ("grid", .ref r), ("spots", .ref spl)]) := by rw [← e7, upd_ne xst]; exact upd_same
  refine ⟨_, rfl, x, _, dx, _, rfl, hx8, T.cl_Hall, T.na_Hall_stack, show 3 < 1000 by decide, ?_⟩
  generalize e9 : upd H8 x (.ins (gA K "Hall") dx (putF "stack" (.ref stl) [("defaults", .ref df), ("grid", .ref r), ("spots", .ref spl)])) = H9
  have hx9 : H9 x = some (.ins (gA K "Hall") dx [("defaults", .ref df), ("grid", .ref r), ("spots", .ref spl), ("stack", .ref stl)]) := by rw [← e9]; exact upd_same
  -- the purse
  refine fun pu pd p1 p2 p3 => ⟨pu, pd, rfl, upd_same, fun H11 fa un hk11 fu Tk => ⟨rfl, ?_⟩⟩
  have k911 : KQ K M0 H9 H11 := (hk11 H9 (Kp.refl.made p1 p2 p3) (.of p1)).1
  have hx11 := k911.ins hx9
  refine ⟨_, rfl, x, _, dx, _, rfl, hx11, T.cl_Hall, T.na_Hall_purse, show 4 < 1000 by decide, ?_⟩
  -- what stands at the end
  have s49 : ∀ c o, c ≠ x → H4 c = some o → H9 c = some o := fun c o hc e => by
    have h6 : H6 c = some o := by
      have z : upd H4 x (.ins (gA K "Hall") dx (putF "grid" (.ref r) [("defaults", .ref df)])) c = some o := by rw [upd_ne hc]; exact e
      rw [← e5, upd_ne (ne_of_none z n5)]; exact z
    have h8 : H8 c = some o := by
      have z : upd H6 x (.ins (gA K "Hall") dx (putF "spots" (.ref spl) [("defaults", .ref df), ("grid", .ref r)])) c = some o := by rw [upd_ne hc]; exact h6
      rw [← e7, upd_ne (ne_of_none z n7)]; exact z
    rw [← e9, upd_ne hc]; exact h8
  have sF : ∀ c o, c ≠ x → H4 c = some o → Ok M0 c o → upd H11 x (.ins (gA K "Hall") dx (putF "purse" (.ref pu) [("defaults", .ref df), ("grid", .ref r), ("spots", .ref spl), ("stack", .ref stl)])) c = some o := fun c o hc e ok => by
    rw [upd_ne hc]; exact k911.k c o (s49 c o hc e) ok
  have hspl9 : H9 spl = some (.lst [.int 0]) := by
    have h6 : H6 spl = some (.lst [.int 0]) := by rw [← e5]; exact upd_same
    have z : upd H6 x (.ins (gA K "Hall") dx (putF "spots" (.ref spl) [("defaults", .ref df), ("grid", .ref r)])) spl = some (.lst [.int 0]) := by rw [upd_ne (Ne.symm xsp)]; exact h6
    rw [← e9, upd_ne (Ne.symm xsp), ← e7, upd_ne (ne_of_none z n7)]
    exact z
  have hstl9 : H9 stl = some (.lst [.int 0]) := by rw [← e9, upd_ne (Ne.symm xst), ← e7]; exact upd_same
  have nrx : rows ≠ x := fun e => by have z := R.sto.nod.lst; rw [e, hx4] at z; cases z
  have nsx : stops ≠ x := fun e => by have z := R.lst; rw [e, hx4] at z; cases z
  have hr9 := s49 rows _ nrx R.sto.nod.lst
  have hs9 := s49 stops _ nsx R.lst
  have nfa : NN H9 fa := (hk11 H9 (Kp.refl.made p1 p2 p3) (.of p1)).2.1
  have nun : NN H9 un := (hk11 H9 (Kp.refl.made p1 p2 p3) (.of p1)).2.2
  have sp4 : ∀ c ys, c ≠ x → H4 c = some (.lst ys) → c ≠ spl ∧ c ≠ stl := fun c ys hc e => by
    have z : upd H4 x (.ins (gA K "Hall") dx (putF "grid" (.ref r) [("defaults", .ref df)])) c = some (.lst ys) := by rw [upd_ne hc]; exact e
    have h6 : H6 c = some (.lst ys) := by rw [← e5, upd_ne (ne_of_none z n5)]; exact z
    have z2 : upd H6 x (.ins (gA K "Hall") dx (putF "spots" (.ref spl) [("defaults", .ref df), ("grid", .ref r)])) c = some (.lst ys) := by rw [upd_ne hc]; exact h6
    exact ⟨ne_of_none z n5, ne_of_none z2 n7⟩
  have hss : spl ≠ stl := by
    have h6 : H6 spl = some (.lst [.int 0]) := by rw [← e5]; exact upd_same
    exact ne_of_none (show upd H6 x (.ins (gA K "Hall") dx (putF "spots" (.ref spl) [("defaults", .ref df), ("grid", .ref r)])) spl = some (.lst [.int 0]) by rw [upd_ne (Ne.symm xsp)]; exact h6) n7
  obtain ⟨dp, hpu⟩ := (Tk fun _ => True).obj
  have hpx : pu ≠ x := fun e => by
    rw [e, hx11] at hpu
    injection hpu with z
    injection z with _ _ z
    cases z
  have hfax : fa ≠ x := fun e => by have z := (Tk fun _ => True).lst; rw [e, hx11] at z; cases z
  have hunx : un ≠ x := fun e => by have z := (Tk fun _ => True).unl; rw [e, hx11] at z; cases z
  refine q _ ⟨x, df, r, sto, nod, rows, told, stops, spl, stl, pu, fa, un⟩ b rfl (fun H0 k nn => ?_) fun S => ⟨⟨dx, upd_same⟩, sF df _ (Ne.symm xdf) hdf4 id, R.past hx4 sF, ?_, ?_, ⟨⟨dp, ?_⟩, ?_, ?_, rfl, (fun _ m => nomatch m)⟩, gok_root S, fun p m => ?_, fun c m => ?_, (fun z => nomatch z), ?_, dft⟩
  · obtain ⟨k4, a1, a2, a3⟩ := f4 H0 k nn
    have k5 := k4.mutI (C' := gA K "Hall") (dx' := dx) (ys := putF "grid" (.ref r) [("defaults", .ref df)]) nn hx4
    have a4 := k5.nn n5
    have k6 := k5.new n5 (o := .lst [.int 0])
    rw [e5] at k6
    have k7 := k6.mutI (C' := gA K "Hall") (dx' := dx) (ys := putF "spots" (.ref spl) [("defaults", .ref df), ("grid", .ref r)]) nn hx6
    have a5 := k7.nn n7
    have k8 := k7.new n7 (o := .lst [.int 0])
    rw [e7] at k8
    have k9 := k8.mutI (C' := gA K "Hall") (dx' := dx) (ys := putF "stack" (.ref stl) [("defaults", .ref df), ("grid", .ref r), ("spots", .ref spl)]) nn hx8
    rw [e9] at k9
    obtain ⟨k11, a6, a7⟩ := hk11 H0 (k9.made p1 p2 p3) (k9.nn p1)
    refine ⟨k11.mutI nn hx11, k.nn n1, fun c m => ?_⟩
    simp only [MH, List.mem_cons, List.not_mem_nil, or_false] at m
    rcases m with rfl | rfl | rfl | rfl | rfl | rfl | rfl <;> assumption
  · rw [upd_ne (Ne.symm xsp)]; exact k911.at_ hspl9
  · rw [upd_ne (Ne.symm xst)]; exact k911.at_ hstl9
  · rw [upd_ne hpx]; exact hpu
  · rw [upd_ne hfax]; exact (Tk fun _ => True).lst
  · rw [upd_ne hunx]; exact (Tk fun _ => True).unl
  · rw [List.mem_singleton.mp m]; show 0 < 1; decide
  · rw [List.mem_singleton.mp m]; show 0 < 1; decide
  · have q1 := sp4 rows _ nrx R.sto.nod.lst
    have q2 := sp4 stops _ nsx R.lst
    simp only [List.nodup_cons, List.mem_cons, List.not_mem_nil, or_false, not_or, not_false_eq_true, List.nodup_nil, and_true]
    refine ⟨⟨rs, q1.1, q1.2, ?_, ?_⟩, ⟨q2.1, q2.2, ?_, ?_⟩, ⟨hss, ?_, ?_⟩, ⟨?_, ?_⟩, fu⟩
    · exact Ne.symm (nn_ne hr9 nfa)
    · exact Ne.symm (nn_ne hr9 nun)
    · exact Ne.symm (nn_ne hs9 nfa)
    · exact Ne.symm (nn_ne hs9 nun)
    · exact Ne.symm (nn_ne hspl9 nfa)
    · exact Ne.symm (nn_ne hspl9 nun)
    · exact Ne.symm (nn_ne hstl9 nfa)
    · exact Ne.symm (nn_ne hstl9 nun)
end RS

/-! text D18 -/
set_option Elab.async false
set_option linter.all false
set_option maxRecDepth 100000
set_option maxHeartbeats 1000000
/-! Hall: the small defs. -/
namespace RS
open PySem PySem.Spec PyProof.Rows L2
theorem sc_Hall_declare : FnScope ["self", "name", "default"] ["self", "name", "default"] (defScope s_Hall_declare) := ⟨rfl, rfl, rfl, by decide +kernel, rfl, by decide +kernel, by decide +kernel⟩
theorem sc_Hall_roads : FnScope ["self"] ["self"] (defScope s_Hall_roads) := ⟨rfl, rfl, rfl, by decide +kernel, rfl, by decide +kernel, by decide +kernel⟩
theorem sc_Hall_worlds : FnScope ["self"] ["self"] (defScope s_Hall_worlds) := ⟨rfl, rfl, rfl, by decide +kernel, rfl, by decide +kernel, by decide +kernel⟩
theorem sc_Hall_check_world : FnScope ["self", "world"] ["self", "world"] (defScope s_Hall_check_world) := ⟨rfl, rfl, rfl, by decide +kernel, rfl, by decide +kernel, by decide +kernel⟩
theorem sc_Hall_check_name : FnScope ["self", "name"] ["self", "name"] (defScope s_Hall_check_name) := ⟨rfl, rfl, rfl, by decide +kernel, rfl, by decide +kernel, by decide +kernel⟩
theorem sc_Hall_place : FnScope ["self", "world"] ["self", "world"] (defScope s_Hall_place) := ⟨rfl, rfl, rfl, by decide +kernel, rfl, by decide +kernel, by decide +kernel⟩
theorem sc_Hall_now : FnScope ["self"] ["self"] (defScope s_Hall_now) := ⟨rfl, rfl, rfl, by decide +kernel, rfl, by decide +kernel, by decide +kernel⟩
theorem sc_Hall_value_in : FnScope ["self", "world", "name"] ["self", "world", "name"] (defScope s_Hall_value_in) := ⟨rfl, rfl, rfl, by decide +kernel, rfl, by decide +kernel, by decide +kernel⟩
theorem sc_Hall_look_or : FnScope ["self", "name", "other", "found"] ["self", "name", "other"] (defScope s_Hall_look_or) := ⟨rfl, rfl, rfl, by decide +kernel, rfl, by decide +kernel, by decide +kernel⟩
variable {P : Program} {w : World} {K : PySem.W.Frag} {mg : Str → Option Value} {base : Heap}
section
variable {H H1 : Hp} {S : Str → Prop} {ds ds' : List (Str × V)} {A : Ad} {g : Gh}
theorem HallA.kpD (h : HallA K H S ds A g) (k : KQ K (Only A.df) H H1) (e : H1 A.df = some (.dK (kvP ds'))) : HallA K H1 S ds' A g := by
  have nl : ∀ {a : Addr} {ys : List V}, H a = some (.lst ys) → ¬ Only A.df a := fun {a ys} z y => by
    have q := h.df
    rw [← show a = A.df from y, z] at q
    cases q
  exact ⟨h.obj.kp k, e, h.roa.kp k (nl h.roa.sto.nod.lst) (fun y => h.nd2 y.symm) (nl h.roa.lst), k.lst h.spo (nl h.spo), k.lst h.sta (nl h.sta), h.tok.kp k (nl h.tok.lst) (nl h.tok.unl), h.gok, h.spOk, h.stOk, h.ne, h.nd, h.nd2⟩
theorem HallA.dfM (h : HallA K H S ds A g) : ¬ MH A A.df := fun m => by
  have nl : ∀ {a : Addr} {ys : List V}, H a = some (.lst ys) → A.df = a → False := fun {a ys} z y => by
    have q := h.df
    rw [y, z] at q
    cases q
  simp only [MH, List.mem_cons, List.not_mem_nil, or_false] at m
  rcases m with e | e | e | e | e | e | e
  · exact nl h.roa.sto.nod.lst e
  · exact h.nd2 e
  · exact nl h.roa.lst e
  · exact nl h.spo e
  · exact nl h.sta e
  · exact nl h.tok.lst e
  · exact nl h.tok.unl e
theorem HallA.toldM (h : HallA K H S ds A g) {a : Addr} {ys : List V} (e : H a = some (.lst ys)) : a ≠ A.told := fun z => by
  have q := h.roa.sto.tld
  rw [← z, e] at q
  cases q
end
def spHDeclare (K : PySem.W.Frag) : Sp := fun vs H Q _ => ∃ (S : Str → Prop) (ds : List (Str × V)) (A : Ad) (g : Gh) (n : Str) (v : V), vs = [.ref A.hall, .str n, v] ∧ HallA K H S ds A g ∧ n ∉ ds.map (·.1) ∧ ds.length ≤ 100 ∧ ∀ H', KQ K (Only A.df) H H' → HallA K H' S (ds ++ [(n, v)]) A g → Q .non H'
theorem d_Hall_declare_ok (T : Tx K mg base) : Df P w K mg base CX0 1 (mA K "Hall" "declare") (spHDeclare K) := by
  refine df0 T.F_Hall_declare sc_Hall_declare (fun _ _ _ _ _ _ us hl => match us, hl with | [_, _, _], _ => rfl) (fun vs H Q E ⟨_, _, _, _, _, _, h, _⟩ => by rw [h]; rfl) fun cd A outer s H vs Q E hr h => ?_
  obtain ⟨S, ds, A, g, n, v, rfl, Hl, hn, hl, q⟩ := h
  refine ⟨_, (pss_cons (ps_if (pt_cmp (pc_din (hu_of hr) (pv 1) (pe_fld (pv 0) rfl))) (pss_one ps_never) pss_nil)
    (pss_one (ps_dput (hu_of hr) (pe_fld (pv 0) rfl) (pv 1) (pv 2) rfl))), ?_⟩
  obtain ⟨dx, ho⟩ := Hl.obj
  refine ⟨_, rfl, _, rfl, A.hall, _, dx, _, _, rfl, ho, T.cl_Hall, T.na_Hall_defaults, rfl, A.df, _, rfl, DGet.k (k := .inr n) Hl.df, ?_⟩
  rw [kvP_none hn]
  refine ⟨_, rfl, ?_⟩
  refine ⟨_, rfl, _, rfl, A.hall, _, dx, _, _, rfl, ho, T.cl_Hall, T.na_Hall_defaults, rfl, _, rfl, A.df, _, rfl, DPut.k (k := .inr n) Hl.df (by rw [kvP_len]; exact sz_lt (by omega)), ?_⟩
  rw [putK_new v (kvP_none hn), show kvP ds ++ [((.inr n : Key), v)] = kvP (ds ++ [(n, v)]) by rw [kvP_app]; rfl]
  have k : KQ K (Only A.df) H (upd H A.df (.dK (kvP (ds ++ [(n, v)])))) := Kp.refl.updD rfl Hl.df
  exact q _ k (Hl.kpD k upd_same)
def spHName (K : PySem.W.Frag) : Sp := fun vs H Q _ => ∃ (S : Str → Prop) (ds : List (Str × V)) (A : Ad) (g : Gh) (n : Str), vs = [.ref A.hall, .str n] ∧ HallA K H S ds A g ∧ n ∈ ds.map (·.1) ∧ Q .non H
theorem kvP_some {n : Str} {ps : List (Str × V)} (h : n ∈ ps.map (·.1)) : (valV (kvP ps) (.inr n)).isSome = true := by
  rw [kvP_val]
  cases e : val ps n with
  | none => exact absurd h (val_none_iff.mp e)
  | some v => rfl
theorem d_Hall_check_name_ok (T : Tx K mg base) : Df P w K mg base CX0 1 (mA K "Hall" "check_name") (spHName K) := by
  refine df0 T.F_Hall_check_name sc_Hall_check_name (fun _ _ _ _ _ _ us hl => match us, hl with | [_, _], _ => rfl) (fun vs H Q E ⟨_, _, _, _, _, h, _⟩ => by rw [h]; rfl) fun cd A outer s H vs Q E hr h => ?_
  obtain ⟨S, ds, A, g, n, rfl, Hl, hn, q⟩ := h
  refine ⟨_, (pss_one (ps_if (pt_cmp (pc_dnotin (hu_of hr) (pv 1) (pe_fld (pv 0) rfl))) (pss_one ps_never) pss_nil)), ?_⟩
  obtain ⟨dx, ho⟩ := Hl.obj
  refine ⟨_, rfl, _, rfl, A.hall, _, dx, _, _, rfl, ho, T.cl_Hall, T.na_Hall_defaults, rfl, A.df, _, rfl, DGet.k (k := .inr n) Hl.df, ?_⟩
  refine ⟨_, rfl, ?_⟩
  rw [kvP_some hn]
  exact q
def spHRoads (K : PySem.W.Frag) : Sp := fun vs H Q _ => ∃ (S : Str → Prop) (ds : List (Str × V)) (A : Ad) (g : Gh), vs = [.ref A.hall] ∧ HallA K H S ds A g ∧ Q (.ref A.r) H
theorem d_Hall_roads_ok (T : Tx K mg base) : Df P w K mg base CX0 1 (mA K "Hall" "roads") (spHRoads K) := by
  refine df0 T.F_Hall_roads sc_Hall_roads (fun _ _ _ _ _ _ us hl => match us, hl with | [_], _ => rfl) (fun vs H Q E ⟨_, _, _, _, h, _⟩ => by rw [h]; rfl) fun cd A outer s H vs Q E hr h => ?_
  obtain ⟨S, ds, A, g, rfl, Hl, q⟩ := h
  refine ⟨_, (pss_one (ps_ret (pe_fld (pv 0) rfl))), ?_⟩
  obtain ⟨dx, ho⟩ := Hl.obj
  exact ⟨_, rfl, A.hall, _, dx, _, _, rfl, ho, T.cl_Hall, T.na_Hall_grid, rfl, q⟩
def spHWorlds (K : PySem.W.Frag) : Sp := fun vs H Q _ => ∃ (S : Str → Prop) (ds : List (Str × V)) (A : Ad) (g : Gh), vs = [.ref A.hall] ∧ HallA K H S ds A g ∧ Q (.int g.sps.length) H
theorem d_Hall_worlds_ok (T : Tx K mg base) : Df P w K mg base CX0 1 (mA K "Hall" "worlds") (spHWorlds K) := by
  refine df0 T.F_Hall_worlds sc_Hall_worlds (fun _ _ _ _ _ _ us hl => match us, hl with | [_], _ => rfl) (fun vs H Q E ⟨_, _, _, _, h, _⟩ => by rw [h]; rfl) fun cd A outer s H vs Q E hr h => ?_
  obtain ⟨S, ds, A, g, rfl, Hl, q⟩ := h
  refine ⟨_, (pss_one (ps_ret (pe_callB call_len_seq rfl T.b_len boot_len (pa_cons (pe_fld (pv 0) rfl) pa_nil)))), ?_⟩
  obtain ⟨dx, ho⟩ := Hl.obj
  rw [← List.length_map (f := natV)] at q
  exact ⟨_, rfl, A.hall, _, dx, _, _, rfl, ho, T.cl_Hall, T.na_Hall_spots, rfl, A.spl, _, rfl, .inl (sqL_at Hl.spo), q⟩
def spHWorld (K : PySem.W.Frag) : Sp := fun vs H Q _ => ∃ (S : Str → Prop) (ds : List (Str × V)) (A : Ad) (g : Gh) (c : Nat), vs = [.ref A.hall, .int c] ∧ HallA K H S ds A g ∧ c < g.sps.length ∧ Q .non H
theorem d_Hall_check_world_ok (T : Tx K mg base) : Df P w K mg base CX0 1 (mA K "Hall" "check_world") (spHWorld K) := by
  refine df0 T.F_Hall_check_world sc_Hall_check_world (fun _ _ _ _ _ _ us hl => match us, hl with | [_, _], _ => rfl) (fun vs H Q E ⟨_, _, _, _, _, h, _⟩ => by rw [h]; rfl) fun cd A outer s H vs Q E hr h => ?_
  obtain ⟨S, ds, A, g, c, rfl, Hl, hc, q⟩ := h
  refine ⟨_, (pss_one (ps_if (pt_not (pt_chain op_le op_lt pe_int (pv 1) (pe_callB call_len_seq rfl T.b_len boot_len (pa_cons (pe_fld (pv 0) rfl) pa_nil)))) (pss_one ps_never) pss_nil)), ?_⟩
  obtain ⟨dx, ho⟩ := Hl.obj
  have e0 : decide ((0 : Int) ≤ (c : Nat)) = true := decide_eq_true (by omega)
  have e1 : decide (((c : Nat) : Int) < ((g.sps.map natV).length : Nat)) = true := decide_eq_true (by rw [List.length_map]; omega)
  refine ⟨_, rfl, _, _, rfl, rfl, ?_⟩
  refine ⟨true, congrArg V.bl e0, ?_⟩
  rw [if_pos rfl]
  refine ⟨_, rfl, A.hall, _, dx, _, _, rfl, ho, T.cl_Hall, T.na_Hall_spots, rfl, A.spl, _, rfl, .inl (sqL_at Hl.spo), _, _, rfl, rfl, ?_⟩
  exact ⟨true, congrArg V.bl e1, q⟩
theorem sps_at {g : Gh} {c p : Nat} (h : g.sps[c]? = some p) : (g.sps.map natV)[c]? = some (.int p) := by rw [List.getElem?_map, h]; rfl
def spHPlace (K : PySem.W.Frag) : Sp := fun vs H Q _ => ∃ (S : Str → Prop) (ds : List (Str × V)) (A : Ad) (g : Gh) (c p : Nat), vs = [.ref A.hall, .int c] ∧ HallA K H S ds A g ∧ g.sps[c]? = some p ∧ Q (.int p) H
theorem d_Hall_place_ok (T : Tx K mg base) : Df P w K mg base CX0 2 (mA K "Hall" "place") (spHPlace K) := by
  have h_Hall_check_world := d_Hall_check_world_ok (P := P) (w := w) T
  refine df0 T.F_Hall_place sc_Hall_place (fun _ _ _ _ _ _ us hl => match us, hl with | [_, _], _ => rfl) (fun vs H Q E ⟨_, _, _, _, _, _, h, _⟩ => by rw [h]; rfl) fun cd A outer s H vs Q E hr h => ?_
  obtain ⟨S, ds, A, g, c, p, rfl, Hl, hp, q⟩ := h
  refine ⟨_, (pss_cons (ps_expr (pe_m h_Hall_check_world (hr.mono (by decide)) T.cl_Hall T.me_Hall_check_world (pv 0) (pa_cons (pv 1) pa_nil)))
    (pss_one (ps_ret (pe_ix ix_list (pe_fld (pv 0) rfl) (pv 1) (fun _ _ => rfl))))), ?_⟩
  obtain ⟨dx, ho⟩ := Hl.obj
  exact ⟨_, rfl, A.hall, dx, _, rfl, ho, rfl, _, rfl, S, ds, A, g, c, rfl, Hl, (List.getElem?_eq_some_iff.mp hp).1, _, rfl, A.hall, _, dx, _, _, rfl, ho, T.cl_Hall, T.na_Hall_spots, rfl, _, rfl, A.spl, _, c, _, rfl, rfl, sqL_at Hl.spo, atN (sps_at hp), q⟩
def spHNow (K : PySem.W.Frag) : Sp := fun vs H Q _ => ∃ (S : Str → Prop) (ds : List (Str × V)) (A : Ad) (g : Gh) (l : List Nat) (c : Nat), vs = [.ref A.hall] ∧ HallA K H S ds A g ∧ g.sts = l ++ [c] ∧ Q (.int c) H
theorem d_Hall_now_ok (T : Tx K mg base) : Df P w K mg base CX0 1 (mA K "Hall" "now") (spHNow K) := by
  refine df0 T.F_Hall_now sc_Hall_now (fun _ _ _ _ _ _ us hl => match us, hl with | [_], _ => rfl) (fun vs H Q E ⟨_, _, _, _, _, _, h, _⟩ => by rw [h]; rfl) fun cd A outer s H vs Q E hr h => ?_
  obtain ⟨S, ds, A, g, l, c, rfl, Hl, hs, q⟩ := h
  refine ⟨_, (pss_one (ps_ret (pe_ix ix_list (pe_fld (pv 0) rfl) (pe_un un_neg pe_int) (fun _ _ => rfl)))), ?_⟩
  obtain ⟨dx, ho⟩ := Hl.obj
  have hst := Hl.sta
  rw [hs, List.map_append] at hst
  exact ⟨_, rfl, A.hall, _, dx, _, _, rfl, ho, T.cl_Hall, T.na_Hall_stack, rfl, 1, rfl, A.stl, _, _, _, rfl, rfl, sqL_at hst, last1, q⟩
def spHValue (K : PySem.W.Frag) : Sp := fun vs H Q _ => ∃ (S : Str → Prop) (ds : List (Str × V)) (A : Ad) (g : Gh) (c p : Nat) (gp : SG) (n : Str), vs = [.ref A.hall, .int c, .str n] ∧ HallA K H S ds A g ∧ g.sps[c]? = some p ∧ g.Gs[p]? = some gp ∧ GoodN n ∧ ∀ H', KQ K M0 H H' → Q ((val gp.tr.ps n).getD .non) H'
theorem d_Hall_value_in_ok (T : Tx K mg base) : Df P w K mg base CX0 7 (mA K "Hall" "value_in") (spHValue K) := by
  have h_Roads_looked := d_Roads_looked_ok (P := P) (w := w) T
  refine df0 T.F_Hall_value_in sc_Hall_value_in (fun _ _ _ _ _ _ us hl => match us, hl with | [_, _, _], _ => rfl) (fun vs H Q E ⟨_, _, _, _, _, _, _, _, h, _⟩ => by rw [h]; rfl) fun cd A outer s H vs Q E hr h => ?_
  obtain ⟨S, ds, A, g, c, p, gp, n, rfl, Hl, hp, hg, gn, q⟩ := h
  refine ⟨_, (pss_one (ps_ret (pe_m h_Roads_looked (hr.mono (by decide)) T.cl_Roads T.me_Roads_looked (pe_fld (pv 0) rfl) (pa_cons (pe_ix ix_list (pe_fld (pv 0) rfl) (pv 1) (fun _ _ => rfl)) (pa_cons (pv 2) pa_nil))))), ?_⟩
  obtain ⟨dx, ho⟩ := Hl.obj
  obtain ⟨dr, hro⟩ := Hl.roa.obj
  exact ⟨_, rfl, A.hall, _, dx, _, _, rfl, ho, T.cl_Hall, T.na_Hall_grid, rfl, A.r, dr, _, rfl, hro, rfl, _, rfl, A.hall, _, dx, _, _, rfl, ho, T.cl_Hall, T.na_Hall_spots, rfl, _, rfl, A.spl, _, c, _, rfl, rfl, sqL_at Hl.spo, atN (sps_at hp), _, rfl, A.r, S, p, gp, n, rfl, ⟨_, _, _, _, _, _, _, _, _, Hl.roa, Hl.gok, hg⟩, gn, q⟩
def spHLookOr (K : PySem.W.Frag) : Sp := fun vs H Q _ => ∃ (S : Str → Prop) (ds : List (Str × V)) (A : Ad) (g : Gh) (l : List Nat) (c p : Nat) (gp : SG) (n : Str), vs = [.ref A.hall, .str n, .non] ∧ HallA K H S ds A g ∧ g.sts = l ++ [c] ∧ g.sps[c]? = some p ∧ g.Gs[p]? = some gp ∧ GoodN n ∧ n ∈ ds.map (·.1) ∧ ∀ H', KQ K M0 H H' → Q ((val gp.tr.ps n).getD .non) H'
theorem d_Hall_look_or_ok (T : Tx K mg base) : Df P w K mg base CX0 8 (mA K "Hall" "look_or") (spHLookOr K) := by
  have h_Hall_check_name := d_Hall_check_name_ok (P := P) (w := w) T
  have h_Hall_value_in := d_Hall_value_in_ok (P := P) (w := w) T
  have h_Hall_now := d_Hall_now_ok (P := P) (w := w) T
  refine df0 T.F_Hall_look_or sc_Hall_look_or (fun _ _ _ _ _ _ us hl => match us, hl with | [_, _, _], _ => rfl) (fun vs H Q E ⟨_, _, _, _, _, _, _, _, _, h, _⟩ => by rw [h]; rfl) fun cd A outer s H vs Q E hr h => ?_
  obtain ⟨S, ds, A, g, l, c, p, gp, n, rfl, Hl, hs, hp, hg, gn, hn, q⟩ := h
  refine ⟨_, (pss_cons (ps_expr (pe_m h_Hall_check_name (hr.mono (by decide)) T.cl_Hall T.me_Hall_check_name (pv 0) (pa_cons (pv 1) pa_nil)))
    (pss_cons (ps_set (i := 3) sc_Hall_look_or.nd rfl (.inl rfl) (pe_m h_Hall_value_in (hr.mono (by decide)) T.cl_Hall T.me_Hall_value_in (pv 0) (pa_cons (pe_m0 h_Hall_now (hr.mono (by decide)) T.cl_Hall T.me_Hall_now (pv 0)) (pa_cons (pv 1) pa_nil))))
    (pss_one (ps_ret (pe_ifExp (pt_cmpR op_isN (pv 3) pe_non rfl) (pv 2) (pv 3)))))), ?_⟩
  obtain ⟨dx, ho⟩ := Hl.obj
  refine ⟨_, rfl, A.hall, dx, _, rfl, ho, rfl, _, rfl, S, ds, A, g, n, rfl, Hl, hn, ?_⟩
  refine ⟨_, rfl, A.hall, dx, _, rfl, ho, rfl, _, rfl, A.hall, dx, _, rfl, ho, rfl, S, ds, A, g, l, c, rfl, Hl, hs, _, rfl, S, ds, A, g, c, p, gp, n, rfl, Hl, hp, hg, gn, fun H1 k1 => ?_⟩
  have hW := Hl.gok.wf p gp hg
  cases hv : val gp.tr.ps n with
  | none =>
    rw [hv] at q
    exact ⟨_, rfl, rfl, true, rfl, _, rfl, q H1 k1⟩
  | some v =>
    rw [hv] at q
    have hval : isVal v = true := (hW.each _ (val_mem hv)).2.2
    refine ⟨_, rfl, rfl, false, (by show V.bl _ = _; cases v <;> first | rfl | (cases hval)), _, rfl, q H1 k1⟩
end RS

/-! text D19 -/
set_option Elab.async false
set_option linter.all false
set_option maxRecDepth 100000
set_option maxHeartbeats 1000000
/-! Hall: what it does. -/
namespace RS
open PySem PySem.Spec PyProof.Rows L2
theorem sc_Hall_settings : FnScope ["self"] ["self"] (defScope s_Hall_settings) := ⟨rfl, rfl, rfl, by decide +kernel, rfl, by decide +kernel, by decide +kernel⟩
theorem sc_Hall_copy : FnScope ["self", "world"] ["self", "world"] (defScope s_Hall_copy) := ⟨rfl, rfl, rfl, by decide +kernel, rfl, by decide +kernel, by decide +kernel⟩
theorem sc_Hall_enter : FnScope ["self", "world"] ["self", "world"] (defScope s_Hall_enter) := ⟨rfl, rfl, rfl, by decide +kernel, rfl, by decide +kernel, by decide +kernel⟩
theorem sc_Hall_leave : FnScope ["self"] ["self"] (defScope s_Hall_leave) := ⟨rfl, rfl, rfl, by decide +kernel, rfl, by decide +kernel, by decide +kernel⟩
variable {P : Program} {w : World} {K : PySem.W.Frag} {mg : Str → Option Value} {base : Heap}
section
variable {H H1 : Hp} {S : Str → Prop} {ds : List (Str × V)} {A : Ad} {g : Gh}
theorem HallA.ne6 (h : HallA K H S ds A g) : (A.rows ≠ A.stops ∧ A.rows ≠ A.spl ∧ A.rows ≠ A.stl ∧ A.rows ≠ A.fa ∧ A.rows ≠ A.un) ∧ (A.stops ≠ A.spl ∧ A.stops ≠ A.stl ∧ A.stops ≠ A.fa ∧ A.stops ≠ A.un) ∧ (A.spl ≠ A.stl ∧ A.spl ≠ A.fa ∧ A.spl ≠ A.un) ∧ (A.stl ≠ A.fa ∧ A.stl ≠ A.un) ∧ A.fa ≠ A.un := by
  have z := h.nd
  simp only [List.nodup_cons, List.mem_cons, List.not_mem_nil, or_false, not_or, not_false_eq_true, List.nodup_nil, and_true] at z
  exact z
theorem MH.spl {A : Ad} : ∀ b, Only A.spl b → MH A b := fun b z => by rw [z]; simp [MH]
theorem MH.stl {A : Ad} : ∀ b, Only A.stl b → MH A b := fun b z => by rw [z]; simp [MH]
theorem MH.un1 {A : Ad} : ∀ b, Only A.un b → MH A b := fun b z => by rw [z]; simp [MH]
theorem MH.tok {A : Ad} : ∀ b, Two A.fa A.un b → MH A b := fun b z => by rcases z with z | z <;> rw [z] <;> simp [MH]
theorem MH.roa {A : Ad} : ∀ b, Thr A.rows A.told A.stops b → MH A b := fun b z => by rcases z with z | z | z <;> rw [z] <;> simp [MH]
theorem HallA.dft (h : HallA K H S ds A g) {a : Addr} {ys : List V} (e : H a = some (.lst ys)) : A.df ≠ a := fun z => by
  have q := h.df
  rw [z, e] at q
  cases q
theorem HallA.spl' (h : HallA K H S ds A g) (k : KQ K (Only A.spl) H H1) {sps : List Nat} (e : H1 A.spl = some (.lst (sps.map natV))) (h1 : ∀ p ∈ sps, p < g.Gs.length) (h2 : g.sps.length ≤ sps.length) : HallA K H1 S ds A { g with sps := sps } := by
  obtain ⟨⟨a1, a2, a3, a4, a5⟩, ⟨b2, b3, b4, b5⟩, ⟨c3, c4, c5⟩, ⟨d4, d5⟩, e5⟩ := h.ne6
  exact ⟨h.obj.kp k, k.dK h.df (h.dft h.spo), h.roa.kp k a2 (Ne.symm (h.toldM h.spo)) b2, e, k.lst h.sta (Ne.symm c3), h.tok.kp k (Ne.symm c4) (Ne.symm c5), h.gok, h1, fun c m => Nat.lt_of_lt_of_le (h.stOk c m) h2, h.ne, h.nd, h.nd2⟩
theorem HallA.stl' (h : HallA K H S ds A g) (k : KQ K (Only A.stl) H H1) {sts : List Nat} (e : H1 A.stl = some (.lst (sts.map natV))) (h1 : ∀ p ∈ sts, p < g.sps.length) (h2 : sts ≠ []) : HallA K H1 S ds A { g with sts := sts } := by
  obtain ⟨⟨a1, a2, a3, a4, a5⟩, ⟨b2, b3, b4, b5⟩, ⟨c3, c4, c5⟩, ⟨d4, d5⟩, e5⟩ := h.ne6
  exact ⟨h.obj.kp k, k.dK h.df (h.dft h.sta), h.roa.kp k a3 (Ne.symm (h.toldM h.sta)) b3, k.lst h.spo c3, e, h.tok.kp k (Ne.symm d4) (Ne.symm d5), h.gok, h.spOk, h1, h2, h.nd, h.nd2⟩
theorem HallA.tok' (h : HallA K H S ds A g) (k : KQ K (Two A.fa A.un) H H1) {fx : List V} {us : List Bool} (e : TokA K H1 S A.pu A.fa A.un fx us) : HallA K H1 S ds A { g with fx := fx, us := us } := by
  obtain ⟨⟨a1, a2, a3, a4, a5⟩, ⟨b2, b3, b4, b5⟩, ⟨c3, c4, c5⟩, ⟨d4, d5⟩, e5⟩ := h.ne6
  have t1 := h.toldM h.tok.lst
  have t2 := h.toldM h.tok.unl
  exact ⟨h.obj.kp k, k.dK h.df (fun z => z.elim (h.dft h.tok.lst) (h.dft h.tok.unl)), h.roa.kp k (fun z => z.elim a4 a5) (fun z => z.elim (fun z => t1 z.symm) fun z => t2 z.symm) (fun z => z.elim b4 b5), k.lst h.spo (fun z => z.elim c4 c5), k.lst h.sta (fun z => z.elim d4 d5), e, h.gok, h.spOk, h.stOk, h.ne, h.nd, h.nd2⟩
theorem HallA.roa' (h : HallA K H S ds A g) (k : KQ K (Thr A.rows A.told A.stops) H H1) {as : List V} {tk : List (Key × V)} {xs : List V} {Gs : List SG} (e : RoaA K H1 A.r A.sto A.nod A.rows A.told A.stops as tk xs Gs) (hG : GOk S Gs) (hl : g.Gs.length ≤ Gs.length) : HallA K H1 S ds A { g with as := as, tk := tk, xs := xs, Gs := Gs } := by
  obtain ⟨⟨a1, a2, a3, a4, a5⟩, ⟨b2, b3, b4, b5⟩, ⟨c3, c4, c5⟩, ⟨d4, d5⟩, e5⟩ := h.ne6
  have no : ∀ {a : Addr} {ys : List V}, H a = some (.lst ys) → A.rows ≠ a → A.stops ≠ a → ¬ Thr A.rows A.told A.stops a := fun {a ys} e n1 n2 z => by
    rcases z with z | z | z
    · exact n1 z.symm
    · exact h.toldM e z
    · exact n2 z.symm
  exact ⟨h.obj.kp k, k.dK h.df (fun z => by
    rcases z with z | z | z
    · exact h.dft h.roa.sto.nod.lst z
    · exact h.nd2 z
    · exact h.dft h.roa.lst z), e, k.lst h.spo (no h.spo a2 b2), k.lst h.sta (no h.sta a3 b3), h.tok.kp k (no h.tok.lst a4 b4) (no h.tok.unl a5 b5), hG, fun p m => Nat.lt_of_lt_of_le (h.spOk p m) hl, h.stOk, h.ne, h.nd, h.nd2⟩
end
theorem paired_kvP {H : Hp} : ∀ {ts : List Addr} {ds : List (Str × V)}, Paired (fun (t : Addr) (q : Key × V) => H t = some (.tup [kV q.1, q.2])) ts (kvP ds) → Paired (fun (t : Addr) (q : Str × V) => H t = some (.tup [.str q.1, q.2])) ts ds
  | [], [], _ => .nil
  | _ :: _, _ :: _, .cons h t => .cons h (paired_kvP t)
def spHSettings (K : PySem.W.Frag) : Sp := fun vs H Q _ => ∃ (S : Str → Prop) (ds : List (Str × V)) (A : Ad) (g : Gh), vs = [.ref A.hall] ∧ HallA K H S ds A g ∧ ∀ (H' : Hp) (l : Addr) (ts : List Addr), KQ K M0 H H' → H' l = some (.lst (ts.map V.ref)) → Paired (fun (t : Addr) (q : Str × V) => H' t = some (.tup [.str q.1, q.2])) ts ds → Q (.ref l) H'
theorem d_Hall_settings_ok (T : Tx K mg base) : Df P w K mg base CX0 1 (mA K "Hall" "settings") (spHSettings K) := by
  refine df0 T.F_Hall_settings sc_Hall_settings (fun _ _ _ _ _ _ us hl => match us, hl with | [_], _ => rfl) (fun vs H Q E ⟨_, _, _, _, h, _⟩ => by rw [h]; rfl) fun cd A outer s H vs Q E hr h => ?_
  obtain ⟨S, ds, A, g, rfl, Hl, q⟩ := h
  refine ⟨_, (pss_one (ps_ret (LiI.pe_listItems rfl (pe_fld (pv 0) rfl) rfl T.b_list boot_list))), ?_⟩
  obtain ⟨dx, ho⟩ := Hl.obj
  exact ⟨_, rfl, A.hall, _, dx, _, _, rfl, ho, T.cl_Hall, T.na_Hall_defaults, rfl, A.df, _, rfl, Hl.df, fun H' p ts ext np nts pn hp hpr => q H' p ts (Kp.refl.ext ext) hp (paired_kvP hpr)⟩
def spHCopy (K : PySem.W.Frag) : Sp := fun vs H Q _ => ∃ (S : Str → Prop) (ds : List (Str × V)) (A : Ad) (g : Gh) (c p : Nat), vs = [.ref A.hall, .int c] ∧ HallA K H S ds A g ∧ g.sps[c]? = some p ∧ g.sps.length < 1000 ∧ ∀ H', KQ K (MH A) H H' → HallA K H' S ds A { g with sps := g.sps ++ [p] } → ∀ v, Q v H'
theorem d_Hall_copy_ok (T : Tx K mg base) : Df P w K mg base CX0 2 (mA K "Hall" "copy") (spHCopy K) := by
  have h_Hall_check_world := d_Hall_check_world_ok (P := P) (w := w) T
  refine df0 T.F_Hall_copy sc_Hall_copy (fun _ _ _ _ _ _ us hl => match us, hl with | [_, _], _ => rfl) (fun vs H Q E ⟨_, _, _, _, _, _, h, _⟩ => by rw [h]; rfl) fun cd A outer s H vs Q E hr h => ?_
  obtain ⟨S, ds, A, g, c, p, rfl, Hl, hp, hz, q⟩ := h
  refine ⟨_, (pss_cons (ps_expr (pe_m h_Hall_check_world (hr.mono (by decide)) T.cl_Hall T.me_Hall_check_world (pv 0) (pa_cons (pv 1) pa_nil)))
    (pss_cons (ps_expr (pe_bm PySem.F.plainAttrs_list PySem.F.slot_list_append PySem.F.type_list_append mt_append (pe_fld (pv 0) rfl) (pa_cons (pe_ix ix_list (pe_fld (pv 0) rfl) (pv 1) (fun _ _ => rfl)) pa_nil)))
    (pss_one (ps_ret (pe_op op_sub (pe_callB call_len_seq rfl T.b_len boot_len (pa_cons (pe_fld (pv 0) rfl) pa_nil)) pe_int))))), ?_⟩
  obtain ⟨dx, ho⟩ := Hl.obj
  refine ⟨_, rfl, A.hall, dx, _, rfl, ho, rfl, _, rfl, S, ds, A, g, c, rfl, Hl, (List.getElem?_eq_some_iff.mp hp).1, ?_⟩
  refine ⟨_, rfl, A.hall, _, dx, _, _, rfl, ho, T.cl_Hall, T.na_Hall_spots, rfl, tyl Hl.spo, _, rfl, A.hall, _, dx, _, _, rfl, ho, T.cl_Hall, T.na_Hall_spots, rfl, _, rfl, A.spl, _, c, _, rfl, rfl, sqL_at Hl.spo, atN (sps_at hp), A.spl, _, _, rfl, rfl, Hl.spo, sz_lt (by rw [List.length_map]; omega), ?_⟩
  have k : KQ K (Only A.spl) H (upd H A.spl (.lst (g.sps.map natV ++ [.int p]))) := Kp.refl.updL rfl Hl.spo
  have Hl2 := Hl.spl' k (sps := g.sps ++ [p]) (by rw [upd_same, List.map_append]; rfl) (fun x m => by
    rcases List.mem_append.mp m with m | m
    · exact Hl.spOk x m
    · rw [List.mem_singleton.mp m]
      exact Hl.spOk p (List.mem_of_getElem? hp)) (by rw [List.length_append]; omega)
  obtain ⟨dx2, ho2⟩ := Hl2.obj
  exact ⟨_, rfl, A.hall, _, dx2, _, _, rfl, ho2, T.cl_Hall, T.na_Hall_spots, rfl, A.spl, _, rfl, .inl (sqL_at upd_same), _, _, rfl, rfl, q _ (k.mono MH.spl) Hl2 _⟩
def spHEnter (K : PySem.W.Frag) : Sp := fun vs H Q E => ∃ (S : Str → Prop) (ds : List (Str × V)) (A : Ad) (g : Gh) (c : Nat), vs = [.ref A.hall, .int c] ∧ HallA K H S ds A g ∧ c < g.sps.length ∧ g.sts.length < 1000 ∧ XOut K H E ∧ ∀ H', KQ K (MH A) H H' → HallA K H' S ds A { g with sts := g.sts ++ [c] } → Q .non H'
theorem d_Hall_enter_ok (T : Tx K mg base) : Df P w K mg base (L2.CX P w) 4 (mA K "Hall" "enter") (spHEnter K) := by
  have h_Hall_check_world := d_Hall_check_world_ok (P := P) (w := w) T
  have h_Busy_init := d_Busy_init_ok (P := P) (w := w) T
  refine dfR T.F_Hall_enter sc_Hall_enter (fun _ _ _ _ _ _ us hl => match us, hl with | [_, _], _ => rfl) (fun vs H Q E ⟨_, _, _, _, _, h, _⟩ => by rw [h]; rfl) fun cd A outer s H vs Q E hr h tk hX hown => ?_
  obtain ⟨S, ds, A, g, c, rfl, Hl, hc, hz, qx, q⟩ := h
  refine ⟨_, (pss_cons (ps_expr (pe_m h_Hall_check_world (hr.mono (by decide)) T.cl_Hall T.me_Hall_check_world (pv 0) (pa_cons (pv 1) pa_nil)))
    (pss_cons (ps_if (pt_cmpR op_in_seq (pv 1) (pe_fld (pv 0) rfl) rfl) (pss_one (ps_raise rfl tk (pmk_e h_Busy_init T.eb_Busy (hr.mono (by decide)) T.g_Busy (pa_cons (pv 1) pa_nil)))) pss_nil)
    (pss_one (ps_expr (pe_bm PySem.F.plainAttrs_list PySem.F.slot_list_append PySem.F.type_list_append mt_append (pe_fld (pv 0) rfl) (pa_cons (pv 1) pa_nil)))))), ?_⟩
  obtain ⟨dx, ho⟩ := Hl.obj
  refine ⟨_, rfl, A.hall, dx, _, rfl, ho, rfl, _, rfl, S, ds, A, g, c, rfl, Hl, hc, ?_⟩
  refine ⟨_, rfl, _, rfl, A.hall, _, dx, _, _, rfl, ho, T.cl_Hall, T.na_Hall_stack, rfl, A.stl, _, rfl, .inl (sqL_at Hl.sta), rfl, ?_, ?_⟩
  · rw [List.all_map]
    exact List.all_eq_true.mpr fun _ _ => rfl
  refine ⟨_, rfl, ?_⟩
  generalize (if false = true then !inV (V.int (c : Nat)) (g.sts.map natV) else inV (V.int (c : Nat)) (g.sts.map natV)) = bb
  cases bb with
  | true => exact ⟨_, rfl, raised (by decide) Kp.refl qx⟩
  | false =>
    refine ⟨_, rfl, A.hall, _, dx, _, _, rfl, ho, T.cl_Hall, T.na_Hall_stack, rfl, tyl Hl.sta, _, rfl, A.stl, _, _, rfl, rfl, Hl.sta, sz_lt (by rw [List.length_map]; omega), ?_⟩
    have k : KQ K (Only A.stl) H (upd H A.stl (.lst (g.sts.map natV ++ [.int c]))) := Kp.refl.updL rfl Hl.sta
    refine q _ (k.mono MH.stl) (Hl.stl' k (by rw [upd_same, List.map_append]; rfl) (fun x m => ?_) (by simp))
    rcases List.mem_append.mp m with m | m
    · exact Hl.stOk x m
    · rw [List.mem_singleton.mp m]; exact hc
def spHLeave (K : PySem.W.Frag) : Sp := fun vs H Q E => ∃ (S : Str → Prop) (ds : List (Str × V)) (A : Ad) (g : Gh), vs = [.ref A.hall] ∧ HallA K H S ds A g ∧ XOut K H E ∧ ∀ H', KQ K (MH A) H H' → HallA K H' S ds A { g with sts := g.sts.dropLast } → Q .non H'
theorem d_Hall_leave_ok (T : Tx K mg base) : Df P w K mg base (L2.CX P w) 4 (mA K "Hall" "leave") (spHLeave K) := by
  have h_AtHome_init := d_AtHome_init_ok (P := P) (w := w) T
  refine dfR T.F_Hall_leave sc_Hall_leave (fun _ _ _ _ _ _ us hl => match us, hl with | [_], _ => rfl) (fun vs H Q E ⟨_, _, _, _, h, _⟩ => by rw [h]; rfl) fun cd A outer s H vs Q E hr h tk hX hown => ?_
  obtain ⟨S, ds, A, g, rfl, Hl, qx, q⟩ := h
  refine ⟨_, (pss_cons (ps_if (pt_cmpR op_eq (pe_callB call_len_seq rfl T.b_len boot_len (pa_cons (pe_fld (pv 0) rfl) pa_nil)) pe_int rfl) (pss_one (ps_raise rfl tk (pmk_e h_AtHome_init T.eb_AtHome (hr.mono (by decide)) T.g_AtHome (pa_cons (pe_ix ix_list (pe_fld (pv 0) rfl) pe_int (fun _ _ => rfl)) pa_nil)))) pss_nil)
    (pss_one (ps_expr (pe_bm0 PySem.F.plainAttrs_list PySem.F.slot_list_pop PySem.F.type_list_pop mt_pop (pe_fld (pv 0) rfl))))), ?_⟩
  obtain ⟨dx, ho⟩ := Hl.obj
  refine ⟨_, rfl, A.hall, _, dx, _, _, rfl, ho, T.cl_Hall, T.na_Hall_stack, rfl, A.stl, _, rfl, .inl (sqL_at Hl.sta), rfl, _, rfl, ?_⟩
  obtain ⟨l, c, p, gp, hs, hp, hg⟩ := Hl.cur
  by_cases e : g.sts.length = 1
  · have e1 : decide (V.int ((g.sts.map natV).length : Nat) = V.int 1) = true := decide_eq_true (by rw [List.length_map, e]; rfl)
    rw [e1]
    have hz : atI (g.sts.map natV) 0 = some (.int c) := by
      rw [hs, List.length_append] at e
      have hl : l = [] := List.length_eq_zero_iff.mp (by have : [c].length = 1 := rfl; omega)
      rw [hs, hl]
      exact at0
    exact ⟨_, rfl, A.hall, _, dx, _, _, rfl, ho, T.cl_Hall, T.na_Hall_stack, rfl, A.stl, _, 0, _, rfl, rfl, sqL_at Hl.sta, hz, raised (by decide) Kp.refl qx⟩
  · have e1 : decide (V.int ((g.sts.map natV).length : Nat) = V.int 1) = false := decide_eq_false fun z => e (by rw [List.length_map] at z; injection z with z; omega)
    rw [e1]
    have hla : (g.sts.map natV)[(g.sts.map natV).length - 1]? = some (.int c) := by
      rw [hs, List.map_append]
      exact last_at _ _
    refine ⟨_, rfl, A.hall, _, dx, _, _, rfl, ho, T.cl_Hall, T.na_Hall_stack, rfl, tyl Hl.sta, A.stl, _, _, rfl, rfl, Hl.sta, hla, ?_⟩
    have k : KQ K (Only A.stl) H (upd H A.stl (.lst (g.sts.map natV).dropLast)) := Kp.refl.updL rfl Hl.sta
    refine q _ (k.mono MH.stl) (Hl.stl' k (by rw [upd_same, List.map_dropLast]) (fun x m => Hl.stOk x ((List.dropLast_sublist _).mem m)) fun z => e ?_)
    have y := List.length_dropLast (xs := g.sts)
    rw [z] at y
    have y2 : g.sts.length = l.length + 1 := by rw [hs, List.length_append]; rfl
    have y3 : ([] : List Nat).length = 0 := rfl
    omega
end RS

/-! text D20 -/
set_option Elab.async false
set_option linter.all false
set_option maxRecDepth 100000
set_option maxHeartbeats 1000000
/-! Hall: set_to, back. -/
namespace RS
open PySem PySem.Spec PyProof.Rows L2
theorem sc_Hall_set_to : FnScope ["self", "name", "value", "world", "token"] ["self", "name", "value"] (defScope s_Hall_set_to) := ⟨rfl, rfl, rfl, by decide +kernel, rfl, by decide +kernel, by decide +kernel⟩
theorem sc_Hall_back : FnScope ["self", "token", "world", "name", "old"] ["self", "token"] (defScope s_Hall_back) := ⟨rfl, rfl, rfl, by decide +kernel, rfl, by decide +kernel, by decide +kernel⟩
variable {P : Program} {w : World} {K : PySem.W.Frag} {mg : Str → Option Value} {base : Heap}
/-- how a hall grows by one deed -/
structure Grown (g g' : Gh) (k : Nat) : Prop where
  bud : Bud g' (k + 1)
  ext : ∀ (i : Nat) (x : SG), g.Gs[i]? = some x → g'.Gs[i]? = some x
theorem ext_snoc {α : Type} {l : List α} {y : α} : ∀ (i : Nat) (x : α), l[i]? = some x → (l ++ [y])[i]? = some x := fun i x e => by rw [List.getElem?_append_left (List.getElem?_eq_some_iff.mp e).1]; exact e
def spHSet (K : PySem.W.Frag) : Sp := fun vs H Q _ => ∃ (S : Str → Prop) (ds : List (Str × V)) (A : Ad) (g : Gh) (k : Nat) (n : Str) (v : V), vs = [.ref A.hall, .str n, v] ∧ HallA K H S ds A g ∧ Bud g k ∧ k < 500 ∧ SOk S ∧ S n ∧ n ∈ ds.map (·.1) ∧ isVal v = true ∧ LamX.Tabs (TT K) H ∧
  ∀ (H' : Hp) (g' : Gh) (j : Int), KQ K (MH A) H H' → HallA K H' S ds A g' → Grown g g' k → Q (.int j) H'
theorem d_Hall_set_to_ok (T : Tx K mg base) : Df P w K mg base CX0 15 (mA K "Hall" "set_to") (spHSet K) := by
  have h_Hall_check_name := d_Hall_check_name_ok (P := P) (w := w) T
  have h_Hall_now := d_Hall_now_ok (P := P) (w := w) T
  have h_Hall_value_in := d_Hall_value_in_ok (P := P) (w := w) T
  have h_Tokens_issue := d_Tokens_issue_ok (P := P) (w := w) T
  have h_Roads_put := d_Roads_put_ok (P := P) (w := w) T
  refine df0 T.F_Hall_set_to sc_Hall_set_to (fun _ _ _ _ _ _ us hl => match us, hl with | [_, _, _], _ => rfl) (fun vs H Q E ⟨_, _, _, _, _, _, _, h, _⟩ => by rw [h]; rfl) fun cd A outer s H vs Q E hr h => ?_
  obtain ⟨S, ds, A, g, k, n, v, rfl, Hl, B, hk, hSO, hS, hn, hv, hT, q⟩ := h
  refine ⟨_, (pss_cons (ps_expr (pe_m h_Hall_check_name (hr.mono (by decide)) T.cl_Hall T.me_Hall_check_name (pv 0) (pa_cons (pv 1) pa_nil)))
    (pss_cons (ps_set (i := 3) sc_Hall_set_to.nd rfl (.inl rfl) (pe_m0 h_Hall_now (hr.mono (by decide)) T.cl_Hall T.me_Hall_now (pv 0)))
    (pss_cons (ps_set (i := 4) sc_Hall_set_to.nd rfl (.inl rfl) (pe_m h_Tokens_issue (hr.mono (by decide)) T.cl_Tokens T.me_Tokens_issue (pe_fld (pv 0) rfl) (pa_cons (pv 3) (pa_cons (pv 1) (pa_cons (pe_m h_Hall_value_in (hr.mono (by decide)) T.cl_Hall T.me_Hall_value_in (pv 0) (pa_cons (pv 3) (pa_cons (pv 1) pa_nil))) pa_nil)))))
    (pss_cons (ps_asg (pe_m h_Roads_put (hr.mono (by decide)) T.cl_Roads T.me_Roads_put (pe_fld (pv 0) rfl) (pa_cons (pe_ix ix_list (pe_fld (pv 0) rfl) (pv 3) (fun _ _ => rfl)) (pa_cons (pv 1) (pa_cons (pv 2) pa_nil)))) (pg_sub (pe_fld (pv 0) rfl) (pv 3) set_list))
    (pss_one (ps_ret (pv 4))))))), ?_⟩
  obtain ⟨dx, ho⟩ := Hl.obj
  obtain ⟨dp, hpu⟩ := Hl.tok.obj
  obtain ⟨l, c, p, gp, hs, hp, hg⟩ := Hl.cur
  have hc : c < g.sps.length := (List.getElem?_eq_some_iff.mp hp).1
  obtain ⟨b1, b2, b3, b4, b5, b6, b7⟩ := B
  refine ⟨_, rfl, A.hall, dx, _, rfl, ho, rfl, _, rfl, S, ds, A, g, n, rfl, Hl, hn, ?_⟩
  refine ⟨_, rfl, A.hall, dx, _, rfl, ho, rfl, S, ds, A, g, l, c, rfl, Hl, hs, ?_⟩
  refine ⟨_, rfl, A.hall, _, dx, _, _, rfl, ho, T.cl_Hall, T.na_Hall_purse, rfl, A.pu, dp, _, rfl, hpu, rfl, _, rfl, _, rfl, _, rfl, A.hall, dx, _, rfl, ho, rfl, _, rfl, _, rfl, S, ds, A, g, c, p, gp, n, rfl, Hl, hp, hg, hSO.good n hS, fun H1 k1 => ?_⟩
  have Hl1 := Hl.k0 k1
  refine ⟨S, A.pu, A.fa, A.un, g.fx, g.us, c, n, _, rfl, Hl1.tok, Hl.ne6.2.2.2.2, by omega, hS, val_sc (Hl.gok.wf p gp hg) n, fun H2 b k2 Tk2 => ?_⟩
  have Hl2 := Hl1.tok' k2 Tk2
  have k02 : KQ K (MH A) H H2 := k1.m0.trans (k2.mono MH.tok)
  obtain ⟨dx2, ho2⟩ := Hl2.obj
  obtain ⟨dr, hro⟩ := Hl2.roa.obj
  refine ⟨_, rfl, A.hall, _, dx2, _, _, rfl, ho2, T.cl_Hall, T.na_Hall_grid, rfl, A.r, dr, _, rfl, hro, rfl, _, rfl, A.hall, _, dx2, _, _, rfl, ho2, T.cl_Hall, T.na_Hall_spots, rfl, _, rfl, A.spl, _, c, _, rfl, rfl, sqL_at Hl2.spo, atN (sps_at hp), _, rfl, _, rfl, ?_⟩
  refine ⟨A.r, A.sto, A.nod, A.rows, A.told, A.stops, g.as, g.tk, g.xs, g.Gs, p, n, v, S, rfl, Hl2.roa, Hl.ne6.1.1, Hl2.gok, (List.getElem?_eq_some_iff.mp hg).1, by omega, by omega, by omega, k02.t hT, hSO.ps, ⟨hSO.good n hS, fun u e => by injection e with e; rw [← e]; exact ⟨hS, hv⟩⟩, fun H3 bs tk' b3 tb t' k3 R3 G3 hb htk => ?_⟩
  have Hl3 := Hl2.roa' k3 R3 G3 (by rw [List.length_append]; exact Nat.le_add_right _ _)
  obtain ⟨dx3, ho3⟩ := Hl3.obj
  have hj : ixN (g.sps.map natV).length (c : Nat) = some c := by
    unfold ixN
    rw [List.length_map, if_pos (by omega), if_pos (by omega)]
    rfl
  refine ⟨_, rfl, A.hall, _, dx3, _, _, rfl, ho3, T.cl_Hall, T.na_Hall_spots, rfl, _, rfl, A.spl, _, _, c, rfl, rfl, Hl3.spo, hj, ?_⟩
  have k4 : KQ K (Only A.spl) H3 (upd H3 A.spl (.lst ((g.sps.map natV).set c (.int g.Gs.length)))) := Kp.refl.updL rfl Hl3.spo
  have hgl : ∀ (x : SG), g.Gs.length < (g.Gs ++ [x]).length := fun x => by rw [List.length_append]; exact Nat.lt_succ_self _
  have Hl4 := Hl3.spl' k4 (sps := g.sps.set c g.Gs.length) (by rw [upd_same, List.map_set]) (fun x m => by
    rcases List.mem_or_eq_of_mem_set m with m | m
    · exact Nat.lt_trans (Hl.spOk x m) (hgl _)
    · rw [m]; exact hgl _) (by rw [List.length_set]; exact Nat.le_refl _)
  have kF := ((k02).trans (k3.mono MH.roa)).trans (k4.mono MH.spl)
  exact ⟨_, rfl, q _ _ _ kF Hl4 ⟨⟨by show (g.as ++ bs).length ≤ _; rw [List.length_append]; omega, by show tk'.length ≤ _; omega, by show (g.Gs ++ [_]).length ≤ _; rw [List.length_append]; show _ + 1 ≤ _; omega, by show (g.fx ++ [_]).length ≤ _; rw [List.length_append]; show _ + 1 ≤ _; omega, by show (g.sps.set c _).length ≤ _; rw [List.length_set]; omega, by show g.sts.length ≤ _; omega, by omega⟩, ext_snoc⟩⟩
def spHBack (K : PySem.W.Frag) : Sp := fun vs H Q E => ∃ (S : Str → Prop) (ds : List (Str × V)) (A : Ad) (g : Gh) (k j : Nat), vs = [.ref A.hall, .int j] ∧ HallA K H S ds A g ∧ Bud g k ∧ k < 500 ∧ SOk S ∧ LamX.Tabs (TT K) H ∧ XOut K H E ∧
  ∀ (H' : Hp) (g' : Gh), KQ K (MH A) H H' → HallA K H' S ds A g' → Grown g g' k → Q .non H'
theorem d_Hall_back_ok (T : Tx K mg base) : Df P w K mg base (L2.CX P w) 15 (mA K "Hall" "back") (spHBack K) := by
  have h_Hall_now := d_Hall_now_ok (P := P) (w := w) T
  have h_Tokens_use := d_Tokens_use_ok (P := P) (w := w) T
  have h_Roads_put := d_Roads_put_ok (P := P) (w := w) T
  have h_Roads_clear := d_Roads_clear_ok (P := P) (w := w) T
  refine dfR T.F_Hall_back sc_Hall_back (fun _ _ _ _ _ _ us hl => match us, hl with | [_, _], _ => rfl) (fun vs H Q E ⟨_, _, _, _, _, _, h, _⟩ => by rw [h]; rfl) fun cd A outer s H vs Q E hr h tk hX hown => ?_
  have hx := hX E fun _ _ _ h => h
  obtain ⟨S, ds, A, g, k, j, rfl, Hl, B, hk, hSO, hT, qx, q⟩ := h
  refine ⟨_, (pss_cons (ps_set (i := 2) sc_Hall_back.nd rfl (.inl rfl) (pe_m0 h_Hall_now (hr.mono (by decide)) T.cl_Hall T.me_Hall_now (pv 0)))
    (pss_cons (ps_asg (pe_mX hx h_Tokens_use (hr.mono (by decide)) T.cl_Tokens T.me_Tokens_use (pe_fld (pv 0) rfl) (pa_cons (pv 1) (pa_cons (pv 2) pa_nil))) (pg_tup rfl (pgs_cons (pg_name (i := 3) sc_Hall_back.nd rfl (.inl rfl)) (pgs_cons (pg_name (i := 4) sc_Hall_back.nd rfl (.inl rfl)) pgs_nil))))
    (pss_one (ps_if (pt_cmpR op_isN (pv 4) pe_non rfl) (pss_one (ps_asg (pe_m h_Roads_clear (hr.mono (by decide)) T.cl_Roads T.me_Roads_clear (pe_fld (pv 0) rfl) (pa_cons (pe_ix ix_list (pe_fld (pv 0) rfl) (pv 2) (fun _ _ => rfl)) (pa_cons (pv 3) pa_nil))) (pg_sub (pe_fld (pv 0) rfl) (pv 2) set_list))) (pss_one (ps_asg (pe_m h_Roads_put (hr.mono (by decide)) T.cl_Roads T.me_Roads_put (pe_fld (pv 0) rfl) (pa_cons (pe_ix ix_list (pe_fld (pv 0) rfl) (pv 2) (fun _ _ => rfl)) (pa_cons (pv 3) (pa_cons (pv 4) pa_nil)))) (pg_sub (pe_fld (pv 0) rfl) (pv 2) set_list))))))), ?_⟩
  obtain ⟨dx, ho⟩ := Hl.obj
  obtain ⟨dp, hpu⟩ := Hl.tok.obj
  obtain ⟨l, c, p, gp, hs, hp, hg⟩ := Hl.cur
  have hc : c < g.sps.length := (List.getElem?_eq_some_iff.mp hp).1
  obtain ⟨b1, b2, b3, b4, b5, b6, b7⟩ := B
  refine ⟨_, rfl, A.hall, dx, _, rfl, ho, rfl, S, ds, A, g, l, c, rfl, Hl, hs, ?_⟩
  refine ⟨_, rfl, A.hall, _, dx, _, _, rfl, ho, T.cl_Hall, T.na_Hall_purse, rfl, A.pu, dp, _, rfl, hpu, rfl, _, rfl, _, rfl, S, A.pu, A.fa, A.un, g.fx, g.us, j, c, rfl, Hl.tok, hSO.good, Hl.ne6.2.2.2.2, qx, fun H2 t n o us' k2 Tk2 ht hS hsc => ?_⟩
  refine ⟨t, [.str n, o], rfl, sqT_at ht, rfl, _, _, rfl, _, _, rfl, rfl, ?_⟩
  have Hl2 := Hl.tok' (k2.mono fun b z => .inr z) Tk2
  have k02 : KQ K (MH A) H H2 := k2.mono MH.un1
  obtain ⟨dx2, ho2⟩ := Hl2.obj
  obtain ⟨dr, hro⟩ := Hl2.roa.obj
  rcases hsc with rfl | hv
  · refine ⟨_, rfl, rfl, true, rfl, ?_⟩
    refine ⟨_, rfl, A.hall, _, dx2, _, _, rfl, ho2, T.cl_Hall, T.na_Hall_grid, rfl, A.r, dr, _, rfl, hro, rfl, _, rfl, A.hall, _, dx2, _, _, rfl, ho2, T.cl_Hall, T.na_Hall_spots, rfl, _, rfl, A.spl, _, c, _, rfl, rfl, sqL_at Hl2.spo, atN (sps_at hp), _, rfl, ?_⟩
    refine ⟨A.r, A.sto, A.nod, A.rows, A.told, A.stops, g.as, g.tk, g.xs, g.Gs, p, n, S, rfl, Hl2.roa, Hl.ne6.1.1, Hl2.gok, (List.getElem?_eq_some_iff.mp hg).1, by omega, by omega, by omega, k02.t hT, hSO.ps, ⟨hSO.good n hS, fun u e => nomatch e⟩, fun H3 bs tk' b3 tb t' k3 R3 G3 hb htk => ?_⟩
    have Hl3 := Hl2.roa' k3 R3 G3 (by rw [List.length_append]; exact Nat.le_add_right _ _)
    obtain ⟨dx3, ho3⟩ := Hl3.obj
    have hj : ixN (g.sps.map natV).length (c : Nat) = some c := by
      unfold ixN
      rw [List.length_map, if_pos (by omega), if_pos (by omega)]
      rfl
    refine ⟨_, rfl, A.hall, _, dx3, _, _, rfl, ho3, T.cl_Hall, T.na_Hall_spots, rfl, _, rfl, A.spl, _, _, c, rfl, rfl, Hl3.spo, hj, ?_⟩
    have k4 : KQ K (Only A.spl) H3 (upd H3 A.spl (.lst ((g.sps.map natV).set c (.int g.Gs.length)))) := Kp.refl.updL rfl Hl3.spo
    have hgl : ∀ (x : SG), g.Gs.length < (g.Gs ++ [x]).length := fun x => by rw [List.length_append]; exact Nat.lt_succ_self _
    have Hl4 := Hl3.spl' k4 (sps := g.sps.set c g.Gs.length) (by rw [upd_same, List.map_set]) (fun x m => by
      rcases List.mem_or_eq_of_mem_set m with m | m
      · exact Nat.lt_trans (Hl.spOk x m) (hgl _)
      · rw [m]; exact hgl _) (by rw [List.length_set]; exact Nat.le_refl _)
    have kF := ((k02).trans (k3.mono MH.roa)).trans (k4.mono MH.spl)
    exact q _ _ kF Hl4 ⟨⟨by show (g.as ++ bs).length ≤ _; rw [List.length_append]; omega, by show tk'.length ≤ _; omega, by show (g.Gs ++ [_]).length ≤ _; rw [List.length_append]; show _ + 1 ≤ _; omega, by show g.fx.length ≤ _; omega, by show (g.sps.set c _).length ≤ _; rw [List.length_set]; omega, by show g.sts.length ≤ _; omega, by omega⟩, ext_snoc⟩
  · refine ⟨_, rfl, rfl, false, (by show V.bl _ = _; cases o <;> first | rfl | (cases hv)), ?_⟩
    refine ⟨_, rfl, A.hall, _, dx2, _, _, rfl, ho2, T.cl_Hall, T.na_Hall_grid, rfl, A.r, dr, _, rfl, hro, rfl, _, rfl, A.hall, _, dx2, _, _, rfl, ho2, T.cl_Hall, T.na_Hall_spots, rfl, _, rfl, A.spl, _, c, _, rfl, rfl, sqL_at Hl2.spo, atN (sps_at hp), _, rfl, _, rfl, ?_⟩
    refine ⟨A.r, A.sto, A.nod, A.rows, A.told, A.stops, g.as, g.tk, g.xs, g.Gs, p, n, o, S, rfl, Hl2.roa, Hl.ne6.1.1, Hl2.gok, (List.getElem?_eq_some_iff.mp hg).1, by omega, by omega, by omega, k02.t hT, hSO.ps, ⟨hSO.good n hS, fun u e => by injection e with e; rw [← e]; exact ⟨hS, hv⟩⟩, fun H3 bs tk' b3 tb t' k3 R3 G3 hb htk => ?_⟩
    have Hl3 := Hl2.roa' k3 R3 G3 (by rw [List.length_append]; exact Nat.le_add_right _ _)
    obtain ⟨dx3, ho3⟩ := Hl3.obj
    have hj : ixN (g.sps.map natV).length (c : Nat) = some c := by
      unfold ixN
      rw [List.length_map, if_pos (by omega), if_pos (by omega)]
      rfl
    refine ⟨_, rfl, A.hall, _, dx3, _, _, rfl, ho3, T.cl_Hall, T.na_Hall_spots, rfl, _, rfl, A.spl, _, _, c, rfl, rfl, Hl3.spo, hj, ?_⟩
    have k4 : KQ K (Only A.spl) H3 (upd H3 A.spl (.lst ((g.sps.map natV).set c (.int g.Gs.length)))) := Kp.refl.updL rfl Hl3.spo
    have hgl : ∀ (x : SG), g.Gs.length < (g.Gs ++ [x]).length := fun x => by rw [List.length_append]; exact Nat.lt_succ_self _
    have Hl4 := Hl3.spl' k4 (sps := g.sps.set c g.Gs.length) (by rw [upd_same, List.map_set]) (fun x m => by
      rcases List.mem_or_eq_of_mem_set m with m | m
      · exact Nat.lt_trans (Hl.spOk x m) (hgl _)
      · rw [m]; exact hgl _) (by rw [List.length_set]; exact Nat.le_refl _)
    have kF := ((k02).trans (k3.mono MH.roa)).trans (k4.mono MH.spl)
    exact q _ _ kF Hl4 ⟨⟨by show (g.as ++ bs).length ≤ _; rw [List.length_append]; omega, by show tk'.length ≤ _; omega, by show (g.Gs ++ [_]).length ≤ _; rw [List.length_append]; show _ + 1 ≤ _; omega, by show g.fx.length ≤ _; omega, by show (g.sps.set c _).length ≤ _; rw [List.length_set]; omega, by show g.sts.length ≤ _; omega, by omega⟩, ext_snoc⟩
end RS

/-! text D21 -/
set_option Elab.async false
set_option linter.all false
set_option maxRecDepth 100000
set_option maxHeartbeats 1000000
/-! Lookout: its state; the small defs. -/
namespace RS
open PySem PySem.Spec PyProof.Rows L2
theorem sc_Lookout_init : FnScope ["self", "hall"] ["self", "hall"] (defScope s_Lookout_init) := ⟨rfl, rfl, rfl, by decide +kernel, rfl, by decide +kernel, by decide +kernel⟩
variable {P : Program} {w : World} {K : PySem.W.Frag} {mg : Str → Option Value} {base : Heap}
/-! ### past a write at the lookout -/
def NotL : HO → Prop
  | .ins _ _ ((f, _) :: _) => f ≠ "hall"
  | _ => True
structure KF (K : PySem.W.Frag) (M : Addr → Prop) (H H' : Hp) : Prop where
  k : ∀ c o, H c = some o → NotL o → Ok M c o → H' c = some o
  t : LamX.Tabs (TT K) H → LamX.Tabs (TT K) H'
section
variable {M : Addr → Prop} {H H1 H2 : Hp} {S : Str → Prop}
theorem KF.of (k : KQ K M H H1) : KF K M H H1 := ⟨fun c o e _ ok => k.k c o e ok, k.t⟩
theorem KF.trans (x : KF K M H H1) (y : KF K M H1 H2) : KF K M H H2 := ⟨fun c o e n ok => y.k c o (x.k c o e n ok) n ok, fun t => y.t (x.t t)⟩
theorem KF.mono {N : Addr → Prop} (x : KF K N H H1) (h : ∀ b, N b → M b) : KF K M H H1 := ⟨fun c o e n ok => x.k c o e n (ok.mono h), x.t⟩
theorem KF.lst (x : KF K M H H1) {a : Addr} {ys : List V} (e : H a = some (.lst ys)) (n : ¬ M a) : H1 a = some (.lst ys) := x.k a _ e trivial n
theorem KF.dK (x : KF K M H H1) {a : Addr} {ys : List (Key × V)} (e : H a = some (.dK ys)) (n : ¬ M a) : H1 a = some (.dK ys) := x.k a _ e trivial n
theorem KF.tup (x : KF K M H H1) {a : Addr} {ys : List V} (e : H a = some (.tup ys)) : H1 a = some (.tup ys) := x.k a _ e trivial trivial
theorem KF.frz (x : KF K M H H1) {a : Addr} {o : Obj} {u : HO} (e : H a = some (.frz o u)) : H1 a = some (.frz o u) := x.k a _ e trivial trivial
/-- a write at the lookout itself -/
theorem KF.wr {lo C dx C' dx' : Addr} {v : V} {fs fs' : List (Str × V)} (e : H lo = some (.ins C dx (("hall", v) :: fs))) : KF K M H (upd H lo (.ins C' dx' fs')) :=
  ⟨fun c o h n ok => by
    rw [upd_ne]
    · exact h
    · intro z
      rw [z, e] at h
      cases h
      exact n rfl, fun t => tabs_upd e trivial t⟩
theorem InsA.kf {a C : Addr} {f : Str} {u : V} {fs : List (Str × V)} (h : InsA H a C ((f, u) :: fs)) (k : KF K M H H1) (n : f ≠ "hall") : InsA H1 a C ((f, u) :: fs) := let ⟨d, e⟩ := h; ⟨d, k.k a _ e n trivial⟩
theorem Prt.kf {ps : List Pr} (h : Prt H ps) (k : KF K M H H1) : Prt H1 ps := fun p m => k.tup (h p m)
theorem LeafAt.kf {a : Addr} {m : Nat} {ps : List Pr} (h : LeafAt H a m ps) (k : KF K M H H1) : LeafAt H1 a m ps := let ⟨q, h1, ⟨o, h2, h4⟩, h3⟩ := h; ⟨q, k.tup h1, ⟨o, k.frz h2, h4⟩, h3.kf k⟩
theorem ForkAt.kf {a : Addr} {ns : Fin 4 → Nat} (h : ForkAt H a ns) (k : KF K M H H1) : ForkAt H1 a ns := let ⟨q, h1, h2⟩ := h; ⟨q, k.tup h1, k.tup h2⟩
theorem Rep.kf {as : List V} (k : KF K M H H1) : ∀ {t : RS.T} {n : Nat}, Rep H as t n → Rep H1 as t n
  | .bare, _, h => h
  | .leaf m ps, n, ⟨h0, a, qs, h1, h2, h3⟩ => ⟨h0, a, qs, h1, h2.kf k, h3⟩
  | .fork f, n, ⟨h0, a, ns, h1, h2, h3⟩ => ⟨h0, a, ns, h1, h2.kf k, fun d => Rep.kf k (h3 d)⟩
theorem MvAt.kf {u : V} (k : KF K M H H1) : ∀ {m : Mv}, MvAt H u m → MvAt H1 u m
  | none, h => h
  | some (x, some v), ⟨q, h1, h2⟩ => ⟨q, h1, k.tup h2⟩
  | some (x, none), ⟨q, h1, h2⟩ => ⟨q, h1, k.tup h2⟩
theorem HallA.kf {ds : List (Str × V)} {A : Ad} {g : Gh} (h : HallA K H S ds A g) (k : KF K M H H1) (n : ∀ b, M b → MH A b ∨ b = A.df → False) : HallA K H1 S ds A g := by
  have nm : ∀ {b : Addr}, MH A b → ¬ M b := fun m z => n _ z (.inl m)
  have m1 : MH A A.rows := by simp [MH]
  have m2 : MH A A.told := by simp [MH]
  have m3 : MH A A.stops := by simp [MH]
  have m4 : MH A A.spl := by simp [MH]
  have m5 : MH A A.stl := by simp [MH]
  have m6 : MH A A.fa := by simp [MH]
  have m7 : MH A A.un := by simp [MH]
  refine ⟨h.obj.kf k (by decide), k.dK h.df (fun z => n _ z (.inr rfl)), ⟨h.roa.obj.kf k (by decide), ⟨h.roa.sto.obj.kf k (by decide), ⟨h.roa.sto.nod.obj.kf k (by decide), k.lst h.roa.sto.nod.lst (nm m1)⟩, k.dK h.roa.sto.tld (nm m2), h.roa.sto.fst⟩, k.lst h.roa.lst (nm m3), h.roa.len, fun i x e => ?_⟩,
    k.lst h.spo (nm m4), k.lst h.sta (nm m5), ⟨h.tok.obj.kf k (by decide), k.lst h.tok.lst (nm m6), k.lst h.tok.unl (nm m7), h.tok.len, fun v m => ?_⟩, h.gok, h.spOk, h.stOk, h.ne, h.nd, h.nd2⟩
  · obtain ⟨b, c1, ⟨u, i, j, c2, c3⟩, c4, c5⟩ := h.roa.each i x e
    exact ⟨b, c1, ⟨u, i, j, c2.kf k (by decide), c3.kf k⟩, c4.kf k, c5⟩
  · obtain ⟨b, c, n, o, e1, e2, e3⟩ := h.tok.each v m
    exact ⟨b, c, n, o, e1, k.tup e2, e3⟩
end
/-! ### the state -/
abbrev lookF (hall wr ul : Addr) (b m : Int) : List (Str × V) := [("hall", .ref hall), ("rows", .ref wr), ("begun", .int b), ("untold", .ref ul), ("many_looked", .int m)]
def rowsK (ws : List Str) : List (Key × V) := ws.zipIdx.map fun p => (.inl (p.2 : Int), .str p.1)
theorem rowsK_snoc (ws : List Str) (n : Str) : rowsK (ws ++ [n]) = rowsK ws ++ [(.inl (ws.length : Int), .str n)] := by
  unfold rowsK
  rw [List.zipIdx_append, List.map_append]
  simp
theorem rowsK_len (ws : List Str) : (rowsK ws).length = ws.length := by unfold rowsK; rw [List.length_map, List.length_zipIdx]
theorem rowsK_none (ws : List Str) : valV (rowsK ws) (.inl (ws.length : Int)) = none := by
  unfold valV
  rw [Option.map_eq_none_iff, List.find?_eq_none]
  intro p hp
  obtain ⟨q, hq, e⟩ := List.mem_map.mp hp
  have z := (List.mem_zipIdx hq)
  rw [← e]
  simp only [decide_eq_true_eq]
  intro y
  injection y with y
  omega
structure LookA (K : PySem.W.Frag) (H : Hp) (hall lo wr ul : Addr) (ws : List Str) (us : List V) : Prop where
  obj : ∃ (dx : Addr) (m : Int), H lo = some (.ins (gA K "Lookout") dx (lookF hall wr ul ws.length m))
  row : H wr = some (.dK (rowsK ws))
  unt : H ul = some (.lst us)
theorem LookA.kp {H H1 : Hp} {hall lo wr ul : Addr} {ws : List Str} {us : List V} {T : Tbs} {M : Addr → Prop} (h : LookA K H hall lo wr ul ws us) (k : Kp T M H H1) (n1 : ¬ M wr) (n2 : ¬ M ul) : LookA K H1 hall lo wr ul ws us :=
  ⟨let ⟨dx, m, e⟩ := h.obj; ⟨dx, m, k.ins e⟩, k.dK h.row n1, k.lst h.unt n2⟩
def spLInit (K : PySem.W.Frag) : Sp := fun vs H Q _ => ∃ (x dx : Addr) (hall : Addr), vs = [.ref x, .ref hall] ∧ H x = some (.ins (gA K "Lookout") dx []) ∧ ∀ (H' : Hp) (wr ul : Addr), (∀ H0, KQ K M0 H0 H → NN H0 x → KQ K M0 H0 H' ∧ NN H0 wr ∧ NN H0 ul) → LookA K H' hall x wr ul [] [] → Q .non H'
theorem d_Lookout_init_ok (T : Tx K mg base) : Df P w K mg base CX0 1 (mA K "Lookout" "__init__") (spLInit K) := by
  refine df0 T.F_Lookout_init sc_Lookout_init (fun _ _ _ _ _ _ us hl => match us, hl with | [_, _], _ => rfl) (fun vs H Q E ⟨_, _, _, h, _⟩ => by rw [h]; rfl) fun cd A outer s H vs Q E hr h => ?_
  obtain ⟨x, dx, hall, rfl, hx, q⟩ := h
  refine ⟨_, (pss_cons (ps_fld (pv 0) (pv 1) rfl)
    (pss_cons (ps_fld (pv 0) pe_dnewK rfl)
    (pss_cons (ps_fld (pv 0) pe_int rfl)
    (pss_cons (ps_fld (pv 0) (pe_lst pa_nil) rfl)
    (pss_one (ps_fld (pv 0) pe_int rfl)))))), ?_⟩
  refine ⟨_, rfl, _, rfl, x, _, dx, _, rfl, hx, T.cl_Lookout, T.na_Lookout_hall, show 0 < 1000 by decide, fun wr n1 => ?_⟩
  have xw : x ≠ wr := ne_of_none upd_same n1
  have hx1 : upd (upd H x (.ins (gA K "Lookout") dx (putF "hall" (.ref hall) []))) wr (.dK []) x = some (.ins (gA K "Lookout") dx (putF "hall" (.ref hall) [])) := by rw [upd_ne xw]; exact upd_same
  refine ⟨_, rfl, x, _, dx, _, rfl, hx1, T.cl_Lookout, T.na_Lookout_rows, show 1 < 1000 by decide, ?_⟩
  refine ⟨_, rfl, x, _, dx, _, rfl, upd_same, T.cl_Lookout, T.na_Lookout_begun, show 2 < 1000 by decide, sz0, fun ul n2 => ?_⟩
  have xu : x ≠ ul := ne_of_none upd_same n2
  have hx2 : ∀ {G : Hp} {o : HO}, upd (upd G x o) ul (.lst []) x = some o := fun {G o} => by rw [upd_ne xu]; exact upd_same
  refine ⟨_, rfl, x, _, dx, _, rfl, hx2, T.cl_Lookout, T.na_Lookout_untold, show 3 < 1000 by decide, ?_⟩
  refine ⟨_, rfl, x, _, dx, _, rfl, upd_same, T.cl_Lookout, T.na_Lookout_many_looked, show 4 < 1000 by decide, ?_⟩
  have wu : wr ≠ ul := ne_of_none (by rw [upd_ne (Ne.symm xw), upd_ne (Ne.symm xw)]; exact upd_same) n2
  refine q _ wr ul (fun H0 k nn => ?_) ⟨⟨dx, 0, upd_same⟩, ?_, ?_⟩
  · have k1 := k.mutI (C' := gA K "Lookout") (dx' := dx) (ys := putF "hall" (.ref hall) []) nn hx
    have a1 := k1.nn n1
    have k2 := ((k1.new n1 (o := .dK [])).mutI (C' := gA K "Lookout") (dx' := dx) (ys := putF "rows" (.ref wr) (putF "hall" (.ref hall) [])) nn hx1).mutI (C' := gA K "Lookout") (dx' := dx) (ys := putF "begun" (.int 0) (putF "rows" (.ref wr) (putF "hall" (.ref hall) []))) nn upd_same
    have a2 := k2.nn n2
    exact ⟨((k2.new n2 (o := .lst [])).mutI nn hx2).mutI nn upd_same, a1, a2⟩
  · rw [upd_ne (Ne.symm xw), upd_ne (Ne.symm xw), upd_ne wu, upd_ne (Ne.symm xw), upd_ne (Ne.symm xw)]
    exact upd_same
  · rw [upd_ne (Ne.symm xu), upd_ne (Ne.symm xu)]
    exact upd_same
end RS

/-! text D22 -/
set_option Elab.async false
set_option linter.all false
set_option maxRecDepth 100000
set_option maxHeartbeats 1000000
/-! Lookout: watch, watched, place_now, news. -/
namespace RS
open PySem PySem.Spec PyProof.Rows L2
theorem sc_Lookout_watch : FnScope ["self", "name", "known", "default"] ["self", "name"] (defScope s_Lookout_watch) := ⟨rfl, rfl, rfl, by decide +kernel, rfl, by decide +kernel, by decide +kernel⟩
theorem sc_Lookout_watched : FnScope ["self"] ["self"] (defScope s_Lookout_watched) := ⟨rfl, rfl, rfl, by decide +kernel, rfl, by decide +kernel, by decide +kernel⟩
theorem sc_Lookout_place_now : FnScope ["self"] ["self"] (defScope s_Lookout_place_now) := ⟨rfl, rfl, rfl, by decide +kernel, rfl, by decide +kernel, by decide +kernel⟩
theorem sc_Lookout_news : FnScope ["self", "told"] ["self"] (defScope s_Lookout_news) := ⟨rfl, rfl, rfl, by decide +kernel, rfl, by decide +kernel, by decide +kernel⟩
variable {P : Program} {w : World} {K : PySem.W.Frag} {mg : Str → Option Value} {base : Heap}
structure Apart (A : Ad) (wr ul : Addr) : Prop where
  w1 : ¬ MH A wr
  w2 : wr ≠ A.df
  u1 : ¬ MH A ul
def spLPlace (K : PySem.W.Frag) : Sp := fun vs H Q _ => ∃ (S : Str → Prop) (ds : List (Str × V)) (A : Ad) (g : Gh) (lo wr ul : Addr) (ws : List Str) (us : List V) (l : List Nat) (c p : Nat), vs = [.ref lo] ∧ LookA K H A.hall lo wr ul ws us ∧ HallA K H S ds A g ∧ g.sts = l ++ [c] ∧ g.sps[c]? = some p ∧ Q (.int p) H
theorem d_Lookout_place_now_ok (T : Tx K mg base) : Df P w K mg base CX0 3 (mA K "Lookout" "place_now") (spLPlace K) := by
  have h_Hall_now := d_Hall_now_ok (P := P) (w := w) T
  have h_Hall_place := d_Hall_place_ok (P := P) (w := w) T
  refine df0 T.F_Lookout_place_now sc_Lookout_place_now (fun _ _ _ _ _ _ us hl => match us, hl with | [_], _ => rfl) (fun vs H Q E ⟨_, _, _, _, _, _, _, _, _, _, _, _, h, _⟩ => by rw [h]; rfl) fun cd A outer s H vs Q E hr h => ?_
  obtain ⟨S, ds, A, g, lo, wr, ul, ws, us, l, c, p, rfl, L, Hl, hs, hp, q⟩ := h
  refine ⟨_, (pss_one (ps_ret (pe_m h_Hall_place (hr.mono (by decide)) T.cl_Hall T.me_Hall_place (pe_fld (pv 0) rfl) (pa_cons (pe_m0 h_Hall_now (hr.mono (by decide)) T.cl_Hall T.me_Hall_now (pe_fld (pv 0) rfl)) pa_nil)))), ?_⟩
  obtain ⟨dx, m, ho⟩ := L.obj
  obtain ⟨dh, hh⟩ := Hl.obj
  exact ⟨_, rfl, lo, _, dx, _, _, rfl, ho, T.cl_Lookout, T.na_Lookout_hall, rfl, A.hall, dh, _, rfl, hh, rfl, _, rfl, lo, _, dx, _, _, rfl, ho, T.cl_Lookout, T.na_Lookout_hall, rfl, A.hall, dh, _, rfl, hh, rfl, S, ds, A, g, l, c, rfl, Hl, hs, S, ds, A, g, c, p, rfl, Hl, hp, q⟩
theorem inV_str {n : Str} {ns : List Str} (h : n ∈ ns) : inV (.str n) (ns.map V.str) = true := by
  unfold inV
  rw [List.any_eq_true]
  exact ⟨.str n, List.mem_map.mpr ⟨n, h, rfl⟩, by simp [eqV]⟩
def spLWatch (K : PySem.W.Frag) : Sp := fun vs H Q _ => ∃ (S : Str → Prop) (ds : List (Str × V)) (A : Ad) (g : Gh) (lo wr ul : Addr) (ws : List Str) (us : List V) (n : Str), vs = [.ref lo, .str n] ∧ LookA K H A.hall lo wr ul ws us ∧ HallA K H S ds A g ∧ Apart A wr ul ∧ n ∈ ds.map (·.1) ∧ ds.length ≤ 100 ∧ ws.length ≤ 100 ∧
  ∀ H', KF K (Only wr) H H' → LookA K H' A.hall lo wr ul (ws ++ [n]) us → HallA K H' S ds A g → Q (.int ws.length) H'
theorem d_Lookout_watch_ok (T : Tx K mg base) : Df P w K mg base CX0 2 (mA K "Lookout" "watch") (spLWatch K) := by
  have h_Hall_settings := d_Hall_settings_ok (P := P) (w := w) T
  refine df0 T.F_Lookout_watch sc_Lookout_watch (fun _ _ _ _ _ _ us hl => match us, hl with | [_, _], _ => rfl) (fun vs H Q E ⟨_, _, _, _, _, _, _, _, _, _, h, _⟩ => by rw [h]; rfl) fun cd A outer s H vs Q E hr h => ?_
  obtain ⟨S, ds, A, g, lo, wr, ul, ws, us, n, rfl, L, Hl, Ap, hn, hl, hl2, q⟩ := h
  refine ⟨_, (pss_cons (ps_if (pt_cmpR op_notIn_seq (pv 1) (pe_lc rfl sc_Lookout_watch.nd (pi_list (pe_m0 h_Hall_settings (hr.mono (by decide)) T.cl_Hall T.me_Hall_settings (pe_fld (pv 0) rfl))) (blkOk_by (own := [("known", 2), ("default", 3)]) (by kernel_rfl)) (fun _ _ _ _ _ => (pg_tupK K 2 rfl (pgs_cons (pg_name (i := 2) sc_Lookout_watch.nd rfl (.inl rfl) (.inr rfl)) (pgs_cons (pg_name (i := 3) sc_Lookout_watch.nd rfl (.inl rfl) (.inr rfl)) pgs_nil)))) (fun _ _ _ _ _ => pts_nil) (fun _ _ _ _ _ => (pv 2))) rfl) (pss_one ps_never) pss_nil)
    (pss_cons (ps_dput (hu_of hr) (pe_fld (pv 0) rfl) (pe_fld (pv 0) rfl) (pv 1) rfl)
    (pss_cons (ps_fldaug (pv 0) pe_int in_add)
    (pss_one (ps_ret (pe_op op_sub (pe_fld (pv 0) rfl) pe_int)))))), ?_⟩
  obtain ⟨dx, m, ho⟩ := L.obj
  obtain ⟨dh, hh⟩ := Hl.obj
  refine ⟨_, rfl, _, rfl, lo, _, dx, _, _, rfl, ho, T.cl_Lookout, T.na_Lookout_hall, rfl, A.hall, dh, _, rfl, hh, rfl, S, ds, A, g, rfl, Hl, fun H1 l ts k1 hl1 hp1 => ?_⟩
  refine ⟨l, rfl, ⟨_, sqL_at hl1⟩, fun D nD => ?_⟩
  have hlen : ts.length = ds.length := Paired.length hp1
  refine lc_list (xs := ts.map V.ref) (fun i H' => KQ K M0 H1 H' ∧ H' D = some (.lst (((ds.map (·.1)).take i).map V.str))) ⟨Kp.refl.new nD, upd_same⟩ (fun i H' _ p => sqL_at (p.1.at_ hl1)) (fun i x H' hx p => ?_) fun H' p => ?_
  · obtain ⟨kp, hD⟩ := p
    rw [List.getElem?_map] at hx
    cases hi : ts[i]? with
    | none => rw [hi] at hx; cases hx
    | some t =>
      rw [hi] at hx
      cases hx
      obtain ⟨qd, hq, ht⟩ := LiI.paired_get hp1 hi
      have hil : i < ds.length := by rw [← hlen]; exact (List.getElem?_eq_some_iff.mp hi).1
      refine ⟨t, [.str qd.1, qd.2], rfl, sqT_at (kp.tup ht), rfl, _, _, rfl, _, _, rfl, rfl, rfl, ?_⟩
      refine ⟨_, rfl, _, hD, ?_, kp.mutL (.of nD) hD, ?_⟩
      · rw [List.length_map, List.length_take, List.length_map]
        exact sz_lt (by omega)
      · have e : (ds.map (·.1))[i]? = some qd.1 := by rw [List.getElem?_map, hq]; rfl
        rw [upd_same, List.take_add_one, e, List.map_append]
        rfl
  · obtain ⟨kp, hD⟩ := p
    have e : ts.length = (ds.map (·.1)).length := by rw [List.length_map]; exact hlen
    rw [List.length_map, e, List.take_length] at hD
    refine ⟨D, _, rfl, .inl (sqL_at hD), rfl, ?_, ?_⟩
    · rw [List.all_map]
      exact List.all_eq_true.mpr fun _ _ => rfl
    refine ⟨_, rfl, ?_⟩
    rw [if_pos rfl, inV_str hn]
    have k2 := k1.trans kp
    have L2 := L.kp k2 id id
    have Hl2 := Hl.k0 k2
    have ho2 := k2.ins ho
    refine ⟨_, rfl, _, rfl, lo, _, dx, _, _, rfl, ho2, T.cl_Lookout, T.na_Lookout_rows, rfl, _, rfl, lo, _, dx, _, _, rfl, ho2, T.cl_Lookout, T.na_Lookout_begun, rfl, wr, _, rfl, DPut.k (k := .inl (ws.length : Int)) L2.row (by rw [rowsK_len]; exact sz_lt (by omega)), ?_⟩
    rw [putK_new _ (rowsK_none ws), ← rowsK_snoc]
    have kW : KQ K (Only wr) H' (upd H' wr (.dK (rowsK (ws ++ [n])))) := Kp.refl.updD rfl L2.row
    have ho3 := kW.ins ho2
    have wl : lo ≠ wr := fun e => by rw [e, upd_same] at ho3; cases ho3
    refine ⟨_, rfl, lo, _, dx, _, _, rfl, ho3, T.cl_Lookout, T.na_Lookout_begun, rfl, _, _, rfl, rfl, dx, _, ho3, show 5 < 1000 by decide, ?_⟩
    have kL : KF K (Only wr) (upd H' wr (.dK (rowsK (ws ++ [n])))) _ := KF.wr (C' := gA K "Lookout") (dx' := dx) (fs' := lookF A.hall wr ul (ws.length + 1) m) ho3
    refine ⟨_, rfl, lo, _, dx, _, _, rfl, upd_same, T.cl_Lookout, T.na_Lookout_begun, rfl, _, _, rfl, rfl, ?_⟩
    show Q (.int ((ws.length : Int) + 1 - 1)) _
    rw [show ((ws.length : Int) + 1 - 1) = (ws.length : Int) by omega]
    have uw : ¬ Only wr ul := fun z => by have y := L2.unt; rw [show ul = wr from z, L2.row] at y; cases y
    have kA : KF K (Only wr) H (upd H' wr (.dK (rowsK (ws ++ [n])))) := (KF.of k2.m0).trans (KF.of kW)
    have hu4 : upd H' wr (.dK (rowsK (ws ++ [n]))) ul = some (.lst us) := kW.lst L2.unt uw
    have lu : ul ≠ lo := fun e => by rw [e, ho3] at hu4; cases hu4
    refine q _ (kA.trans kL) ⟨⟨dx, m, ?_⟩, by rw [upd_ne (Ne.symm wl)]; exact upd_same, by rw [upd_ne lu]; exact hu4⟩ (Hl.kf (kA.trans kL) fun b z e => ?_)
    · rw [List.length_append]
      exact upd_same
    · rw [show b = wr from z] at e
      exact e.elim Ap.w1 Ap.w2
def kr (z : Kr) : Prop := ∃ (i : Nat) (n : Str), z.2 = (.inl (i : Int), .str n)
def spLWatched (K : PySem.W.Frag) : Sp := fun vs H Q _ => ∃ (hall lo wr ul : Addr) (ws : List Str) (us : List V), vs = [.ref lo] ∧ LookA K H hall lo wr ul ws us ∧ ws.length < 60 ∧
  ∀ (H' : Hp) (l : Addr) (ps : List Kr), KQ K M0 H H' → H' l = some (.lst (ps.map fun z => V.ref z.1)) → (ps.map (·.2)).Perm (rowsK ws) → (∀ z ∈ ps, H' z.1 = some (.tup [kV z.2.1, z.2.2])) → Q (.ref l) H'
theorem rowsK_mem {ws : List Str} {e : Key × V} (h : e ∈ rowsK ws) : ∃ (i : Nat) (n : Str), e = (.inl (i : Int), .str n) ∧ ws[i]? = some n := by
  obtain ⟨q, hq, e⟩ := List.mem_map.mp h
  obtain ⟨x, i⟩ := q
  have z := List.mem_zipIdx hq
  refine ⟨i, x, e.symm, ?_⟩
  have y := z.2.2
  simp only [Nat.sub_zero] at y
  rw [List.getElem?_eq_getElem (by omega)]
  exact congrArg some y.symm
theorem d_Lookout_watched_ok (T : Tx K mg base) : Df P w K mg base CX0 1 (mA K "Lookout" "watched") (spLWatched K) := by
  refine df0 T.F_Lookout_watched sc_Lookout_watched (fun _ _ _ _ _ _ us hl => match us, hl with | [_], _ => rfl) (fun vs H Q E ⟨_, _, _, _, _, _, h, _⟩ => by rw [h]; rfl) fun cd A outer s H vs Q E hr h => ?_
  obtain ⟨hall, lo, wr, ul, ws, us, rfl, L, hl, q⟩ := h
  refine ⟨_, (pss_one (ps_ret (pe_callB (cr_sortK rfl) rfl T.b_sorted (by decide +kernel) (pa_cons (pe_bm0 PySem.F.plainAttrs_dict PySem.F.slot_dict_items PySem.F.type_dict_items mt_itemsK (pe_fld (pv 0) rfl)) pa_nil)))), ?_⟩
  obtain ⟨dx, m, ho⟩ := L.obj
  refine ⟨_, rfl, lo, _, dx, _, _, rfl, ho, T.cl_Lookout, T.na_Lookout_rows, rfl, tyd L.row, wr, _, rfl, rfl, L.row, fun p np => ?_⟩
  have k1 : KQ K M0 H (upd H p (DX.itemsO p wr)) := Kp.refl.new np
  refine ⟨p, wr, rowsK ws, fun k => match k with | .inl i => i | .inr _ => 0, rfl, upd_same, k1.atD L.row, by rw [rowsK_len]; omega, .inl fun k hk => ?_, fun e he => ?_, fun e he f hf => ?_, fun H' l ps ext perm _ _ _ hl hps => q H' l ps (k1.ext ext) hl perm hps⟩
  · obtain ⟨e, he, rfl⟩ := List.mem_map.mp hk
    obtain ⟨i, n, rfl, _⟩ := rowsK_mem he
    exact ⟨_, rfl⟩
  · obtain ⟨i, n, rfl, _⟩ := rowsK_mem he
    exact .inl ⟨n, rfl⟩
  · obtain ⟨i, n, rfl, _⟩ := rowsK_mem he
    obtain ⟨j, m, rfl, _⟩ := rowsK_mem hf
    rfl
def spLNews (K : PySem.W.Frag) : Sp := fun vs H Q _ => ∃ (S : Str → Prop) (ds : List (Str × V)) (A : Ad) (g : Gh) (lo wr ul : Addr) (ws : List Str) (us : List V), vs = [.ref lo] ∧ LookA K H A.hall lo wr ul ws us ∧ HallA K H S ds A g ∧
  ∀ (H' : Hp) (u2 : Addr), H u2 = none → KF K M0 H H' → LookA K H' A.hall lo wr u2 ws [] → HallA K H' S ds A g → Q (.ref ul) H'
theorem d_Lookout_news_ok (T : Tx K mg base) : Df P w K mg base CX0 1 (mA K "Lookout" "news") (spLNews K) := by
  refine df0 T.F_Lookout_news sc_Lookout_news (fun _ _ _ _ _ _ us hl => match us, hl with | [_], _ => rfl) (fun vs H Q E ⟨_, _, _, _, _, _, _, _, _, h, _⟩ => by rw [h]; rfl) fun cd A outer s H vs Q E hr h => ?_
  obtain ⟨S, ds, A, g, lo, wr, ul, ws, us, rfl, L, Hl, q⟩ := h
  refine ⟨_, (pss_cons (ps_set (i := 1) sc_Lookout_news.nd rfl (.inl rfl) (pe_fld (pv 0) rfl))
    (pss_cons (ps_fld (pv 0) (pe_lst pa_nil) rfl)
    (pss_one (ps_ret (pv 1))))), ?_⟩
  obtain ⟨dx, m, ho⟩ := L.obj
  refine ⟨_, rfl, lo, _, dx, _, _, rfl, ho, T.cl_Lookout, T.na_Lookout_untold, rfl, sz0, fun u2 nu => ?_⟩
  have k1 : KQ K M0 H (upd H u2 (.lst [])) := Kp.refl.new nu
  have ho1 := k1.ins ho
  refine ⟨_, rfl, lo, _, dx, _, rfl, ho1, T.cl_Lookout, T.na_Lookout_untold, show 5 < 1000 by decide, ?_⟩
  have kL : KF K M0 (upd H u2 (.lst [])) _ := KF.wr (C' := gA K "Lookout") (dx' := dx) (fs' := lookF A.hall wr u2 ws.length m) ho1
  have kA := (KF.of k1).trans kL
  have lu : u2 ≠ lo := fun e => by rw [e, ho] at nu; cases nu
  exact ⟨_, rfl, q _ u2 nu kA ⟨⟨dx, m, upd_same⟩, kA.dK L.row id, by rw [upd_ne lu]; exact upd_same⟩ (Hl.kf kA fun _ z _ => z)⟩
end RS

/-! text D23 -/
set_option Elab.async false
set_option linter.all false
set_option maxRecDepth 100000
set_option maxHeartbeats 1000000
/-! Lookout: hear. -/
namespace RS
open PySem PySem.Spec PyProof.Rows L2
theorem sc_Lookout_hear : FnScope ["self", "ahead", "world", "roads", "here", "names", "looked_at", "name", "old", "new", "some", "watcher", "known"] ["self", "ahead"] (defScope s_Lookout_hear) := ⟨rfl, rfl, rfl, by decide +kernel, rfl, by decide +kernel, by decide +kernel⟩
variable {P : Program} {w : World} {K : PySem.W.Frag} {mg : Str → Option Value} {base : Heap}
theorem rowsK_one {n : Str} : ∀ {ws : List Str} {i : Nat} (k : Nat), ws.Nodup → ws[i]? = some n → ((ws.zipIdx k).map fun p => ((.inl (p.2 : Int) : Key), V.str p.1)).filter (fun e => decide (e.2 = .str n)) = [(.inl ((k + i : Nat) : Int), .str n)]
  | [], i, k, _, h => by simp at h
  | m :: r, i, k, nd, h => by
    rw [List.nodup_cons] at nd
    rw [List.zipIdx_cons, List.map_cons]
    cases i with
    | zero =>
      have e : m = n := by injection h
      subst e
      rw [List.filter_cons_of_pos (by simp), List.filter_eq_nil_iff.mpr]
      · rfl
      · intro e he z
        obtain ⟨q, hq, rfl⟩ := List.mem_map.mp he
        have z2 := of_decide_eq_true z
        injection z2 with z2
        have y := List.mem_zipIdx hq
        apply nd.1
        rw [← z2, y.2.2]
        exact List.getElem_mem _
    | succ j =>
      have hj : r[j]? = some n := h
      have ne : m ≠ n := fun e => nd.1 (by rw [e]; exact List.mem_of_getElem? hj)
      rw [List.filter_cons_of_neg (by simpa using ne), rowsK_one (k + 1) nd.2 hj, show k + 1 + j = k + (j + 1) by omega]
def NRow (H : Hp) (ws : List Str) (c : Nat) (tA tB : RS.T) (r : Addr) (n : Str) : Prop := ∃ i : Nat, ws[i]? = some n ∧ H r = some (.tup [.int i, .int c, .str n, (val tA.ps n).getD .non, (val tB.ps n).getD .non])
theorem NRow.kf {H H1 : Hp} {ws : List Str} {c : Nat} {tA tB : RS.T} {M : Addr → Prop} (k : KF K M H H1) : ∀ {rs : List Addr} {ns : List Str}, Paired (NRow H ws c tA tB) rs ns → Paired (NRow H1 ws c tA tB) rs ns
  | [], [], _ => .nil
  | _ :: _, _ :: _, .cons ⟨i, h1, h2⟩ t => .cons ⟨i, h1, k.tup h2⟩ (NRow.kf k t)
def spLHear (K : PySem.W.Frag) : Sp := fun vs H Q _ => ∃ (S : Str → Prop) (ds : List (Str × V)) (A : Ad) (g : Gh) (lo wr ul : Addr) (ws : List Str) (us : List V) (l : List Nat) (c p pa : Nat) (gp ga : SG), vs = [.ref lo, .int pa] ∧ LookA K H A.hall lo wr ul ws us ∧ HallA K H S ds A g ∧ Apart A wr ul ∧ g.sts = l ++ [c] ∧ g.sps[c]? = some p ∧ g.Gs[p]? = some gp ∧ g.Gs[pa]? = some ga ∧ SOk S ∧ ws.Nodup ∧ (∀ n, S n → n ∈ ws) ∧ ws.length < 60 ∧ us.length ≤ 1000 ∧ LamX.Tabs (TT K) H ∧
  ∀ (H' : Hp) (rs : List Addr) (ns : List Str) (k : Int), KQ K (Only ul) H H' → H' ul = some (.lst (us ++ rs.map V.ref)) → sortedS ns = true → (∀ n, cnt n ns = unl ga.tr.ps gp.tr.ps n) → Paired (NRow H' ws c ga.tr gp.tr) rs ns → Q (.int k) H'
theorem d_Lookout_hear_ok (T : Tx K mg base) : Df P w K mg base CX0 8 (mA K "Lookout" "hear") (spLHear K) := by
  have h_Hall_now := d_Hall_now_ok (P := P) (w := w) T
  have h_Hall_roads := d_Hall_roads_ok (P := P) (w := w) T
  have h_Lookout_place_now := d_Lookout_place_now_ok (P := P) (w := w) T
  have h_Lookout_watched := d_Lookout_watched_ok (P := P) (w := w) T
  have h_differing := d_differing_ok (P := P) (w := w) T
  have h_Roads_store := d_Roads_store_ok (P := P) (w := w) T
  have h_Roads_table := d_Roads_table_ok (P := P) (w := w) T
  have h_Roads_looked := d_Roads_looked_ok (P := P) (w := w) T
  refine df0 T.F_Lookout_hear sc_Lookout_hear (fun _ _ _ _ _ _ us hl => match us, hl with | [_, _], _ => rfl) (fun vs H Q E ⟨_, _, _, _, _, _, _, _, _, _, _, _, _, _, _, h, _⟩ => by rw [h]; rfl) fun cd A outer s H vs Q E hr h => ?_
  obtain ⟨S, ds, A, g, lo, wr, ul, ws, us, l, c, p, pa, gp, ga, rfl, L, Hl, Ap, hs, hp, hg, hga, hSO, hnd, hall, hwl, hul, hT, q⟩ := h
  refine ⟨_, (pss_cons (ps_asg (pe_tup (pa_cons (pe_m0 h_Hall_now (hr.mono (by decide)) T.cl_Hall T.me_Hall_now (pe_fld (pv 0) rfl)) (pa_cons (pe_m0 h_Hall_roads (hr.mono (by decide)) T.cl_Hall T.me_Hall_roads (pe_fld (pv 0) rfl)) (pa_cons (pe_m0 h_Lookout_place_now (hr.mono (by decide)) T.cl_Lookout T.me_Lookout_place_now (pv 0)) pa_nil)))) (pg_tup rfl (pgs_cons (pg_name (i := 2) sc_Lookout_hear.nd rfl (.inr rfl)) (pgs_cons (pg_name (i := 3) sc_Lookout_hear.nd rfl (.inl rfl)) (pgs_cons (pg_name (i := 4) sc_Lookout_hear.nd rfl (.inl rfl)) pgs_nil)))))
    (pss_cons (ps_asg (pe_c h_differing (hr.mono (by decide)) T.g_differing (pa_cons (pe_m0 h_Roads_store (hr.mono (by decide)) T.cl_Roads T.me_Roads_store (pv 3)) (pa_cons (pe_m h_Roads_table (hr.mono (by decide)) T.cl_Roads T.me_Roads_table (pv 3) (pa_cons (pv 1) pa_nil)) (pa_cons (pe_m h_Roads_table (hr.mono (by decide)) T.cl_Roads T.me_Roads_table (pv 3) (pa_cons (pv 4) pa_nil)) pa_nil)))) (pg_tup rfl (pgs_cons (pg_name (i := 5) sc_Lookout_hear.nd rfl (.inl rfl)) (pgs_cons (pg_name (i := 6) sc_Lookout_hear.nd rfl (.inl rfl)) pgs_nil))))
    (pss_cons (ps_for PassesOwn.never rfl (pi_list (pv 5)) (pg_name (i := 7) sc_Lookout_hear.nd rfl (.inr rfl)) (pss_cons (ps_asg (pe_tup (pa_cons (pe_m h_Roads_looked (hr.mono (by decide)) T.cl_Roads T.me_Roads_looked (pv 3) (pa_cons (pv 1) (pa_cons (pv 7) pa_nil))) (pa_cons (pe_m h_Roads_looked (hr.mono (by decide)) T.cl_Roads T.me_Roads_looked (pv 3) (pa_cons (pv 4) (pa_cons (pv 7) pa_nil))) pa_nil))) (pg_tup rfl (pgs_cons (pg_name (i := 8) sc_Lookout_hear.nd rfl (.inr rfl)) (pgs_cons (pg_name (i := 9) sc_Lookout_hear.nd rfl (.inr rfl)) pgs_nil))))
    (pss_cons (ps_setLc (i := 10) rfl sc_Lookout_hear.nd rfl rfl rfl (pi_list (pe_m0 h_Lookout_watched (hr.mono (by decide)) T.cl_Lookout T.me_Lookout_watched (pv 0))) (blkOk_by (own := [("watcher", 11), ("known", 12)]) (by kernel_rfl)) (fun _ _ _ _ _ => (pg_tupK K 2 rfl (pgs_cons (pg_name (i := 11) sc_Lookout_hear.nd rfl (.inl rfl) (.inr rfl)) (pgs_cons (pg_name (i := 12) sc_Lookout_hear.nd rfl (.inl rfl) (.inr rfl)) pgs_nil)))) (fun _ _ _ _ _ => (pts_one (pt_cmpR op_eq (pv 12) (pv 7) rfl))) (fun _ _ _ _ _ => (pv 11)))
    (pss_one (ps_expr (pe_bm PySem.F.plainAttrs_list PySem.F.slot_list_extend PySem.F.type_list_extend mt_ext2 (pe_fld (pv 0) rfl) (pa_cons (pe_lc rfl sc_Lookout_hear.nd (pi_list (pv 10)) (blkOk_by (own := [("watcher", 11)]) (by kernel_rfl)) (fun _ _ _ _ _ => (pg_name (i := 11) sc_Lookout_hear.nd rfl (.inl rfl) (.inr rfl))) (fun _ _ _ _ _ => pts_nil) (fun _ _ _ _ _ => (pe_tup (pa_cons (pv 11) (pa_cons (pv 2) (pa_cons (pv 7) (pa_cons (pv 8) (pa_cons (pv 9) pa_nil)))))))) pa_nil)))))))
    (pss_one (ps_ret (pv 6)))))), ?_⟩
  obtain ⟨dx, m, ho⟩ := L.obj
  obtain ⟨dh, hh⟩ := Hl.obj
  obtain ⟨dr, hro⟩ := Hl.roa.obj
  refine ⟨_, rfl, lo, _, dx, _, _, rfl, ho, T.cl_Lookout, T.na_Lookout_hall, rfl, A.hall, dh, _, rfl, hh, rfl, S, ds, A, g, l, c, rfl, Hl, hs, ?_⟩
  refine ⟨_, rfl, lo, _, dx, _, _, rfl, ho, T.cl_Lookout, T.na_Lookout_hall, rfl, A.hall, dh, _, rfl, hh, rfl, S, ds, A, g, rfl, Hl, ?_⟩
  refine ⟨_, rfl, lo, dx, _, rfl, ho, rfl, S, ds, A, g, lo, wr, ul, ws, us, l, c, p, rfl, L, Hl, hs, hp, sz3, fun t0 nt0 => ?_⟩
  refine ⟨t0, [.int c, .ref A.r, .int p], rfl, sqT_new, rfl, _, _, rfl, _, _, rfl, _, _, rfl, rfl, ?_⟩
  have k0 : KQ K M0 H (upd H t0 (.tup [.int c, .ref A.r, .int p])) := Kp.refl.new nt0
  have hT0 := k0.t hT
  have q0 : ∀ (H' : Hp) (rs : List Addr) (ns : List Str) (k : Int), KQ K (Only ul) (upd H t0 (.tup [.int c, .ref A.r, .int p])) H' → H' ul = some (.lst (us ++ rs.map V.ref)) → sortedS ns = true → (∀ n, cnt n ns = unl ga.tr.ps gp.tr.ps n) → Paired (NRow H' ws c ga.tr gp.tr) rs ns → Q (.int k) H' := fun H' rs ns k kk => q H' rs ns k (k0.m0.trans kk)
  have L0 := L.kp k0 id id
  have Hl0 := Hl.k0 k0
  generalize upd H t0 (.tup [.int c, .ref A.r, .int p]) = G at k0 hT0 q0 L0 Hl0 ⊢
  clear q L Hl hT ho hh hro dx dh dr
  obtain ⟨dx, m, ho⟩ := L0.obj
  obtain ⟨dh, hh⟩ := Hl0.obj
  obtain ⟨dr, hro⟩ := Hl0.roa.obj
  refine ⟨_, rfl, A.r, dr, _, rfl, hro, rfl, A.r, _, _, rfl, ⟨dr, hro⟩, ?_⟩
  obtain ⟨_, _, _, hRa, hta⟩ := Hl0.roa.each pa ga hga
  obtain ⟨_, _, _, hRp, htp⟩ := Hl0.roa.each p gp hg
  have wa := Hl0.gok.wf pa ga hga
  have wp := Hl0.gok.wf p gp hg
  refine ⟨_, rfl, A.r, dr, _, rfl, hro, rfl, _, rfl, A.r, S, pa, ga, rfl, ⟨_, _, _, _, _, _, _, _, _, Hl0.roa, Hl0.gok, hga⟩, ?_⟩
  refine ⟨_, rfl, A.r, dr, _, rfl, hro, rfl, _, rfl, A.r, S, p, gp, rfl, ⟨_, _, _, _, _, _, _, _, _, Hl0.roa, Hl0.gok, hg⟩, ?_⟩
  refine ⟨A.sto, A.nod, A.rows, A.told, g.as, g.tk, ga.tb, gp.tb, ga.tr, gp.tr, S, rfl, Hl0.roa.sto, hta, htp, hRa, hRp, wa, wp, hSO.few, hT0, fun H1 pt nl ns k k1 nn hpt hnl srt hc => ?_⟩
  refine ⟨pt, [.ref nl, .int k], rfl, sqT_at hpt, rfl, _, _, rfl, _, _, rfl, rfl, ?_⟩
  refine ⟨_, rfl, nl, rfl, ⟨_, sqL_at hnl⟩, ?_⟩
  have nlu : nl ≠ ul := nn_ne L0.unt nn
  have hns : ns.length ≤ 20 := few_names hSO.few wa wp fun n => by rw [hc n]; exact Nat.le_refl _
  have L1 := L0.kp k1 id id
  have Hl1 := Hl0.k0 k1
  have uldf : A.df ≠ ul := Hl0.dft L0.unt
  have wul : wr ≠ ul := fun e => by have z := L0.row; rw [e, L0.unt] at z; cases z
  refine for_list (xs := ns.map V.str) (fun i σ H' => ∃ (z1 z2 z3 z4 z5 z6 : Option V) (rs : List Addr), σ = [some (.ref lo), some (.int pa), some (.int c), some (.ref A.r), some (.int p), some (.ref nl), some (.int k), z1, z2, z3, z4, z5, z6] ∧ KQ K (Only ul) H1 H' ∧ H' ul = some (.lst (us ++ rs.map V.ref)) ∧ Paired (NRow H' ws c ga.tr gp.tr) rs (ns.take i))
    ⟨_, _, _, _, _, _, [], rfl, Kp.refl, by rw [List.map_nil, List.append_nil]; exact L1.unt, .nil⟩ (fun i σ H' _ p => by obtain ⟨_, _, _, _, _, _, _, _, kp, _⟩ := p; exact sqL_at (kp.lst hnl nlu)) (fun i x σ H' hx p => ?_) fun σ H' p => ?_
  · obtain ⟨z1, z2, z3, z4, z5, z6, rs, rfl, kp, hu, hrs⟩ := p
    rw [List.getElem?_map] at hx
    cases hi : ns[i]? with
    | none => rw [hi] at hx; cases hx
    | some n =>
      rw [hi] at hx
      cases hx
      have hSn : S n := by
        have z := unl_mem (ps := ga.tr.ps) (qs := gp.tr.ps) (n := n) (by rw [← hc n]; exact cnt_mem.mpr (List.mem_of_getElem? hi))
        rcases z with z | z
        · obtain ⟨q, hq, e⟩ := List.mem_map.mp z
          rw [← e]; exact (wa.each q hq).1
        · obtain ⟨q, hq, e⟩ := List.mem_map.mp z
          rw [← e]; exact (wp.each q hq).1
      have gn := hSO.good n hSn
      have Hl' := Hl1.kf (KF.of kp) fun b z e => by rw [show b = ul from z] at e; exact e.elim Ap.u1 (fun y => uldf y.symm)
      obtain ⟨dr', hro'⟩ := Hl'.roa.obj
      have L' := L1.unt
      obtain ⟨dx1, m1, ho1⟩ := L1.obj
      have ho' := kp.ins ho1
      refine ⟨_, rfl, A.r, dr', _, rfl, hro', rfl, _, rfl, _, rfl, A.r, S, pa, ga, n, rfl, ⟨_, _, _, _, _, _, _, _, _, Hl'.roa, Hl'.gok, hga⟩, gn, fun H2 k2 => ?_⟩
      have Hl2 := Hl'.k0 k2
      obtain ⟨dr2, hro2⟩ := Hl2.roa.obj
      refine ⟨_, rfl, A.r, dr2, _, rfl, hro2, rfl, _, rfl, _, rfl, A.r, S, p, gp, n, rfl, ⟨_, _, _, _, _, _, _, _, _, Hl2.roa, Hl2.gok, hg⟩, gn, fun H3 k3 => ?_⟩
      refine ⟨sz2, fun t1 nt1 => ⟨t1, [(val ga.tr.ps n).getD .non, (val gp.tr.ps n).getD .non], rfl, sqT_new, rfl, _, _, rfl, _, _, rfl, rfl, ?_⟩⟩
      have k4 : KQ K M0 H' _ := (k2.trans k3).new nt1 (o := .tup [(val ga.tr.ps n).getD .non, (val gp.tr.ps n).getD .non])
      have hwr' : H' wr = some (.dK (rowsK ws)) := kp.dK L1.row wul
      have L4 : LookA K _ A.hall lo wr ul ws (us ++ rs.map V.ref) := ⟨⟨dx1, m1, k4.ins ho'⟩, k4.atD hwr', k4.at_ hu⟩
      refine ⟨_, rfl, lo, dx1, _, rfl, k4.ins ho', rfl, A.hall, lo, wr, ul, ws, _, rfl, L4, hwl, fun H5 wl ps k5 hwl5 perm hps => ?_⟩
      refine ⟨wl, rfl, ⟨_, sqL_at hwl5⟩, fun D nD => ?_⟩
      have k45 := k4.trans k5
      refine lc_list (xs := ps.map fun z => V.ref z.1) (fun i H' => KQ K M0 H5 H' ∧ H' D = some (.lst (((ps.take i).filter (fun z => decide (z.2.2 = .str n))).map fun z => kV z.2.1))) ⟨Kp.refl.new nD, upd_same⟩ (fun i H' _ p => sqL_at (p.1.at_ hwl5)) (fun j x H6 hx p => ?_) fun H6 p => ?_
      · obtain ⟨kq, hD⟩ := p
        rw [List.getElem?_map] at hx
        cases hj : ps[j]? with
        | none => rw [hj] at hx; cases hx
        | some z =>
          rw [hj] at hx
          cases hx
          have hz := hps z (List.mem_of_getElem? hj)
          obtain ⟨wi, mm, ez, _⟩ := rowsK_mem (perm.mem_iff.mp (List.mem_map.mpr ⟨z, List.mem_of_getElem? hj, rfl⟩))
          obtain ⟨za, zk, zv⟩ := z
          injection ez with ek ev
          subst ek ev
          refine ⟨za, [.int (wi : Nat), .str mm], rfl, sqT_at (kq.tup hz), rfl, _, _, rfl, _, _, rfl, rfl, rfl, ?_⟩
          refine ⟨_, rfl, _, rfl, rfl, _, rfl, ?_⟩
          rw [take_filter _ hj]
          by_cases e : mm = n
          · rw [dec_strT e]
            rw [if_pos rfl]
            refine ⟨_, rfl, _, hD, ?_, kq.mutL (.of nD) hD, by rw [upd_same, List.map_append]; rfl⟩
            rw [List.length_map]
            have pl := perm.length_eq
            rw [List.length_map, rowsK_len] at pl
            exact sz_lt (Nat.lt_of_le_of_lt (filter_le _ _ _) (by omega))
          · rw [dec_strF e]
            rw [if_neg Bool.false_ne_true, List.append_nil]
            exact ⟨kq, hD⟩
      · obtain ⟨kq, hD⟩ := p
        rw [List.length_map, List.take_length] at hD
        obtain ⟨wi, hwi⟩ := List.getElem?_of_mem (hall n hSn)
        have one : (ps.filter (fun z => decide (z.2.2 = .str n))).map (fun z => kV z.2.1) = [.int (wi : Nat)] := by
          have y := (perm.filter fun e => decide (e.2 = .str n))
          have y2 : (rowsK ws).filter (fun e => decide (e.2 = .str n)) = [(.inl ((0 + wi : Nat) : Int), .str n)] := rowsK_one 0 hnd hwi
          rw [y2, List.filter_map] at y
          have y3 := List.perm_singleton.mp y
          have y4 : ((ps.filter (fun z => decide (z.2.2 = .str n))).map (·.2)).map (fun e => kV e.1) = [.int (wi : Nat)] := by
            have y5 : (ps.filter (fun z => decide (z.2.2 = .str n))).map (·.2) = [(.inl ((0 + wi : Nat) : Int), .str n)] := y3
            rw [y5, Nat.zero_add]
            rfl
          rw [List.map_map] at y4
          exact y4
        rw [one] at hD
        have k46 := k45.trans kq
        have ho6 := k46.ins ho'
        have hu6 := k46.at_ hu
        refine ⟨_, rfl, lo, _, dx1, _, _, rfl, ho6, T.cl_Lookout, T.na_Lookout_untold, rfl, tyl hu6, _, rfl, D, rfl, ⟨_, sqL_at hD⟩, fun D2 nD2 => ?_⟩
        refine lc_list (xs := [V.int wi]) (fun j H7 => KQ K M0 H6 H7 ∧ ((j = 0 ∧ H7 D2 = some (.lst [])) ∨ (∃ r, j = 1 ∧ H7 D2 = some (.lst [.ref r]) ∧ H7 r = some (.tup [.int wi, .int c, .str n, (val ga.tr.ps n).getD .non, (val gp.tr.ps n).getD .non])))) ⟨Kp.refl.new nD2, .inl ⟨rfl, upd_same⟩⟩ (fun j H7 _ p => sqL_at (p.1.at_ hD)) (fun j x H7 hx p => ?_) fun H7 p => ?_
        · obtain ⟨kr7, hp7⟩ := p
          have hj : j = 0 := by
            rcases Nat.eq_zero_or_pos j with h | h
            · exact h
            · rw [List.getElem?_eq_none (by show 1 ≤ j; omega)] at hx; cases hx
          subst hj
          injection hx with hx
          subst hx
          rcases hp7 with ⟨_, hD7⟩ | ⟨r, j1, _⟩
          · refine ⟨rfl, _, rfl, _, rfl, _, rfl, _, rfl, _, rfl, sz5, fun r nr => ?_⟩
            have rD : D2 ≠ r := ne_of_none hD7 nr
            exact ⟨_, by rw [upd_ne rD]; exact hD7, by decide, (kr7.new nr).mutL (.of nD2) (by rw [upd_ne rD]; exact hD7),   .inr ⟨r, rfl, upd_same, by rw [upd_ne (Ne.symm rD)]; exact upd_same⟩⟩
          · cases j1
        · obtain ⟨kr7, hp7⟩ := p
          rcases hp7 with ⟨z, _⟩ | ⟨r, _, hD7, hr7⟩
          · exact absurd z (show ¬ (1 = 0) by decide)
          have k47 := k46.trans kr7
          have hu7 := k47.at_ hu
          have hlr : rs.length ≤ 20 := by
            have z := Paired.length hrs
            rw [List.length_take] at z
            omega
          refine .inl ⟨ul, D2, _, _, rfl, rfl, hu7, hD7, by rw [List.length_append, List.length_map]; exact sz_le (by show _ + 1 ≤ _; omega), ?_⟩
          have kU : KQ K (Only ul) H7 (upd H7 ul (.lst ((us ++ rs.map V.ref) ++ [.ref r]))) := Kp.refl.updL rfl hu7
          refine ⟨_, _, _, _, _, _, rs ++ [r], rfl, (kp.trans k47.m0).trans kU, by rw [upd_same, List.map_append, List.append_assoc]; rfl, ?_⟩
          rw [List.take_add_one, hi, Option.toList_some]
          exact (NRow.kf (KF.of (k47.m0.trans kU)) hrs).snoc ⟨wi, hwi, kU.tup hr7⟩
  · obtain ⟨z1, z2, z3, z4, z5, z6, rs, rfl, kp, hu, hrs⟩ := p
    rw [List.length_map, List.take_length] at hrs
    exact ⟨_, rfl, q0 H' rs ns k (k1.m0.trans kp) hu srt hc hrs⟩
end RS

/-! text D24 -/
set_option Elab.async false
set_option linter.all false
set_option maxRecDepth 100000
set_option maxHeartbeats 1000000
/-! Lookout: set_to, back, enter, leave. -/
namespace RS
open PySem PySem.Spec PyProof.Rows L2
theorem sc_Lookout_set_to : FnScope ["self", "name", "value", "ahead", "token"] ["self", "name", "value"] (defScope s_Lookout_set_to) := ⟨rfl, rfl, rfl, by decide +kernel, rfl, by decide +kernel, by decide +kernel⟩
theorem sc_Lookout_back : FnScope ["self", "token", "ahead"] ["self", "token"] (defScope s_Lookout_back) := ⟨rfl, rfl, rfl, by decide +kernel, rfl, by decide +kernel, by decide +kernel⟩
theorem sc_Lookout_enter : FnScope ["self", "world", "ahead"] ["self", "world"] (defScope s_Lookout_enter) := ⟨rfl, rfl, rfl, by decide +kernel, rfl, by decide +kernel, by decide +kernel⟩
theorem sc_Lookout_leave : FnScope ["self", "ahead"] ["self"] (defScope s_Lookout_leave) := ⟨rfl, rfl, rfl, by decide +kernel, rfl, by decide +kernel, by decide +kernel⟩
variable {P : Program} {w : World} {K : PySem.W.Frag} {mg : Str → Option Value} {base : Heap}
def ML (A : Ad) (ul : Addr) : Addr → Prop := fun b => MH A b ∨ b = ul
/-- what a deed finds -/
structure LPre (K : PySem.W.Frag) (H : Hp) (S : Str → Prop) (ds : List (Str × V)) (A : Ad) (g : Gh) (k : Nat) (lo wr ul : Addr) (ws : List Str) (us : List V) (l : List Nat) (c p : Nat) (gp : SG) : Prop where
  L : LookA K H A.hall lo wr ul ws us
  Hl : HallA K H S ds A g
  Ap : Apart A wr ul
  hs : g.sts = l ++ [c]
  hp : g.sps[c]? = some p
  hg : g.Gs[p]? = some gp
  B : Bud g k
  hk : k < 500
  SO : SOk S
  nd : ws.Nodup
  all : ∀ n, S n → n ∈ ws
  wl : ws.length < 60
  ul' : us.length ≤ 1000
  tabs : LamX.Tabs (TT K) H
/-- what it leaves -/
def LOut (K : PySem.W.Frag) (H : Hp) (Q : VK) (S : Str → Prop) (ds : List (Str × V)) (A : Ad) (k : Nat) (lo wr ul : Addr) (ws : List Str) (us : List V) (ta : RS.T) : Prop := ∀ (H' : Hp) (g' : Gh) (rs : List Addr) (ns : List Str) (l' : List Nat) (c' p' : Nat) (gp' : SG), KF K (ML A ul) H H' → LookA K H' A.hall lo wr ul ws (us ++ rs.map V.ref) → HallA K H' S ds A g' → Bud g' (k + 1) →
  g'.sts = l' ++ [c'] → g'.sps[c']? = some p' → g'.Gs[p']? = some gp' → sortedS ns = true → (∀ n, cnt n ns = unl ta.ps gp'.tr.ps n) → Paired (NRow H' ws c' ta gp'.tr) rs ns → ∀ v, Q v H'
theorem HallA.ulM {H H1 : Hp} {S : Str → Prop} {ds : List (Str × V)} {A : Ad} {g : Gh} {ul wr : Addr} {us : List V} (h : HallA K H S ds A g) (Ap : Apart A wr ul) (e : H ul = some (.lst us)) (k : KF K (Only ul) H H1) : HallA K H1 S ds A g :=
  h.kf k fun b z y => by
    rw [show b = ul from z] at y
    exact y.elim Ap.u1 fun y => h.dft e y.symm
def spLSet (K : PySem.W.Frag) : Sp := fun vs H Q E => ∃ (S : Str → Prop) (ds : List (Str × V)) (A : Ad) (g : Gh) (k : Nat) (lo wr ul : Addr) (ws : List Str) (us : List V) (l : List Nat) (c p : Nat) (gp : SG) (n : Str) (v : V), vs = [.ref lo, .str n, v] ∧ LPre K H S ds A g k lo wr ul ws us l c p gp ∧ S n ∧ n ∈ ds.map (·.1) ∧ isVal v = true ∧ LOut K H Q S ds A k lo wr ul ws us gp.tr
theorem d_Lookout_set_to_ok (T : Tx K mg base) : Df P w K mg base CX0 16 (mA K "Lookout" "set_to") (spLSet K) := by
  have h_Lookout_place_now := d_Lookout_place_now_ok (P := P) (w := w) T
  have h_Hall_set_to := d_Hall_set_to_ok (P := P) (w := w) T
  have h_Lookout_hear := d_Lookout_hear_ok (P := P) (w := w) T
  refine df0 T.F_Lookout_set_to sc_Lookout_set_to (fun _ _ _ _ _ _ us hl => match us, hl with | [_, _, _], _ => rfl) (fun vs H Q E ⟨_, _, _, _, _, _, _, _, _, _, _, _, _, _, _, _, h, _⟩ => by rw [h]; rfl) fun cd A outer s H vs Q E hr h => ?_
  obtain ⟨S, ds, A, g, k, lo, wr, ul, ws, us, l, c, p, gp, n, v, rfl, X, hSn, hn, hv, q⟩ := h
  obtain ⟨L, Hl, Ap, hs, hp, hg, B, hk, hSO, hnd, hall, hwl, hul, hT⟩ := X
  refine ⟨_, (pss_cons (ps_set (i := 3) sc_Lookout_set_to.nd rfl (.inl rfl) (pe_m0 h_Lookout_place_now (hr.mono (by decide)) T.cl_Lookout T.me_Lookout_place_now (pv 0)))
    (pss_cons (ps_set (i := 4) sc_Lookout_set_to.nd rfl (.inl rfl) (pe_m h_Hall_set_to (hr.mono (by decide)) T.cl_Hall T.me_Hall_set_to (pe_fld (pv 0) rfl) (pa_cons (pv 1) (pa_cons (pv 2) pa_nil))))
    (pss_cons (ps_expr (pe_m h_Lookout_hear (hr.mono (by decide)) T.cl_Lookout T.me_Lookout_hear (pv 0) (pa_cons (pv 3) pa_nil)))
    (pss_one (ps_ret (pv 4)))))), ?_⟩
  obtain ⟨dx, m, ho⟩ := L.obj
  obtain ⟨dh, hh⟩ := Hl.obj
  refine ⟨_, rfl, lo, dx, _, rfl, ho, rfl, S, ds, A, g, lo, wr, ul, ws, us, l, c, p, rfl, L, Hl, hs, hp, ?_⟩
  refine ⟨_, rfl, lo, _, dx, _, _, rfl, ho, T.cl_Lookout, T.na_Lookout_hall, rfl, A.hall, dh, _, rfl, hh, rfl, _, rfl, _, rfl, S, ds, A, g, k, n, v, rfl, Hl, B, hk, hSO, hSn, hn, hv, hT, fun H1 g' j0 k1 Hl1 ⟨B1, hext⟩ => ?_⟩
  have L1 := L.kp k1 Ap.w1 Ap.u1
  have ho1 := k1.ins ho
  obtain ⟨l', c', p', gp', hs', hp', hg'⟩ := Hl1.cur
  refine ⟨_, rfl, lo, dx, _, rfl, ho1, rfl, _, rfl, S, ds, A, g', lo, wr, ul, ws, us, l', c', p', p, gp', gp, rfl, L1, Hl1, Ap, hs', hp', hg', hext _ _ hg, hSO, hnd, hall, hwl, hul, k1.t hT, fun H2 rs ns j k2 hu2 srt hc hrs => ?_⟩
  have kF := ((KF.of k1).mono fun b z => Or.inl z).trans ((KF.of k2).mono (M := ML A ul) fun b z => Or.inr z)
  have hwr2 : H2 wr = some (.dK (rowsK ws)) := k2.dK L1.row fun z => by have y := L1.row; rw [show wr = ul from z, L1.unt] at y; cases y
  have L2 : LookA K H2 A.hall lo wr ul ws (us ++ rs.map V.ref) := ⟨⟨dx, m, k2.ins ho1⟩, hwr2, hu2⟩
  have Hl2 := Hl1.ulM Ap L1.unt (KF.of k2)
  exact ⟨_, rfl, q H2 g' rs ns l' c' p' gp' kF L2 Hl2 B1 hs' hp' hg' srt hc hrs _⟩
def spLBack (K : PySem.W.Frag) : Sp := fun vs H Q E => ∃ (S : Str → Prop) (ds : List (Str × V)) (A : Ad) (g : Gh) (k : Nat) (lo wr ul : Addr) (ws : List Str) (us : List V) (l : List Nat) (c p : Nat) (gp : SG) (j0 : Nat), vs = [.ref lo, .int j0] ∧ LPre K H S ds A g k lo wr ul ws us l c p gp ∧ XOut K H E ∧ LOut K H Q S ds A k lo wr ul ws us gp.tr
theorem d_Lookout_back_ok (T : Tx K mg base) : Df P w K mg base (L2.CX P w) 16 (mA K "Lookout" "back") (spLBack K) := by
  have h_Lookout_place_now := d_Lookout_place_now_ok (P := P) (w := w) T
  have h_Hall_back := d_Hall_back_ok (P := P) (w := w) T
  have h_Lookout_hear := d_Lookout_hear_ok (P := P) (w := w) T
  refine dfR T.F_Lookout_back sc_Lookout_back (fun _ _ _ _ _ _ us hl => match us, hl with | [_, _], _ => rfl) (fun vs H Q E ⟨_, _, _, _, _, _, _, _, _, _, _, _, _, _, _, h, _⟩ => by rw [h]; rfl) fun cd A outer s H vs Q E hr h tk hX hown => ?_
  have hx := hX E fun _ _ _ h => h
  obtain ⟨S, ds, A, g, k, lo, wr, ul, ws, us, l, c, p, gp, j0, rfl, X, qx, q⟩ := h
  obtain ⟨L, Hl, Ap, hs, hp, hg, B, hk, hSO, hnd, hall, hwl, hul, hT⟩ := X
  refine ⟨_, (pss_cons (ps_set (i := 2) sc_Lookout_back.nd rfl (.inl rfl) (pe_m0 h_Lookout_place_now (hr.mono (by decide)) T.cl_Lookout T.me_Lookout_place_now (pv 0)))
    (pss_cons (ps_expr (pe_mX hx h_Hall_back (hr.mono (by decide)) T.cl_Hall T.me_Hall_back (pe_fld (pv 0) rfl) (pa_cons (pv 1) pa_nil)))
    (pss_one (ps_expr (pe_m h_Lookout_hear (hr.mono (by decide)) T.cl_Lookout T.me_Lookout_hear (pv 0) (pa_cons (pv 2) pa_nil)))))), ?_⟩
  obtain ⟨dx, m, ho⟩ := L.obj
  obtain ⟨dh, hh⟩ := Hl.obj
  refine ⟨_, rfl, lo, dx, _, rfl, ho, rfl, S, ds, A, g, lo, wr, ul, ws, us, l, c, p, rfl, L, Hl, hs, hp, ?_⟩
  refine ⟨_, rfl, lo, _, dx, _, _, rfl, ho, T.cl_Lookout, T.na_Lookout_hall, rfl, A.hall, dh, _, rfl, hh, rfl, _, rfl, S, ds, A, g, k, j0, rfl, Hl, B, hk, hSO, hT, qx, fun H1 g' k1 Hl1 ⟨B1, hext⟩ => ?_⟩
  have L1 := L.kp k1 Ap.w1 Ap.u1
  have ho1 := k1.ins ho
  obtain ⟨l', c', p', gp', hs', hp', hg'⟩ := Hl1.cur
  refine ⟨_, rfl, lo, dx, _, rfl, ho1, rfl, _, rfl, S, ds, A, g', lo, wr, ul, ws, us, l', c', p', p, gp', gp, rfl, L1, Hl1, Ap, hs', hp', hg', hext _ _ hg, hSO, hnd, hall, hwl, hul, k1.t hT, fun H2 rs ns j k2 hu2 srt hc hrs => ?_⟩
  have kF := ((KF.of k1).mono fun b z => Or.inl z).trans ((KF.of k2).mono (M := ML A ul) fun b z => Or.inr z)
  have hwr2 : H2 wr = some (.dK (rowsK ws)) := k2.dK L1.row fun z => by have y := L1.row; rw [show wr = ul from z, L1.unt] at y; cases y
  have L2 : LookA K H2 A.hall lo wr ul ws (us ++ rs.map V.ref) := ⟨⟨dx, m, k2.ins ho1⟩, hwr2, hu2⟩
  have Hl2 := Hl1.ulM Ap L1.unt (KF.of k2)
  exact q H2 g' rs ns l' c' p' gp' kF L2 Hl2 B1 hs' hp' hg' srt hc hrs _
def spLEnter (K : PySem.W.Frag) : Sp := fun vs H Q E => ∃ (S : Str → Prop) (ds : List (Str × V)) (A : Ad) (g : Gh) (k : Nat) (lo wr ul : Addr) (ws : List Str) (us : List V) (l : List Nat) (c p : Nat) (gp : SG) (c0 : Nat), vs = [.ref lo, .int c0] ∧ LPre K H S ds A g k lo wr ul ws us l c p gp ∧ c0 < g.sps.length ∧ XOut K H E ∧ LOut K H Q S ds A k lo wr ul ws us gp.tr
theorem d_Lookout_enter_ok (T : Tx K mg base) : Df P w K mg base (L2.CX P w) 16 (mA K "Lookout" "enter") (spLEnter K) := by
  have h_Lookout_place_now := d_Lookout_place_now_ok (P := P) (w := w) T
  have h_Hall_enter := d_Hall_enter_ok (P := P) (w := w) T
  have h_Lookout_hear := d_Lookout_hear_ok (P := P) (w := w) T
  refine dfR T.F_Lookout_enter sc_Lookout_enter (fun _ _ _ _ _ _ us hl => match us, hl with | [_, _], _ => rfl) (fun vs H Q E ⟨_, _, _, _, _, _, _, _, _, _, _, _, _, _, _, h, _⟩ => by rw [h]; rfl) fun cd A outer s H vs Q E hr h tk hX hown => ?_
  have hx := hX E fun _ _ _ h => h
  obtain ⟨S, ds, A, g, k, lo, wr, ul, ws, us, l, c, p, gp, c0, rfl, X, hc0, qx, q⟩ := h
  obtain ⟨L, Hl, Ap, hs, hp, hg, B, hk, hSO, hnd, hall, hwl, hul, hT⟩ := X
  refine ⟨_, (pss_cons (ps_set (i := 2) sc_Lookout_enter.nd rfl (.inl rfl) (pe_m0 h_Lookout_place_now (hr.mono (by decide)) T.cl_Lookout T.me_Lookout_place_now (pv 0)))
    (pss_cons (ps_expr (pe_mX hx h_Hall_enter (hr.mono (by decide)) T.cl_Hall T.me_Hall_enter (pe_fld (pv 0) rfl) (pa_cons (pv 1) pa_nil)))
    (pss_one (ps_fldaug (pv 0) (pe_m h_Lookout_hear (hr.mono (by decide)) T.cl_Lookout T.me_Lookout_hear (pv 0) (pa_cons (pv 2) pa_nil)) in_add)))), ?_⟩
  obtain ⟨dx, m, ho⟩ := L.obj
  obtain ⟨dh, hh⟩ := Hl.obj
  refine ⟨_, rfl, lo, dx, _, rfl, ho, rfl, S, ds, A, g, lo, wr, ul, ws, us, l, c, p, rfl, L, Hl, hs, hp, ?_⟩
  refine ⟨_, rfl, lo, _, dx, _, _, rfl, ho, T.cl_Lookout, T.na_Lookout_hall, rfl, A.hall, dh, _, rfl, hh, rfl, _, rfl, S, ds, A, g, c0, rfl, Hl, hc0, by have := B.sts; omega, qx, fun H1 k1 Hl1 => ?_⟩
  obtain ⟨g', hg0⟩ : ∃ g' : Gh, g' = { g with sts := g.sts ++ [c0] } := ⟨_, rfl⟩
  rw [← hg0] at Hl1
  have hext : ∀ (i : Nat) (x : SG), g.Gs[i]? = some x → g'.Gs[i]? = some x := fun i x e => by rw [hg0]; exact e
  have B1 : Bud g' (k + 1) := by
    obtain ⟨b1, b2, b3, b4, b5, b6, b7⟩ := B
    rw [hg0]
    exact ⟨by show g.as.length ≤ _; omega, by show g.tk.length ≤ _; omega, by show g.Gs.length ≤ _; omega, by show g.fx.length ≤ _; omega, by show g.sps.length ≤ _; omega, by show (g.sts ++ [c0]).length ≤ _; rw [List.length_append]; show _ + 1 ≤ _; omega, by omega⟩
  have L1 := L.kp k1 Ap.w1 Ap.u1
  have ho1 := k1.ins ho
  obtain ⟨l', c', p', gp', hs', hp', hg'⟩ := Hl1.cur
  refine ⟨_, rfl, lo, _, dx, _, _, rfl, ho1, T.cl_Lookout, T.na_Lookout_many_looked, rfl, _, rfl, lo, dx, _, rfl, ho1, rfl, _, rfl, S, ds, A, g', lo, wr, ul, ws, us, l', c', p', p, gp', gp, rfl, L1, Hl1, Ap, hs', hp', hg', hext _ _ hg, hSO, hnd, hall, hwl, hul, k1.t hT, fun H2 rs ns j k2 hu2 srt hc hrs => ?_⟩
  have kF := ((KF.of k1).mono fun b z => Or.inl z).trans ((KF.of k2).mono (M := ML A ul) fun b z => Or.inr z)
  have hwr2 : H2 wr = some (.dK (rowsK ws)) := k2.dK L1.row fun z => by have y := L1.row; rw [show wr = ul from z, L1.unt] at y; cases y
  have Hl2 := Hl1.ulM Ap L1.unt (KF.of k2)
  have ho2 := k2.ins ho1
  refine ⟨_, _, rfl, rfl, dx, _, ho2, show 5 < 1000 by decide, ?_⟩
  have kL : KF K (ML A ul) H2 _ := KF.wr (C' := gA K "Lookout") (dx' := dx) (fs' := lookF A.hall wr ul ws.length (m + j)) ho2
  have lw : wr ≠ lo := fun e => by rw [e, ho2] at hwr2; cases hwr2
  have lu : ul ≠ lo := fun e => by rw [e, ho2] at hu2; cases hu2
  refine q _ g' rs ns l' c' p' gp' (kF.trans kL) ⟨⟨dx, m + j, upd_same⟩, by rw [upd_ne lw]; exact hwr2, by rw [upd_ne lu]; exact hu2⟩ (Hl2.kf (KF.wr (M := M0) (C' := gA K "Lookout") (dx' := dx) (fs' := lookF A.hall wr ul ws.length (m + j)) ho2) fun b z _ => z) B1 hs' hp' hg' srt hc (NRow.kf kL hrs) _
def spLLeave (K : PySem.W.Frag) : Sp := fun vs H Q E => ∃ (S : Str → Prop) (ds : List (Str × V)) (A : Ad) (g : Gh) (k : Nat) (lo wr ul : Addr) (ws : List Str) (us : List V) (l : List Nat) (c p : Nat) (gp : SG), vs = [.ref lo] ∧ LPre K H S ds A g k lo wr ul ws us l c p gp ∧ XOut K H E ∧ LOut K H Q S ds A k lo wr ul ws us gp.tr
theorem d_Lookout_leave_ok (T : Tx K mg base) : Df P w K mg base (L2.CX P w) 16 (mA K "Lookout" "leave") (spLLeave K) := by
  have h_Lookout_place_now := d_Lookout_place_now_ok (P := P) (w := w) T
  have h_Hall_leave := d_Hall_leave_ok (P := P) (w := w) T
  have h_Lookout_hear := d_Lookout_hear_ok (P := P) (w := w) T
  refine dfR T.F_Lookout_leave sc_Lookout_leave (fun _ _ _ _ _ _ us hl => match us, hl with | [_], _ => rfl) (fun vs H Q E ⟨_, _, _, _, _, _, _, _, _, _, _, _, _, _, h, _⟩ => by rw [h]; rfl) fun cd A outer s H vs Q E hr h tk hX hown => ?_
  have hx := hX E fun _ _ _ h => h
  obtain ⟨S, ds, A, g, k, lo, wr, ul, ws, us, l, c, p, gp, rfl, X, qx, q⟩ := h
  obtain ⟨L, Hl, Ap, hs, hp, hg, B, hk, hSO, hnd, hall, hwl, hul, hT⟩ := X
  refine ⟨_, (pss_cons (ps_set (i := 1) sc_Lookout_leave.nd rfl (.inl rfl) (pe_m0 h_Lookout_place_now (hr.mono (by decide)) T.cl_Lookout T.me_Lookout_place_now (pv 0)))
    (pss_cons (ps_expr (pe_m0X hx h_Hall_leave (hr.mono (by decide)) T.cl_Hall T.me_Hall_leave (pe_fld (pv 0) rfl)))
    (pss_one (ps_fldaug (pv 0) (pe_m h_Lookout_hear (hr.mono (by decide)) T.cl_Lookout T.me_Lookout_hear (pv 0) (pa_cons (pv 1) pa_nil)) in_add)))), ?_⟩
  obtain ⟨dx, m, ho⟩ := L.obj
  obtain ⟨dh, hh⟩ := Hl.obj
  refine ⟨_, rfl, lo, dx, _, rfl, ho, rfl, S, ds, A, g, lo, wr, ul, ws, us, l, c, p, rfl, L, Hl, hs, hp, ?_⟩
  refine ⟨_, rfl, lo, _, dx, _, _, rfl, ho, T.cl_Lookout, T.na_Lookout_hall, rfl, A.hall, dh, _, rfl, hh, rfl, S, ds, A, g, rfl, Hl, qx, fun H1 k1 Hl1 => ?_⟩
  obtain ⟨g', hg0⟩ : ∃ g' : Gh, g' = { g with sts := g.sts.dropLast } := ⟨_, rfl⟩
  rw [← hg0] at Hl1
  have hext : ∀ (i : Nat) (x : SG), g.Gs[i]? = some x → g'.Gs[i]? = some x := fun i x e => by rw [hg0]; exact e
  have B1 : Bud g' (k + 1) := by
    obtain ⟨b1, b2, b3, b4, b5, b6, b7⟩ := B
    rw [hg0]
    exact ⟨by show g.as.length ≤ _; omega, by show g.tk.length ≤ _; omega, by show g.Gs.length ≤ _; omega, by show g.fx.length ≤ _; omega, by show g.sps.length ≤ _; omega, by show (g.sts.dropLast).length ≤ _; rw [List.length_dropLast]; omega, by omega⟩
  have L1 := L.kp k1 Ap.w1 Ap.u1
  have ho1 := k1.ins ho
  obtain ⟨l', c', p', gp', hs', hp', hg'⟩ := Hl1.cur
  refine ⟨_, rfl, lo, _, dx, _, _, rfl, ho1, T.cl_Lookout, T.na_Lookout_many_looked, rfl, _, rfl, lo, dx, _, rfl, ho1, rfl, _, rfl, S, ds, A, g', lo, wr, ul, ws, us, l', c', p', p, gp', gp, rfl, L1, Hl1, Ap, hs', hp', hg', hext _ _ hg, hSO, hnd, hall, hwl, hul, k1.t hT, fun H2 rs ns j k2 hu2 srt hc hrs => ?_⟩
  have kF := ((KF.of k1).mono fun b z => Or.inl z).trans ((KF.of k2).mono (M := ML A ul) fun b z => Or.inr z)
  have hwr2 : H2 wr = some (.dK (rowsK ws)) := k2.dK L1.row fun z => by have y := L1.row; rw [show wr = ul from z, L1.unt] at y; cases y
  have Hl2 := Hl1.ulM Ap L1.unt (KF.of k2)
  have ho2 := k2.ins ho1
  refine ⟨_, _, rfl, rfl, dx, _, ho2, show 5 < 1000 by decide, ?_⟩
  have kL : KF K (ML A ul) H2 _ := KF.wr (C' := gA K "Lookout") (dx' := dx) (fs' := lookF A.hall wr ul ws.length (m + j)) ho2
  have lw : wr ≠ lo := fun e => by rw [e, ho2] at hwr2; cases hwr2
  have lu : ul ≠ lo := fun e => by rw [e, ho2] at hu2; cases hu2
  refine q _ g' rs ns l' c' p' gp' (kF.trans kL) ⟨⟨dx, m + j, upd_same⟩, by rw [upd_ne lw]; exact hwr2, by rw [upd_ne lu]; exact hu2⟩ (Hl2.kf (KF.wr (M := M0) (C' := gA K "Lookout") (dx' := dx) (fs' := lookF A.hall wr ul ws.length (m + j)) ho2) fun b z _ => z) B1 hs' hp' hg' srt hc (NRow.kf kL hrs) _
end RS

/-! text D25 -/
set_option Elab.async false
set_option linter.all false
set_option maxRecDepth 100000
set_option maxHeartbeats 1000000
/-! The law's draws. -/
namespace RS
open PySem PySem.Spec PyProof.Rows L2
theorem sc_law_cell_at : FnScope ["_law_script", "_law_k"] ["_law_script", "_law_k"] (defScope s_law_cell_at) := ⟨rfl, rfl, rfl, by decide +kernel, rfl, by decide +kernel, by decide +kernel⟩
theorem sc_law_box : FnScope ["_law_script", "_law_k", "_law_cell"] ["_law_script", "_law_k"] (defScope s_law_box) := ⟨rfl, rfl, rfl, by decide +kernel, rfl, by decide +kernel, by decide +kernel⟩
theorem sc_law_take : FnScope ["_law_box_here", "_law_many", "_law_found", "_law_once", "_law_twice"] ["_law_box_here", "_law_many"] (defScope s_law_take) := ⟨rfl, rfl, rfl, by decide +kernel, rfl, by decide +kernel, by decide +kernel⟩
variable {P : Program} {w : World} {K : PySem.W.Frag} {mg : Str → Option Value} {base : Heap}
def spCell (K : PySem.W.Frag) : Sp := fun vs H Q _ => ∃ (a : Addr) (ns : List Int) (k : Nat), vs = [.ref a, .int k] ∧ SqL K H a (ns.map V.int) ∧ ∀ i : Int, Q (.int i) H
theorem d_law_cell_at_ok (T : Tx K mg base) : Df P w K mg base CX0 1 (gA K "_law_cell_at") (RS.spCell K) := by
  refine df0 T.F_law_cell_at sc_law_cell_at (fun _ _ _ _ _ _ us hl => match us, hl with | [_, _], _ => rfl) (fun vs H Q E ⟨_, _, _, h, _⟩ => by rw [h]; rfl) fun cd A outer s H vs Q E hr h => ?_
  obtain ⟨a, ns, k, rfl, hS, q⟩ := h
  refine ⟨_, (pss_cons (ps_if (pt_cmpR op_lt (pv 1) (pe_callB call_len_seq rfl T.b_len boot_len (pa_cons (pv 0) pa_nil)) rfl) (pss_one (ps_ret (pe_ix ix_list (pv 0) (pv 1) (fun _ _ => rfl)))) pss_nil)
    (pss_one (ps_ret pe_int))), ?_⟩
  refine ⟨_, rfl, _, rfl, a, _, rfl, .inl hS, _, _, rfl, rfl, _, rfl, ?_⟩
  by_cases e : k < ns.length
  · have e1 : decide (((k : Nat) : Int) < ((ns.map V.int).length : Nat)) = true := decide_eq_true (by rw [List.length_map]; omega)
    rw [e1]
    exact ⟨_, rfl, _, rfl, a, _, k, .int ns[k], rfl, rfl, hS, atN (by rw [List.getElem?_map, List.getElem?_eq_getElem e]; rfl), q _⟩
  · have e1 : decide (((k : Nat) : Int) < ((ns.map V.int).length : Nat)) = false := decide_eq_false (by rw [List.length_map]; omega)
    rw [e1]
    exact q 0
/-- a box at b, of which at most n draws went on -/
def BoxA (H : Hp) (b : Addr) (n : Nat) : Prop := ∃ (x0 x1 : Int) (x2 : Nat), H b = some (.lst [.int x0, .int x1, .int x2]) ∧ x2 ≤ n
theorem BoxA.le {H : Hp} {b : Addr} {n m : Nat} (h : BoxA H b n) (l : n ≤ m) : BoxA H b m := let ⟨x0, x1, x2, e, z⟩ := h; ⟨x0, x1, x2, e, Nat.le_trans z l⟩
theorem BoxA.kp {H H1 : Hp} {b : Addr} {n : Nat} {T : Tbs} {M : Addr → Prop} (h : BoxA H b n) (k : Kp T M H H1) (m : ¬ M b) : BoxA H1 b n := let ⟨x0, x1, x2, e, z⟩ := h; ⟨x0, x1, x2, k.lst e m, z⟩
theorem b01 (b : Bool) : -(2 ^ 64) < (if b = true then (1 : Int) else 0) ∧ (if b = true then (1 : Int) else 0) < 2 ^ 64 := by cases b <;> decide
def spBox (K : PySem.W.Frag) : Sp := fun vs H Q _ => ∃ (a : Addr) (ns : List Int) (k : Nat), vs = [.ref a, .int k] ∧ SqL K H a (ns.map V.int) ∧ ∀ (H' : Hp) (b : Addr), KQ K M0 H H' → H b = none → BoxA H' b 0 → Q (.ref b) H'
theorem d_law_box_ok (T : Tx K mg base) : Df P w K mg base CX0 2 (gA K "_law_box") (spBox K) := by
  have h_law_cell_at := d_law_cell_at_ok (P := P) (w := w) T
  refine df0 T.F_law_box sc_law_box (fun _ _ _ _ _ _ us hl => match us, hl with | [_, _], _ => rfl) (fun vs H Q E ⟨_, _, _, h, _⟩ => by rw [h]; rfl) fun cd A outer s H vs Q E hr h => ?_
  obtain ⟨a, ns, k, rfl, hS, q⟩ := h
  refine ⟨_, (pss_cons (ps_set (i := 2) sc_law_box.nd rfl (.inl rfl) (pe_c h_law_cell_at (hr.mono (by decide)) T.g_law_cell_at (pa_cons (pv 0) (pa_cons (pv 1) pa_nil))))
    (pss_one (ps_ret (pe_lst (pa_cons (pe_op op_mul (pe_callB call_abs rfl T.b_abs (by decide +kernel) (pa_cons (pv 2) pa_nil)) (pe_callTy call_int1 rfl T.b_int (by decide +kernel) (pa_cons (pe_cmpR op_ge (pe_callB call_abs rfl T.b_abs (by decide +kernel) (pa_cons (pv 2) pa_nil)) (pe_op op_pow pe_int pe_int) rfl) pa_nil))) (pa_cons (pe_op op_add (pe_op op_add (pe_op op_mod (pv 2) pe_int) (pe_op op_mul pe_int (pv 1))) pe_int) (pa_cons pe_int pa_nil))))))), ?_⟩
  refine ⟨_, rfl, _, rfl, a, ns, k, rfl, hS, fun i => ?_⟩
  refine ⟨_, rfl, i, rfl, ?_⟩
  refine ⟨_, rfl, i, rfl, ?_⟩
  refine ⟨10, 18, rfl, rfl, ⟨by decide, by decide, by decide⟩, _, _, rfl, rfl, .inr ⟨_, rfl, _, _, rfl, rfl, .inr (b01 _), ?_⟩⟩
  refine ⟨_, rfl, _, 2305843009213693951, rfl, rfl, (show (0 : Int) < 2305843009213693951 by decide), ?_⟩
  refine ⟨_, rfl, 39373, _, rfl, rfl, .inl ⟨by decide, by decide⟩, _, _, rfl, rfl, _, _, rfl, rfl, sz3, fun b nb => ?_⟩
  exact q _ b (Kp.refl.new nb) nb ⟨_, _, 0, upd_same, Nat.le_refl _⟩
def spTake (K : PySem.W.Frag) : Sp := fun vs H Q _ => ∃ (b : Addr) (n m : Nat), vs = [.ref b, .int m] ∧ BoxA H b n ∧ n < 1000000 ∧ 0 < m ∧ m < 1000000 ∧ ∀ (H' : Hp) (r : Nat), r < m → KQ K (Only b) H H' → BoxA H' b (n + 1) → Q (.int r) H'
theorem at_1 {x y z : V} : atI [x, y, z] 1 = some y := rfl
theorem at_2 {x y z : V} : atI [x, y, z] 2 = some z := rfl
theorem mod_nat (i : Int) {m : Nat} (h : 0 < m) : ∃ r : Nat, i % (m : Int) = r ∧ r < m := by
  have h1 := Int.emod_nonneg i (show (m : Int) ≠ 0 by omega)
  have h2 := Int.emod_lt_of_pos i (show (0 : Int) < m by omega)
  exact ⟨(i % (m : Int)).toNat, by omega, by omega⟩
theorem d_law_take_ok (T : Tx K mg base) : Df P w K mg base CX0 1 (gA K "_law_take") (spTake K) := by
  refine df0 T.F_law_take sc_law_take (fun _ _ _ _ _ _ us hl => match us, hl with | [_, _], _ => rfl) (fun vs H Q E ⟨_, _, _, h, _⟩ => by rw [h]; rfl) fun cd A outer s H vs Q E hr h => ?_
  obtain ⟨b, n, m, rfl, ⟨x0, x1, x2, hb, hx⟩, hn, hm, hm2, q⟩ := h
  refine ⟨_, (pss_cons (ps_if (pt_cmpR op_gt (pe_ix ix_list (pv 0) pe_int (fun _ _ => rfl)) pe_int rfl) (pss_cons (ps_set (i := 2) sc_law_take.nd rfl (.inl rfl) (pe_op op_mod (pe_ix ix_list (pv 0) pe_int (fun _ _ => rfl)) (pv 1)))
    (pss_cons (ps_asg (pe_op op_fdiv (pe_ix ix_list (pv 0) pe_int (fun _ _ => rfl)) (pv 1)) (pg_sub (pv 0) pe_int set_list))
    (pss_one (ps_ret (pv 2))))) pss_nil)
    (pss_cons (ps_asg (pe_op op_add (pe_ix ix_list (pv 0) pe_int (fun _ _ => rfl)) pe_int) (pg_sub (pv 0) pe_int set_list))
    (pss_cons (ps_set (i := 3) sc_law_take.nd rfl (.inl rfl) (pe_op op_mod (pe_op op_mul (pe_op op_add (pe_ix ix_list (pv 0) pe_int (fun _ _ => rfl)) (pe_op op_mul pe_int (pe_ix ix_list (pv 0) pe_int (fun _ _ => rfl)))) (pe_op op_add pe_int (pe_ix ix_list (pv 0) pe_int (fun _ _ => rfl)))) pe_int))
    (pss_cons (ps_set (i := 4) sc_law_take.nd rfl (.inl rfl) (pe_op op_mod (pe_op op_mul (pe_op op_add (pv 3) (pe_ix ix_list (pv 0) pe_int (fun _ _ => rfl))) (pe_op op_add (pe_op op_mod (pv 3) pe_int) pe_int)) pe_int))
    (pss_one (ps_ret (pe_op op_mod (pe_op op_fdiv (pe_op op_mod (pe_op op_add (pe_op op_mul (pv 4) pe_int) (pv 3)) pe_int) pe_int) (pv 1)))))))), ?_⟩
  refine ⟨_, rfl, b, _, 0, _, rfl, rfl, sqL_at hb, at0, _, _, rfl, rfl, _, rfl, ?_⟩
  by_cases e : 0 < x0
  · have e1 : decide ((0 : Int) < x0) = true := decide_eq_true e
    rw [e1]
    obtain ⟨r, hr1, hr2⟩ := mod_nat x0 hm
    refine ⟨_, rfl, b, _, 0, _, rfl, rfl, sqL_at hb, at0, _, rfl, _, _, rfl, rfl, (by omega), ?_⟩
    refine ⟨_, rfl, b, _, 0, _, rfl, rfl, sqL_at hb, at0, _, rfl, _, _, rfl, rfl, ⟨(by omega), (by omega)⟩, ?_⟩
    refine ⟨_, rfl, b, _, 0, 0, rfl, rfl, hb, rfl, ?_⟩
    refine ⟨_, rfl, ?_⟩
    have q2 := q _ r hr2 (Kp.refl.updL rfl hb) ⟨x0 / m, x1, x2, upd_same, by omega⟩
    rw [← hr1] at q2
    exact q2
  · have e1 : decide ((0 : Int) < x0) = false := decide_eq_false e
    rw [e1]
    refine ⟨_, rfl, b, _, 2, _, rfl, rfl, sqL_at hb, at_2, _, _, rfl, rfl, ?_⟩
    refine ⟨_, rfl, b, _, 2, 2, rfl, rfl, hb, rfl, ?_⟩
    have hb2 : upd H b (.lst [.int x0, .int x1, .int ((x2 : Int) + 1)]) b = some (.lst [.int x0, .int x1, .int ((x2 : Int) + 1)]) := upd_same
    refine ⟨_, rfl, b, _, 1, _, rfl, rfl, sqL_at hb2, at_1, ?_⟩
    refine ⟨_, rfl, b, _, 2, _, rfl, rfl, sqL_at hb2, at_2, 48271, _, rfl, rfl, .inl ⟨by decide, by decide⟩, _, _, rfl, rfl, ?_⟩
    refine ⟨_, rfl, b, _, 2, _, rfl, rfl, sqL_at hb2, at_2, 39373, _, rfl, rfl, _, _, rfl, rfl, .inr ⟨(by omega), (by omega)⟩, _, 2147483647, rfl, rfl, (show (0 : Int) < 2147483647 by decide), ?_⟩
    refine ⟨_, rfl, _, rfl, b, _, 2, _, rfl, rfl, sqL_at hb2, at_2, _, _, rfl, rfl, ?_⟩
    refine ⟨_, rfl, _, 40009, rfl, rfl, (show (0 : Int) < 40009 by decide), _, _, rfl, rfl, ?_⟩
    have bd : ∀ z : Int, -(2 ^ 64) < z % 40009 + 7 ∧ z % 40009 + 7 < 2 ^ 64 := fun z => by
      have h1 := Int.emod_nonneg z (show (40009 : Int) ≠ 0 by decide)
      have h2 := Int.emod_lt_of_pos z (show (0 : Int) < 40009 by decide)
      omega
    refine ⟨_, _, rfl, rfl, .inr (bd _), _, 2147483629, rfl, rfl, (show (0 : Int) < 2147483629 by decide), ?_⟩
    refine ⟨_, rfl, _, _, rfl, rfl, .inr ⟨by decide, by decide⟩, _, rfl, _, _, rfl, rfl, _, 2147483587, rfl, rfl, (show (0 : Int) < 2147483587 by decide), _, 64, rfl, rfl, ⟨by decide, by decide⟩, _, rfl, _, _, rfl, rfl, (by omega), ?_⟩
    have fin : ∀ z : Int, Q (.int (z % m)) (upd H b (.lst [.int x0, .int x1, .int ((x2 : Int) + 1)])) := fun z => by
      obtain ⟨r, hr1, hr2⟩ := mod_nat z hm
      rw [hr1]
      exact q _ r hr2 (Kp.refl.updL rfl hb) ⟨x0, x1, x2 + 1, upd_same, by omega⟩
    exact fin _
end RS

/-! text D26 -/
set_option Elab.async false
set_option linter.all false
set_option maxRecDepth 100000
set_option maxHeartbeats 1000000
/-! The law's values. -/
namespace RS
open PySem PySem.Spec PyProof.Rows L2
theorem sc_law_value : FnScope ["_law_box_here", "_law_way", "_law_signs", "_law_place"] ["_law_box_here"] (defScope s_law_value) := ⟨rfl, rfl, rfl, by decide +kernel, rfl, by decide +kernel, by decide +kernel⟩
variable {P : Program} {w : World} {K : PySem.W.Frag} {mg : Str → Option Value} {base : Heap}
def spValueL (K : PySem.W.Frag) : Sp := fun vs H Q _ => ∃ (b : Addr) (n : Nat), vs = [.ref b] ∧ BoxA H b n ∧ n < 900000 ∧ ∀ (H' : Hp) (v : V), isVal v = true → KQ K (Only b) H H' → BoxA H' b (n + 50) → Q v H'
theorem pick {xs : List V} (h : ∀ v ∈ xs, isVal v = true) {r : Nat} (hr : r < xs.length) : ∃ v, atI xs (r : Int) = some v ∧ isVal v = true :=
  ⟨xs[r], atN (List.getElem?_eq_getElem hr), h _ (List.getElem_mem hr)⟩
theorem two_ints {p : Bool} {σ : L2.St} {H : Hp} {Q : VK} {i j : Nat} (h : ∀ x : Nat, x = i ∨ x = j → Q (.int x) H) : if p = true then tC (.int i) σ H Q else tC (.int j) σ H Q := by
  cases p
  · exact h j (.inr rfl)
  · exact h i (.inl rfl)
theorem sum_ones : ∀ {ys : List Str}, (∀ y ∈ ys, ∃ c : Nat, y = ⟨#[c]⟩) → (ys.map (·.length)).sum = ys.length
  | [], _ => rfl
  | y :: r, h => by
    obtain ⟨c, e⟩ := h y (List.mem_cons_self ..)
    rw [List.map_cons, List.sum_cons, sum_ones fun z m => h z (List.mem_cons_of_mem _ m), e, List.length_cons]
    show 1 + r.length = _
    omega
theorem d_law_value_ok (T : Tx K mg base) : Df P w K mg base CX0 2 (gA K "_law_value") (spValueL K) := by
  have h_law_take := d_law_take_ok (P := P) (w := w) T
  refine df0 T.F_law_value sc_law_value (fun _ _ _ _ _ _ us hl => match us, hl with | [_], _ => rfl) (fun vs H Q E ⟨_, _, h, _⟩ => by rw [h]; rfl) fun cd A outer s H vs Q E hr h => ?_
  obtain ⟨b, n, rfl, B, hn, q⟩ := h
  refine ⟨_, (pss_cons (ps_set (i := 1) sc_law_value.nd rfl (.inl rfl) (pe_c h_law_take (hr.mono (by decide)) T.g_law_take (pa_cons (pv 0) (pa_cons pe_int pa_nil))))
    (pss_cons (ps_if (pt_cmpR op_lt (pv 1) pe_int rfl) (pss_one (ps_ret (pe_op op_sub (pe_c h_law_take (hr.mono (by decide)) T.g_law_take (pa_cons (pv 0) (pa_cons pe_int pa_nil))) pe_int))) pss_nil)
    (pss_cons (ps_if (pt_cmpR op_eq (pv 1) pe_int rfl) (pss_one (ps_ret (pe_ix ix_list (pe_lst (pa_cons (pe_op op_sub (pe_op op_pow pe_int pe_int) pe_int) (pa_cons (pe_op op_sub pe_int (pe_op op_pow pe_int pe_int)) (pa_cons (pe_op op_pow pe_int pe_int) (pa_cons pe_int pa_nil))))) (pe_c h_law_take (hr.mono (by decide)) T.g_law_take (pa_cons (pv 0) (pa_cons pe_int pa_nil))) (fun _ _ => rfl)))) pss_nil)
    (pss_cons (ps_if (pt_cmpR op_eq (pv 1) pe_int rfl) (pss_one (ps_ret (pe_ix ix_list (pe_lst (pa_cons pe_str (pa_cons pe_str (pa_cons pe_str (pa_cons pe_str (pa_cons pe_str (pa_cons pe_str (pa_cons pe_str (pa_cons pe_str pa_nil))))))))) (pe_c h_law_take (hr.mono (by decide)) T.g_law_take (pa_cons (pv 0) (pa_cons pe_int pa_nil))) (fun _ _ => rfl)))) pss_nil)
    (pss_cons (ps_set (i := 2) sc_law_value.nd rfl (.inr rfl) pe_str)
    (pss_one (ps_ret (pe_join pe_str (pe_lc rfl sc_law_value.nd (pi_range1 rfl T.b_range (pa_cons (pe_c h_law_take (hr.mono (by decide)) T.g_law_take (pa_cons (pv 0) (pa_cons (pe_ifExp (pt_cmpR op_eq (pv 1) pe_int rfl) pe_int pe_int) pa_nil))) pa_nil)) (blkOk_by (own := [("_law_place", 3)]) (by kernel_rfl)) (fun _ _ _ _ _ => (pg_name (i := 3) sc_law_value.nd rfl (.inl rfl) (.inr rfl))) (fun _ _ _ _ _ => pts_nil) (fun _ _ _ _ _ => (pe_ix ix_str (pv 2) (pe_c h_law_take (hr.mono (by decide)) T.g_law_take (pa_cons (pv 0) (pa_cons (pe_callB call_len_str rfl T.b_len boot_len (pa_cons (pv 2) pa_nil)) pa_nil))) (fun _ _ => rfl)))))))))))), ?_⟩
  refine ⟨_, rfl, b, n, 6, rfl, B, by omega, by decide, by decide, fun H1 r hr1 k1 B1 => ?_⟩
  refine ⟨_, rfl, _, _, rfl, rfl, _, rfl, ?_⟩
  have laid : ∀ (xs : List V) (l : Addr), H1 l = none → KQ K (Only b) H1 (upd H1 l (.lst xs)) ∧ b ≠ l ∧ BoxA (upd H1 l (.lst xs)) b (n + 1) := fun xs l nl => by
    have bl : b ≠ l := fun e => by obtain ⟨_, _, _, z, _⟩ := B1; rw [e, nl] at z; cases z
    refine ⟨Kp.refl.new nl, bl, ?_⟩
    obtain ⟨x0, x1, x2, z, z2⟩ := B1
    exact ⟨x0, x1, x2, by rw [upd_ne bl]; exact z, z2⟩
  by_cases e1 : r < 2
  · rw [decide_eq_true (show ((r : Nat) : Int) < 2 by omega)]
    exact ⟨_, rfl, b, _, 7, rfl, B1, by omega, by decide, by decide, fun H2 r2 hr2 k2 B2 => ⟨_, _, rfl, rfl, q H2 _ rfl (k1.trans k2) (B2.le (by omega))⟩⟩
  rw [decide_eq_false (show ¬ ((r : Nat) : Int) < 2 by omega)]
  refine ⟨_, rfl, rfl, _, rfl, ?_⟩
  by_cases e2 : r = 2
  · rw [decide_eq_true (show V.int (r : Nat) = V.int 2 by rw [e2]; rfl)]
    refine ⟨10, 30, rfl, rfl, ⟨by decide, by decide, by decide⟩, _, _, rfl, rfl, 10, 30, rfl, rfl, ⟨by decide, by decide, by decide⟩, _, _, rfl, rfl, 10, 29, rfl, rfl, ⟨by decide, by decide, by decide⟩, sz4, fun l nl => ?_⟩
    obtain ⟨kl, bl, Bl⟩ := laid [.int (10 ^ (30 : Int).toNat - 1), .int (1 - 10 ^ (30 : Int).toNat), .int (10 ^ (29 : Int).toNat), .int 0] l nl
    refine ⟨_, rfl, b, _, 4, rfl, Bl, by omega, by decide, by decide, fun H2 r2 hr2 k2 B2 => ?_⟩
    obtain ⟨v, hv1, hv2⟩ := pick (xs := [.int (10 ^ (30 : Int).toNat - 1), .int (1 - 10 ^ (30 : Int).toNat), .int (10 ^ (29 : Int).toNat), .int 0]) (by simp [isVal]) hr2
    exact ⟨l, _, _, v, rfl, rfl, sqL_at (k2.lst upd_same (Ne.symm bl)), hv1, q H2 v hv2 ((k1.trans kl).trans k2) (B2.le (by omega))⟩
  rw [decide_eq_false (show ¬ V.int (r : Nat) = V.int 2 from fun z => e2 (by injection z with z; omega))]
  refine ⟨_, rfl, rfl, _, rfl, ?_⟩
  by_cases e3 : r = 3
  · rw [decide_eq_true (show V.int (r : Nat) = V.int 3 by rw [e3]; rfl)]
    refine ⟨sz8, fun l nl => ?_⟩
    obtain ⟨kl, bl, Bl⟩ := laid _ l nl
    refine ⟨_, rfl, b, _, 8, rfl, Bl, by omega, by decide, by decide, fun H2 r2 hr2 k2 B2 => ?_⟩
    obtain ⟨v, hv1, hv2⟩ := pick (xs := [.str "", .str "0", .str "-1", .str "a", .str "none", .str "'", .str "\\", .str " "]) (by simp [isVal]) hr2
    exact ⟨l, _, _, v, rfl, rfl, sqL_at (k2.lst upd_same (Ne.symm bl)), hv1, q H2 v hv2 ((k1.trans kl).trans k2) (B2.le (by omega))⟩
  rw [decide_eq_false (show ¬ V.int (r : Nat) = V.int 3 from fun z => e3 (by injection z with z; omega))]
  refine ⟨⟨_, rfl⟩, _, rfl, _, rfl, rfl, _, rfl, ?_⟩
  refine two_ints (i := 4) (j := 41) fun m hm => ?_
  have hm1 : 0 < m := by rcases hm with h | h <;> omega
  have hm2 : m ≤ 41 := by rcases hm with h | h <;> omega
  refine ⟨b, _, m, rfl, B1, by omega, hm1, by omega, fun H2 c hc k2 B2 => ?_⟩
  refine ⟨_, rfl, by omega, by omega, fun D nD => ?_⟩
  have bD : b ≠ D := fun e => by obtain ⟨_, _, _, z, _⟩ := B2; rw [e, nD] at z; cases z
  refine lc_range (lo := 0) (n := c) (fun i H' => KQ K (Only b) H2 H' ∧ BoxA H' b (n + 2 + i) ∧ ∃ ys : List Str, ys.length = i ∧ (∀ y ∈ ys, ∃ c : Nat, y = ⟨#[c]⟩) ∧ H' D = some (.lst (ys.map V.str))) ⟨Kp.refl.new nD, B2.kp (M := M0) (T := TT K) (Kp.refl.new nD) id, [], rfl, (fun _ m => nomatch m), upd_same⟩ (fun i H' hi p => ?_) fun H' p => ?_
  · obtain ⟨kp, B3, ys, hy1, hy2, hD⟩ := p
    refine ⟨rfl, _, rfl, _, rfl, _, rfl, ?_⟩
    refine ⟨_, rfl, by decide +kernel, b, _, _, rfl, B3, by omega, by decide +kernel, by decide +kernel, fun H4 c2 hc2 k4 B4 => ?_⟩
    refine ⟨_, _, _, rfl, rfl, by decide +kernel, atN (List.getElem?_eq_getElem (by rw [Array.length_toList]; exact hc2)), ?_⟩
    have hD4 := k4.lst hD (Ne.symm bD)
    refine ⟨_, hD4, by rw [List.length_map, hy1]; exact sz_lt (by omega), (kp.trans k4).mutL (.of nD) hD4, ?_, ys ++ [_], by rw [List.length_append, hy1]; rfl, fun y m => ?_, by rw [upd_same, List.map_append]; rfl⟩
    · obtain ⟨x0, x1, x2, z, z2⟩ := B4
      exact ⟨x0, x1, x2, by rw [upd_ne bD]; exact z, by omega⟩
    · rcases List.mem_append.mp m with m | m
      · exact hy2 y m
      · rw [List.mem_singleton.mp m]; exact ⟨_, rfl⟩
  · obtain ⟨kp, B3, ys, hy1, hy2, hD⟩ := p
    refine ⟨_, D, ys, rfl, rfl, .inl (sqL_at hD), ?_, q H' _ rfl ((k1.trans k2).trans kp) (B3.le (by omega))⟩
    rw [sum_ones hy2, hy1]
    show c + c * 0 ≤ _
    omega
end RS

/-! text PN -/
set_option Elab.async false
set_option linter.all false
set_option maxRecDepth 100000
set_option maxHeartbeats 1000000
/-! Names, in plain Lean. -/
namespace RS
open PySem L2 TL
def nmL (st : List Nat) (a v : Nat) : List Nat := st.take a ++ ([97 + v / 26] ++ ([97 + v % 26] ++ st.drop a))
theorem nmL_inj {st : List Nat} {a v u : Nat} (h : nmL st a v = nmL st a u) : v = u := by
  have h1 := List.append_cancel_left h
  injection h1 with h2 h3
  injection h3 with h4 _
  have e1 := Nat.div_add_mod v 26
  have e2 := Nat.div_add_mod u 26
  omega
theorem nmL_len (st : List Nat) (a v : Nat) : (nmL st a v).length = st.length + 2 := by
  unfold nmL
  rw [List.length_append, List.length_append, List.length_append, List.length_take, List.length_drop, List.length_singleton, List.length_singleton]
  omega
theorem nmL_mem {st : List Nat} {a v c : Nat} (hs : ∀ c ∈ st, 97 ≤ c ∧ c ≤ 122) (hv : v < 676) (h : c ∈ nmL st a v) : 97 ≤ c ∧ c ≤ 122 := by
  unfold nmL at h
  rcases List.mem_append.mp h with m | m
  · exact hs c (List.mem_of_mem_take m)
  rcases List.mem_append.mp m with m | m
  · rw [List.mem_singleton.mp m]; omega
  rcases List.mem_append.mp m with m | m
  · rw [List.mem_singleton.mp m]; omega
  · exact hs c (List.mem_of_mem_drop m)
theorem good_of {x : Str} {st : List Nat} {a v : Nat} (e : x.cps.toList = nmL st a v) (hs : ∀ c ∈ st, 97 ≤ c ∧ c ≤ 122) (hl : st.length ≤ 6) (hv : v < 676) : GoodN x ∧ 2 ≤ x.cps.toList.length := by
  refine ⟨⟨fun z => ?_, ?_, fun c m => ?_⟩, ?_⟩
  · have y := nmL_len st a v
    rw [← e, z] at y
    simp at y
  · rw [e, nmL_len]; omega
  · rw [e] at m; exact nmL_mem hs hv m
  · rw [e, nmL_len]; omega
/-- the steps tread no place twice in twenty -/
theorem steps_ne {f s j k : Nat} (hs : s = 1 ∨ s = 27 ∨ s = 5 ∨ s = 251) (h : j < k) (hk : k < 20) : (f + s * j) % 676 ≠ (f + s * k) % 676 := by
  rcases hs with e | e | e | e <;> subst e <;> omega
theorem joined : ∀ {ys : List Str}, (∀ y ∈ ys, ∃ c : Nat, y = ⟨#[c]⟩ ∧ 97 ≤ c ∧ c ≤ 122) → (Txt.join "" ys).cps.toList.length = ys.length ∧ ∀ c ∈ (Txt.join "" ys).cps.toList, 97 ≤ c ∧ c ≤ 122 := by
  intro ys h
  have key : ∀ ys : List Str, (∀ y ∈ ys, ∃ c : Nat, y = ⟨#[c]⟩ ∧ 97 ≤ c ∧ c ≤ 122) → (joinL (tl "") (ys.map tl)).length = ys.length ∧ ∀ c ∈ joinL (tl "") (ys.map tl), 97 ≤ c ∧ c ≤ 122 := by
    intro ys
    induction ys with
    | nil => intro _; exact ⟨rfl, fun c m => nomatch m⟩
    | cons y r ih =>
      intro h
      obtain ⟨c, e, hc⟩ := h y (List.mem_cons_self ..)
      have ht : tl y = [c] := by rw [e]
      obtain ⟨i1, i2⟩ := ih fun z m => h z (List.mem_cons_of_mem _ m)
      cases r with
      | nil =>
        refine ⟨?_, fun d m => ?_⟩
        · show (tl y).length = 1
          rw [ht]; rfl
        · have m2 : d ∈ tl y := m
          rw [ht] at m2
          rw [List.mem_singleton.mp m2]; exact hc
      | cons z r =>
        have e2 : joinL (tl "") ((y :: z :: r).map tl) = tl y ++ joinL (tl "") ((z :: r).map tl) := rfl
        rw [e2, ht]
        refine ⟨by rw [List.length_append, i1, List.length_singleton, List.length_cons (as := z :: r)]; omega, fun d m => ?_⟩
        rcases List.mem_append.mp m with m | m
        · rw [List.mem_singleton.mp m]; exact hc
        · exact i2 d m
  rw [join_eq]
  have z := key ys h
  rw [← tl_join] at z
  exact z
theorem letter_at {r : Nat} (h : r < 26) : ("abcdefghijklmnopqrstuvwxyz" : Str).cps.toList[r]? = some (97 + r) := by
  have z : ∀ d : Fin 26, ("abcdefghijklmnopqrstuvwxyz" : Str).cps.toList[d.val]? = some (97 + d.val) := by decide +kernel
  exact z ⟨r, h⟩
theorem cut_pre (x : Str) (a : Nat) (h : a ≤ x.cps.toList.length) : (cutS x none (some (a : Int))).cps.toList = x.cps.toList.take a := by
  unfold cutS
  rw [HT.sIx_nat, HT.sIx_none]
  simp only [List.drop_zero, Nat.sub_zero]
  have e : x.length = x.cps.toList.length := by rw [Array.length_toList]; rfl
  rw [e, Nat.min_eq_left h]
theorem cut_post (x : Str) (a : Nat) (h : a ≤ x.cps.toList.length) : (cutS x (some (a : Int)) none).cps.toList = x.cps.toList.drop a := by
  unfold cutS
  rw [HT.sIx_nat, HT.sIx_none]
  have e : x.length = x.cps.toList.length := by rw [Array.length_toList]; rfl
  rw [e, Nat.min_eq_left h]
  exact List.take_of_length_le (by rw [List.length_drop]; exact Nat.le_refl _)
end RS

/-! text D27 -/
set_option Elab.async false
set_option linter.all false
set_option maxRecDepth 100000
set_option maxHeartbeats 1000000
/-! The law's names. -/
namespace RS
open PySem PySem.Spec PyProof.Rows L2
theorem sc_law_names : FnScope ["_law_box_here", "_law_many", "_law_letters", "_law_size", "_law_stem", "_law_first", "_law_step", "_law_at", "_law_found", "_law_k", "_law_one", "_law_other", "_law_place"] ["_law_box_here", "_law_many"] (defScope s_law_names) := ⟨rfl, rfl, rfl, by decide +kernel, rfl, by decide +kernel, by decide +kernel⟩
variable {P : Program} {w : World} {K : PySem.W.Frag} {mg : Str → Option Value} {base : Heap}
theorem BoxA.up {H : Hp} {b D : Addr} {n : Nat} {o : HO} (B : BoxA H b n) (h : b ≠ D) : BoxA (upd H D o) b n := by
  obtain ⟨x0, x1, x2, z, z2⟩ := B
  exact ⟨x0, x1, x2, by rw [upd_ne h]; exact z, z2⟩
theorem BoxA.ne {H : Hp} {b D : Addr} {n : Nat} (B : BoxA H b n) (h : H D = none) : b ≠ D := fun e => by
  obtain ⟨_, _, _, z, _⟩ := B
  rw [e, h] at z
  cases z
def spNames (K : PySem.W.Frag) : Sp := fun vs H Q _ => ∃ (b : Addr) (n m : Nat), vs = [.ref b, .int m] ∧ BoxA H b n ∧ n < 900000 ∧ m ≤ 20 ∧ ∀ (H' : Hp) (l : Addr) (xs : List Str), KQ K (Only b) H H' → NN H l → H' l = some (.lst (xs.map V.str)) → xs.length = m → xs.Nodup → (∀ x ∈ xs, GoodN x ∧ 2 ≤ x.cps.toList.length) → BoxA H' b (n + 20) → Q (.ref l) H'
theorem d_law_names_ok (T : Tx K mg base) : Df P w K mg base CX0 2 (gA K "_law_names") (spNames K) := by
  have h_law_take := d_law_take_ok (P := P) (w := w) T
  refine df0 T.F_law_names sc_law_names (fun _ _ _ _ _ _ us hl => match us, hl with | [_, _], _ => rfl) (fun vs H Q E ⟨_, _, _, h, _⟩ => by rw [h]; rfl) fun cd A outer s H vs Q E hr h => ?_
  obtain ⟨b, n, m, rfl, B, hn, hm, q⟩ := h
  refine ⟨_, (pss_cons (ps_asg (pe_tup (pa_cons pe_str (pa_cons (pe_op op_add pe_int (pe_c h_law_take (hr.mono (by decide)) T.g_law_take (pa_cons (pv 0) (pa_cons pe_int pa_nil)))) pa_nil))) (pg_tup rfl (pgs_cons (pg_name (i := 2) sc_law_names.nd rfl (.inr rfl)) (pgs_cons (pg_name (i := 3) sc_law_names.nd rfl (.inl rfl)) pgs_nil))))
    (pss_cons (ps_set (i := 4) sc_law_names.nd rfl (.inl rfl) (pe_join pe_str (pe_lc rfl sc_law_names.nd (pi_range1 rfl T.b_range (pa_cons (pe_op op_sub (pv 3) pe_int) pa_nil)) (blkOk_by (own := [("_law_place", 12)]) (by kernel_rfl)) (fun _ _ _ _ _ => (pg_name (i := 12) sc_law_names.nd rfl (.inl rfl) (.inr rfl))) (fun _ _ _ _ _ => pts_nil) (fun _ _ _ _ _ => (pe_ix ix_str (pv 2) (pe_c h_law_take (hr.mono (by decide)) T.g_law_take (pa_cons (pv 0) (pa_cons pe_int pa_nil))) (fun _ _ => rfl))))))
    (pss_cons (ps_par3 (i := 5) (j := 6) (l := 7) rfl sc_law_names.nd rfl rfl rfl (by decide) (by decide) (by decide) rfl rfl rfl (pa_cons (pe_c h_law_take (hr.mono (by decide)) T.g_law_take (pa_cons (pv 0) (pa_cons pe_int pa_nil))) (pa_cons (pe_ix ix_list (pe_lst (pa_cons pe_int (pa_cons pe_int (pa_cons pe_int (pa_cons pe_int pa_nil))))) (pe_c h_law_take (hr.mono (by decide)) T.g_law_take (pa_cons (pv 0) (pa_cons pe_int pa_nil))) (fun _ _ => rfl)) (pa_cons (pe_c h_law_take (hr.mono (by decide)) T.g_law_take (pa_cons (pv 0) (pa_cons (pe_op op_sub (pv 3) pe_int) pa_nil))) pa_nil))) rfl)
    (pss_cons (ps_set (i := 8) sc_law_names.nd rfl (.inl rfl) (pe_lst pa_nil))
    (pss_cons (ps_for PassesOwn.never rfl (pi_range1 rfl T.b_range (pa_cons (pv 1) pa_nil)) (pg_name (i := 9) sc_law_names.nd rfl (.inl rfl)) (pss_cons (ps_asg (pe_callB call_divmod rfl T.b_divmod (by decide +kernel) (pa_cons (pe_op op_mod (pe_op op_add (pv 5) (pe_op op_mul (pv 6) (pv 9))) pe_int) (pa_cons pe_int pa_nil))) (pg_tup rfl (pgs_cons (pg_name (i := 10) sc_law_names.nd rfl (.inl rfl)) (pgs_cons (pg_name (i := 11) sc_law_names.nd rfl (.inl rfl)) pgs_nil))))
    (pss_one (ps_expr (pe_bm PySem.F.plainAttrs_list PySem.F.slot_list_append PySem.F.type_list_append mt_append (pv 8) (pa_cons (pe_op op_add_str (pe_op op_add_str (pe_op op_add_str (pe_slice sl_str (pv 4) po_none (po_some (pv 7))) (pe_ix ix_str (pv 2) (pv 10) (fun _ _ => rfl))) (pe_ix ix_str (pv 2) (pv 11) (fun _ _ => rfl))) (pe_slice sl_str (pv 4) (po_some (pv 7)) po_none)) pa_nil))))))
    (pss_one (ps_ret (pv 8)))))))), ?_⟩
  refine ⟨_, rfl, b, n, 7, rfl, B, by omega, by decide, by decide, fun H1 sz hsz k1 B1 => ?_⟩
  refine ⟨_, _, rfl, rfl, sz2, fun t0 nt0 => ?_⟩
  have bt := B1.ne nt0
  refine ⟨t0, [.str "abcdefghijklmnopqrstuvwxyz", .int (2 + sz)], rfl, sqT_new, rfl, _, _, rfl, _, _, rfl, rfl, ?_⟩
  have B1' : BoxA (upd H1 t0 (.tup [.str "abcdefghijklmnopqrstuvwxyz", .int (2 + sz)])) b (n + 1) := B1.up bt
  have k1' : KQ K (Only b) H (upd H1 t0 (.tup [.str "abcdefghijklmnopqrstuvwxyz", .int (2 + sz)])) := k1.new nt0
  generalize upd H1 t0 (.tup [.str "abcdefghijklmnopqrstuvwxyz", .int (2 + sz)]) = G at B1' k1' ⊢
  refine ⟨⟨_, rfl⟩, _, rfl, _, _, rfl, rfl, (sz : Int), congrArg (fun z => [V.int z]) (by omega), by omega, by omega, fun D nD => ?_⟩
  have bD := B1'.ne nD
  refine lc_range (lo := 0) (n := sz) (fun i H' => KQ K (Only b) G H' ∧ BoxA H' b (n + 1 + i) ∧ ∃ ys : List Str, ys.length = i ∧ (∀ y ∈ ys, ∃ c : Nat, y = ⟨#[c]⟩ ∧ 97 ≤ c ∧ c ≤ 122) ∧ H' D = some (.lst (ys.map V.str))) ⟨Kp.refl.new nD, B1'.up bD, [], rfl, (fun _ m => nomatch m), upd_same⟩ (fun i H' hi p => ?_) fun H' p => ?_
  · obtain ⟨kp, B3, ys, hy1, hy2, hD⟩ := p
    refine ⟨rfl, _, rfl, _, rfl, b, _, 26, rfl, B3, by omega, by decide, by decide, fun H4 c2 hc2 k4 B4 => ?_⟩
    refine ⟨_, _, _, rfl, rfl, by decide +kernel, atN (letter_at hc2), ?_⟩
    have hD4 := k4.lst hD (Ne.symm bD)
    refine ⟨_, hD4, by rw [List.length_map, hy1]; exact sz_lt (by omega), (kp.trans k4).mutL (.of nD) hD4, (B4.le (by omega)).up bD, ys ++ [_], by rw [List.length_append, hy1]; rfl, fun y m => ?_, by rw [upd_same, List.map_append]; rfl⟩
    rcases List.mem_append.mp m with m | m
    · exact hy2 y m
    · rw [List.mem_singleton.mp m]; exact ⟨_, rfl, by omega, by omega⟩
  obtain ⟨kp, B3, ys, hy1, hy2, hD⟩ := p
  have B3 := B3.le (show n + 1 + sz ≤ n + 7 by omega)
  have hsum : (ys.map (·.length)).sum + ys.length * ("" : Str).length ≤ 16777216 := by
    rw [sum_ones fun y m => let ⟨c, e, _⟩ := hy2 y m; ⟨c, e⟩, hy1]
    show sz + sz * 0 ≤ _
    omega
  refine ⟨_, D, ys, rfl, rfl, .inl (sqL_at hD), hsum, ?_⟩
  obtain ⟨jl, jc⟩ := joined hy2
  rw [hy1] at jl
  generalize Txt.join "" ys = stem at jl jc ⊢
  have k3 := k1'.trans kp
  clear kp hD bD nD k1' B1' k1 B1 bt nt0
  -- first, step, at
  refine ⟨_, rfl, b, _, 676, rfl, B3, by omega, by decide, by decide, fun H5 f hf k5 B5 => ?_⟩
  refine ⟨sz4, fun l nl => ⟨_, rfl, b, _, 4, rfl, B5.up (B5.ne nl), by omega, by decide, by decide, fun H6 c hc k6 B6 => ?_⟩⟩
  have bl := B5.ne nl
  obtain ⟨st, hst1, hst2⟩ : ∃ st : Nat, [V.int 1, .int 27, .int 5, .int 251][c]? = some (.int st) ∧ (st = 1 ∨ st = 27 ∨ st = 5 ∨ st = 251) := by
    match c, hc with
    | 0, _ => exact ⟨1, rfl, by simp⟩
    | 1, _ => exact ⟨27, rfl, by simp⟩
    | 2, _ => exact ⟨5, rfl, by simp⟩
    | 3, _ => exact ⟨251, rfl, by simp⟩
  refine ⟨l, _, c, _, rfl, rfl, sqL_at (k6.lst upd_same (Ne.symm bl)), atN hst1, ?_⟩
  refine ⟨_, rfl, _, rfl, _, _, rfl, rfl, b, _, 1 + sz, congrArg (fun z => [V.ref b, V.int z]) (by omega), B6, by omega, by omega, by omega, fun H7 a ha k7 B7 => ?_⟩
  refine ⟨_, _, _, rfl, sz0, fun l2 nl2 => ?_⟩
  have k7' := ((k3.trans k5).trans ((Kp.refl.new nl).trans k6)).trans k7
  have bl2 := B7.ne nl2
  have nn2 := k7'.nn nl2
  refine ⟨_, rfl, m, rfl, by omega, by omega, ?_⟩
  have hst : st ≤ 251 := by rcases hst2 with h | h | h | h <;> omega
  refine for_range (fun i σ H' => ∃ (z1 z2 z3 z4 : Option V) (xs : List Str), σ = [some (.ref b), some (.int m), some (.str "abcdefghijklmnopqrstuvwxyz"), some (.int (2 + sz)), some (.str stem), some (.int f), some (.int st), some (.int a), some (.ref l2), z1, z2, z3, z4] ∧ KQ K (Only b) H H' ∧ BoxA H' b (n + 10) ∧ H' l2 = some (.lst (xs.map V.str)) ∧ xs.map (·.cps.toList) = (List.range i).map fun k => nmL stem.cps.toList a ((f + st * k) % 676))
    ⟨_, _, _, _, [], rfl, k7'.new nl2, (B7.le (by omega)).up bl2, upd_same, rfl⟩ (fun i σ H' hi p => ?_) fun σ H' p => ?_
  · obtain ⟨z1, z2, z3, z4, xs, rfl, kp, B8, hl, hx⟩ := p
    have hxl : xs.length = i := by
      have z := congrArg List.length hx
      rw [List.length_map, List.length_map, List.length_range] at z
      exact z
    have hv : (f + st * i) % 676 < 676 := Nat.mod_lt _ (by decide)
    have em : ((st : Int) * ((0 : Int) + (i : Nat))) = ((st * i : Nat) : Int) := by rw [Int.zero_add]; exact (Int.natCast_mul st i).symm
    have ev : ((f : Int) + (st : Int) * ((0 : Int) + (i : Nat))) % 676 = (((f + st * i) % 676 : Nat) : Int) := by rw [em]; omega
    refine ⟨_, rfl, _, rfl, _, rfl, _, _, rfl, rfl, .inl ⟨by omega, by omega⟩, _, _, rfl, rfl, _, 676, rfl, rfl, (show (0 : Int) < 676 by decide), _, 26, rfl, ⟨by decide, by decide⟩, fun p np => ?_⟩
    rw [ev]
    generalize hvv : (f + st * i) % 676 = v at hv ⊢
    have e1 : ((v : Nat) : Int) / 26 = ((v / 26 : Nat) : Int) := by omega
    have e2 : ((v : Nat) : Int) % 26 = ((v % 26 : Nat) : Int) := by omega
    rw [e1, e2]
    have bp := B8.ne np
    have kp2 := kp.new np (o := .tup [.int (v / 26 : Nat), .int (v % 26 : Nat)])
    have hl2 : upd H' p (.tup [.int (v / 26 : Nat), .int (v % 26 : Nat)]) l2 = some (.lst (xs.map V.str)) := by rw [upd_ne (ne_of_none hl np)]; exact hl
    refine ⟨p, [.int (v / 26 : Nat), .int (v % 26 : Nat)], rfl, sqT_new, rfl, _, _, rfl, _, _, rfl, rfl, ?_⟩
    have hal : a ≤ stem.cps.toList.length := by omega
    have hsl : stem.length = stem.cps.toList.length := by rw [Array.length_toList]; rfl
    have lenS : ∀ z : Str, z.length = z.cps.toList.length := fun z => by rw [Array.length_toList]; rfl
    have c1 := cut_pre stem a hal
    have c2 := cut_post stem a hal
    refine ⟨_, rfl, tyl hl2, _, rfl, _, rfl, _, rfl, stem, rfl, by rw [hsl, jl]; exact sz_le (by omega), ?_⟩
    generalize cutS stem none (some (a : Int)) = pre at c1 ⊢
    have lp : pre.length ≤ 6 := by rw [lenS, c1, List.length_take]; omega
    refine ⟨_, rfl, _, rfl, _, _, _, rfl, rfl, by decide +kernel, atN (letter_at (by omega)), _, _, rfl, rfl, sz_le (by show pre.length + 1 ≤ _; omega), ?_⟩
    have t1 : (pre ++ (⟨#[97 + v / 26]⟩ : Str)).cps.toList = stem.cps.toList.take a ++ [97 + v / 26] := by rw [← c1]; exact TL.tl_append _ _
    generalize pre ++ (⟨#[97 + v / 26]⟩ : Str) = s1 at t1 ⊢
    have l1 : s1.length ≤ 7 := by rw [lenS, t1, List.length_append, List.length_take, List.length_singleton]; omega
    refine ⟨_, rfl, _, rfl, _, _, _, rfl, rfl, by decide +kernel, atN (letter_at (by omega)), _, _, rfl, rfl, sz_le (by show s1.length + 1 ≤ _; omega), ?_⟩
    have t2 : (s1 ++ (⟨#[97 + v % 26]⟩ : Str)).cps.toList = s1.cps.toList ++ [97 + v % 26] := TL.tl_append _ _
    generalize s1 ++ (⟨#[97 + v % 26]⟩ : Str) = s2 at t2 ⊢
    have l2' : s2.length ≤ 8 := by rw [lenS, t2, List.length_append, List.length_singleton, ← lenS]; omega
    refine ⟨_, rfl, _, rfl, _, rfl, stem, rfl, by rw [hsl, jl]; exact sz_le (by omega), ?_⟩
    generalize cutS stem (some (a : Int)) none = post at c2 ⊢
    have lq : post.length ≤ 6 := by rw [lenS, c2, List.length_drop]; omega
    refine ⟨_, _, rfl, rfl, sz_le (by omega), ?_⟩
    have t3 : (s2 ++ post).cps.toList = s2.cps.toList ++ post.cps.toList := TL.tl_append _ _
    generalize s2 ++ post = s3 at t3 ⊢
    refine ⟨l2, _, _, rfl, rfl, hl2, by rw [List.length_map, hxl]; exact sz_lt (by omega), ?_⟩
    refine ⟨_, _, _, _, xs ++ [s3], rfl, kp2.mutL nn2 hl2, ?_, by rw [upd_same, List.map_append]; rfl, ?_⟩
    · exact (B8.up bp).up bl2
    · rw [List.map_append, hx, List.range_succ, List.map_append]
      congr 1
      rw [List.map_singleton, List.map_singleton, t3, t2, t1, c2, hvv]
      unfold nmL
      rw [List.append_assoc, List.append_assoc]
  · obtain ⟨z1, z2, z3, z4, xs, rfl, kp, B8, hl, hx⟩ := p
    refine ⟨_, rfl, ?_⟩
    have hxl : xs.length = m := by
      have z := congrArg List.length hx
      rw [List.length_map, List.length_map, List.length_range] at z
      exact z
    have nd : (xs.map (·.cps.toList)).Nodup := by
      rw [hx]
      refine List.Pairwise.map _ (fun j k (h : j < k ∧ k < 20) e => steps_ne (f := f) hst2 h.1 h.2 (nmL_inj e)) ?_
      have z := List.pairwise_lt_range (n := m)
      exact z.imp_of_mem fun {j k} hj hk h => ⟨h, by have := List.mem_range.mp hk; omega⟩
    refine q H' l2 xs kp nn2 hl hxl ((List.pairwise_map.mp nd).imp fun h e => h (by rw [e])) (fun x mx => ?_) (B8.le (by omega))
    have z : x.cps.toList ∈ xs.map (·.cps.toList) := List.mem_map.mpr ⟨x, mx, rfl⟩
    rw [hx] at z
    obtain ⟨k, _, e⟩ := List.mem_map.mp z
    exact good_of e.symm jc (by omega) (Nat.mod_lt _ (by decide))
end RS

/-! text D28 -/
set_option Elab.async false
set_option linter.all false
set_option maxRecDepth 100000
set_option maxHeartbeats 1000000
/-! The law's settings. -/
namespace RS
open PySem PySem.Spec PyProof.Rows L2
theorem sc_law_twin : FnScope ["_law_name", "_law_letters", "_law_one", "_law_other"] ["_law_name"] (defScope s_law_twin) := ⟨rfl, rfl, rfl, by decide +kernel, rfl, by decide +kernel, by decide +kernel⟩
variable {P : Program} {w : World} {K : PySem.W.Frag} {mg : Str → Option Value} {base : Heap}
def Good2 (x : Str) : Prop := GoodN x ∧ 2 ≤ x.cps.toList.length
def spTwin (K : PySem.W.Frag) : Sp := fun vs H Q _ => ∃ x, vs = [.str x] ∧ Good2 x ∧ ∀ y, Good2 y → Q (.str y) H
theorem d_law_twin_ok (T : Tx K mg base) : Df P w K mg base CX0 1 (gA K "_law_twin") (spTwin K) := by
  refine df0 T.F_law_twin sc_law_twin (fun _ _ _ _ _ _ us hl => match us, hl with | [_], _ => rfl) (fun vs H Q E ⟨_, h, _⟩ => by rw [h]; rfl) fun cd A outer s H vs Q E hr h => ?_
  obtain ⟨x, rfl, ⟨g, g2⟩, q⟩ := h
  refine ⟨_, (pss_cons (ps_set (i := 1) sc_law_twin.nd rfl (.inl rfl) pe_str)
    (pss_cons (ps_par (i := 2) (j := 3) rfl sc_law_twin.nd rfl rfl (by decide) rfl rfl (pa_cons (pe_m1 PySem.F.slot_str_index PySem.F.type_str_index mt_sindex (pv 1) (pe_ix ix_str (pv 0) pe_int (fun _ _ => rfl))) (pa_cons (pe_m1 PySem.F.slot_str_index PySem.F.type_str_index mt_sindex (pv 1) (pe_ix ix_str (pv 0) pe_int (fun _ _ => rfl))) pa_nil)) rfl)
    (pss_cons (ps_if (PW.pt (pw_and (pt_cmpR op_lt (pv 2) pe_int rfl) (pw_and1 (pt_cmpR op_gt (pv 3) pe_int rfl)))) (pss_one (ps_ret (pe_op op_add_str (pe_op op_add_str (pe_ix ix_str (pv 1) (pe_op op_add (pv 2) pe_int) (fun _ _ => rfl)) (pe_ix ix_str (pv 1) (pe_op op_sub (pv 3) pe_int) (fun _ _ => rfl))) (pe_slice sl_str (pv 0) (po_some pe_int) po_none)))) pss_nil)
    (pss_one (ps_ret (pv 0)))))), ?_⟩
  have lenS : ∀ z : Str, z.length = z.cps.toList.length := fun z => by rw [Array.length_toList]; rfl
  obtain ⟨c0, c1, r, hx⟩ : ∃ c0 c1 r, x.cps.toList = c0 :: c1 :: r := by
    match hx : x.cps.toList, g2 with
    | c0 :: c1 :: r, _ => exact ⟨c0, c1, r, rfl⟩
  have h0 := g.az c0 (by rw [hx]; exact List.mem_cons_self ..)
  have h1 := g.az c1 (by rw [hx]; exact List.mem_cons_of_mem _ (List.mem_cons_self ..))
  have a0 : x.cps.toList[0]? = some c0 := by rw [hx]; rfl
  have a1 : x.cps.toList[1]? = some c1 := by rw [hx]; rfl
  have hz : x.length ≤ sizeLine := by rw [lenS]; exact sz_le (by have := g.le; omega)
  refine ⟨_, rfl, ⟨_, rfl⟩, _, rfl, _, _, _, rfl, rfl, hz, atN (n := 0) a0, _, _, c0 - 97, [], rfl, rfl, occ_sign h0, ?_⟩
  refine ⟨_, rfl, ⟨_, rfl⟩, _, rfl, _, _, _, rfl, rfl, hz, atN (n := 1) a1, _, _, c1 - 97, [], rfl, rfl, occ_sign h1, _, _, rfl, ?_⟩
  refine ⟨_, rfl, _, _, rfl, rfl, _, rfl, ?_⟩
  by_cases e0 : c0 - 97 < 24
  · rw [decide_eq_true (show ((c0 - 97 : Nat) : Int) < 24 by omega)]
    refine ⟨_, rfl, _, _, rfl, rfl, _, rfl, ?_⟩
    by_cases e1 : 0 < c1 - 97
    · rw [decide_eq_true (show (0 : Int) < ((c1 - 97 : Nat) : Int) by omega)]
      have p0 : ((c0 - 97 : Nat) : Int) + 2 = ((c0 - 97 + 2 : Nat) : Int) := by omega
      have p1 : ((c1 - 97 : Nat) : Int) - 1 = ((c1 - 97 - 1 : Nat) : Int) := by omega
      refine ⟨_, rfl, _, rfl, _, _, rfl, rfl, _, _, _, rfl, rfl, by decide +kernel, by rw [p0]; exact atN (letter_at (by omega)), ?_⟩
      refine ⟨_, rfl, _, rfl, _, _, rfl, rfl, _, _, _, rfl, rfl, by decide +kernel, by rw [p1]; exact atN (letter_at (by omega)), _, _, rfl, rfl, sz2, ?_⟩
      have cc : (cutS x (some (2 : Int)) none).cps.toList = x.cps.toList.drop 2 := cut_post x 2 (by omega)
      refine ⟨_, rfl, 2, rfl, x, rfl, hz, ?_⟩
      generalize cutS x (some (2 : Int)) none = post at cc ⊢
      have lp : post.length ≤ 6 := by rw [lenS, cc, List.length_drop]; have := g.le; omega
      have t : (((⟨#[97 + (c0 - 97 + 2)]⟩ : Str) ++ (⟨#[97 + (c1 - 97 - 1)]⟩ : Str)) ++ post).cps.toList = [97 + (c0 - 97 + 2), 97 + (c1 - 97 - 1)] ++ post.cps.toList := TL.tl_append _ _
      refine ⟨_, _, rfl, rfl, sz_le (by show 2 + post.length ≤ _; omega), q _ ⟨⟨?_, ?_, fun c m => ?_⟩, ?_⟩⟩
      · rw [t]; exact fun z => nomatch z
      · rw [t, List.length_append, ← lenS]; show 2 + _ ≤ _; omega
      · rw [t, cc] at m
        rcases List.mem_append.mp m with m | m
        · rcases List.mem_cons.mp m with m | m
          · rw [m]; omega
          · rw [List.mem_singleton.mp m]; omega
        · exact g.az c (List.mem_of_mem_drop m)
      · rw [t, List.length_append]; show 2 ≤ 2 + _; omega
    · rw [decide_eq_false (show ¬ (0 : Int) < ((c1 - 97 : Nat) : Int) by omega)]
      exact ⟨_, rfl, q x ⟨g, g2⟩⟩
  · rw [decide_eq_false (show ¬ ((c0 - 97 : Nat) : Int) < 24 by omega)]
    exact ⟨_, rfl, q x ⟨g, g2⟩⟩
end RS

/-! text D29 -/
set_option Elab.async false
set_option linter.all false
set_option maxRecDepth 100000
set_option maxHeartbeats 1000000
/-! The law's settings. -/
namespace RS
open PySem PySem.Spec PyProof.Rows L2
theorem sc_law_settings : FnScope ["_law_box_here", "_law_many", "_law_names_here", "_law_found", "_law_k", "_law_name", "_law_own"] ["_law_box_here", "_law_many"] (defScope s_law_settings) := ⟨rfl, rfl, rfl, by decide +kernel, rfl, by decide +kernel, by decide +kernel⟩
variable {P : Program} {w : World} {K : PySem.W.Frag} {mg : Str → Option Value} {base : Heap}
theorem inV_strF {n : Str} {ns : List Str} (h : inV (.str n) (ns.map V.str) = false) : n ∉ ns := fun m => by rw [inV_str m] at h; cases h
theorem allflat (ns : List Str) : (ns.map V.str).all flatV = true := by
  rw [List.all_map]
  exact List.all_eq_true.mpr fun _ _ => rfl
def PrAt (H : Hp) (t : Addr) (d : Str × V) : Prop := H t = some (.tup [.str d.1, d.2])
theorem PrAt.kp {H H1 : Hp} {T : Tbs} {M : Addr → Prop} (k : Kp T M H H1) : ∀ {ts : List Addr} {ds : List (Str × V)}, Paired (PrAt H) ts ds → Paired (PrAt H1) ts ds
  | [], [], _ => .nil
  | _ :: _, _ :: _, .cons h t => .cons (k.tup h) (PrAt.kp k t)
def spSettings (K : PySem.W.Frag) : Sp := fun vs H Q _ => ∃ (b : Addr) (n m : Nat), vs = [.ref b, .int m] ∧ BoxA H b n ∧ n < 800000 ∧ m ≤ 20 ∧ ∀ (H' : Hp) (l : Addr) (ts : List Addr) (ds : List (Str × V)), KQ K (Only b) H H' → NN H l → H' l = some (.lst (ts.map V.ref)) → Paired (PrAt H') ts ds → (ds.map (·.1)).Nodup → ds.length = m → (∀ d ∈ ds, Good2 d.1 ∧ Sc d.2) → BoxA H' b (n + 1100) → Q (.ref l) H'
theorem d_law_settings_ok (T : Tx K mg base) : Df P w K mg base CX0 3 (gA K "_law_settings") (spSettings K) := by
  have h_law_names := d_law_names_ok (P := P) (w := w) T
  have h_law_twin := d_law_twin_ok (P := P) (w := w) T
  have h_law_value := d_law_value_ok (P := P) (w := w) T
  have h_law_take := d_law_take_ok (P := P) (w := w) T
  refine df0 T.F_law_settings sc_law_settings (fun _ _ _ _ _ _ us hl => match us, hl with | [_, _], _ => rfl) (fun vs H Q E ⟨_, _, _, h, _⟩ => by rw [h]; rfl) fun cd A outer s H vs Q E hr h => ?_
  obtain ⟨b, n, m, rfl, B, hn, hm, q⟩ := h
  refine ⟨_, (pss_cons (ps_par (i := 2) (j := 3) rfl sc_law_settings.nd rfl rfl (by decide) rfl rfl (pa_cons (pe_c h_law_names (hr.mono (by decide)) T.g_law_names (pa_cons (pv 0) (pa_cons (pv 1) pa_nil))) (pa_cons (pe_lst pa_nil) pa_nil)) rfl)
    (pss_cons (ps_for PassesOwn.never rfl (pi_enum rfl T.b_enumerate (pa_cons (pv 2) pa_nil)) (pg_tup rfl (pgs_cons (pg_name (i := 4) sc_law_settings.nd rfl (.inl rfl)) (pgs_cons (pg_name (i := 5) sc_law_settings.nd rfl (.inl rfl)) pgs_nil))) (pss_cons (ps_set (i := 6) sc_law_settings.nd rfl (.inl rfl) (pe_c h_law_twin (hr.mono (by decide)) T.g_law_twin (pa_cons (pe_ix ix_list (pv 2) (pe_op op_sub (pv 4) pe_int) (fun _ _ => rfl)) pa_nil)))
    (pss_one (ps_expr (pe_bm PySem.F.plainAttrs_list PySem.F.slot_list_append PySem.F.type_list_append mt_append (pv 3) (pa_cons (pe_ifExp (PW.pt (pw_and (pt_cmpR op_eq (pe_op op_mod (pv 4) pe_int) pe_int rfl) (pw_and1 (pt_cmpR op_notIn_seq (pv 6) (pe_op op_cat (pv 2) (pv 3)) rfl)))) (pv 6) (pv 5)) pa_nil))))))
    (pss_one (ps_ret (pe_lc rfl sc_law_settings.nd (pi_list (pv 3)) (blkOk_by (own := [("_law_name", 5)]) (by kernel_rfl)) (fun _ _ _ _ _ => (pg_name (i := 5) sc_law_settings.nd rfl (.inl rfl) (.inr rfl))) (fun _ _ _ _ _ => pts_nil) (fun _ _ _ _ _ => (pe_tup (pa_cons (pv 5) (pa_cons (pe_ix (ix_listK K) (pe_lst (pa_cons pe_non (pa_cons (pe_c h_law_value (hr.mono (by decide)) T.g_law_value (pa_cons (pv 0) pa_nil)) pa_nil))) (pe_c h_law_take (hr.mono (by decide)) T.g_law_take (pa_cons (pv 0) (pa_cons pe_int pa_nil))) (fun _ _ => rfl)) pa_nil))))))))), ?_⟩
  refine ⟨_, rfl, _, rfl, b, n, m, rfl, B, by omega, hm, fun H1 l1 xs k1 nn1 hl1 hlen hnd hgood B1 => ⟨sz0, fun f nf => ⟨_, _, rfl, ?_⟩⟩⟩
  have bf := B1.ne nf
  have nnf := k1.nn nf
  have l1b : l1 ≠ b := by obtain ⟨_, _, _, z, _⟩ := B; exact nn_ne z nn1
  have lf : l1 ≠ f := ne_of_none hl1 nf
  have kf := k1.new nf (o := .lst [])
  refine ⟨_, rfl, l1, _, rfl, sqL_at (show upd H1 f (.lst []) l1 = _ by rw [upd_ne lf]; exact hl1), ?_⟩
  refine for_enum (xs := xs.map V.str) (fun i σ H' => ∃ (z1 z2 z3 : Option V) (ys : List Str), σ = [some (.ref b), some (.int m), some (.ref l1), some (.ref f), z1, z2, z3] ∧ KQ K (Only b) H H' ∧ H' l1 = some (.lst (xs.map V.str)) ∧ BoxA H' b (n + 20) ∧ H' f = some (.lst (ys.map V.str)) ∧ ys.length = i ∧ ys.Nodup ∧ (∀ y ∈ ys, Good2 y) ∧ (∀ y ∈ ys, y ∈ xs → y ∈ xs.take i))
    ⟨_, _, _, [], rfl, kf, by rw [upd_ne lf]; exact hl1, B1.up bf, upd_same, rfl, List.nodup_nil, (fun _ m => nomatch m), fun _ m => nomatch m⟩ (fun i σ H' _ p => by obtain ⟨_, _, _, _, _, _, z, _⟩ := p; exact sqL_at z) (fun i x σ H' t hx p nt => ?_) fun σ H' p => ?_
  · obtain ⟨z1, z2, z3, ys, rfl, kp, hl, B2, hf, hyl, hyn, hyg, hyx⟩ := p
    rw [List.getElem?_map] at hx
    cases hi : xs[i]? with
    | none => rw [hi] at hx; cases hx
    | some nm =>
      rw [hi] at hx
      cases hx
      have hil : i < xs.length := (List.getElem?_eq_some_iff.mp hi).1
      have k2 := kp.new nt (o := .tup [.int (i : Nat), .str nm])
      have hl2 : upd H' t (.tup [.int (i : Nat), .str nm]) l1 = some (.lst (xs.map V.str)) := by rw [upd_ne (ne_of_none hl nt)]; exact hl
      have hf2 : upd H' t (.tup [.int (i : Nat), .str nm]) f = some (.lst (ys.map V.str)) := by rw [upd_ne (ne_of_none hf nt)]; exact hf
      have B3 : BoxA (upd H' t (.tup [.int (i : Nat), .str nm])) b (n + 20) := B2.up (B2.ne nt)
      refine ⟨t, [.int (i : Nat), .str nm], rfl, sqT_new, rfl, _, _, rfl, _, _, rfl, rfl, ?_⟩
      obtain ⟨pv, hpv, hpg⟩ : ∃ pv, atI (xs.map V.str) ((i : Int) - 1) = some (.str pv) ∧ Good2 pv := by
        rcases Nat.eq_zero_or_pos i with h | h
        · rcases snoc_cases xs with e | ⟨a, z, e⟩
          · rw [e] at hil; exact absurd hil (Nat.not_lt_zero _)
          · refine ⟨z, ?_, hgood z (by rw [e]; exact List.mem_append_right _ (List.mem_singleton.mpr rfl))⟩
            rw [h, e, List.map_append]
            exact last1
        · refine ⟨xs[i - 1], ?_, hgood _ (List.getElem_mem _)⟩
          rw [show ((i : Int) - 1) = ((i - 1 : Nat) : Int) by omega]
          exact atN (by rw [List.getElem?_map, List.getElem?_eq_getElem (by omega)]; rfl)
      refine ⟨_, rfl, _, rfl, _, _, rfl, rfl, l1, _, _, _, rfl, rfl, sqL_at hl2, hpv, pv, rfl, hpg, fun own hown => ?_⟩
      have push : ∀ (nw : Str) (G : Hp), KQ K M0 (upd H' t (.tup [.int (i : Nat), .str nm])) G → Good2 nw → nw ∉ ys → (nw ∈ xs → nw ∈ xs.take (i + 1)) → ys.length < sizeLine ∧ ∃ (z1 z2 z3 : Option V) (ys' : List Str), [some (V.ref b), some (.int m), some (.ref l1), some (.ref f), some (.int (i : Nat)), some (.str nm), some (.str own)] = [some (.ref b), some (.int m), some (.ref l1), some (.ref f), z1, z2, z3] ∧ KQ K (Only b) H (upd G f (.lst (ys.map V.str ++ [.str nw]))) ∧ upd G f (.lst (ys.map V.str ++ [.str nw])) l1 = some (.lst (xs.map V.str)) ∧ BoxA (upd G f (.lst (ys.map V.str ++ [.str nw]))) b (n + 20) ∧ upd G f (.lst (ys.map V.str ++ [.str nw])) f = some (.lst (ys'.map V.str)) ∧ ys'.length = i + 1 ∧ ys'.Nodup ∧ (∀ y ∈ ys', Good2 y) ∧ (∀ y ∈ ys', y ∈ xs → y ∈ xs.take (i + 1)) := fun nw G kG gw nys nx => by
        refine ⟨sz_lt (by omega), _, _, _, ys ++ [nw], rfl, (k2.trans kG.m0).mutL nnf (kG.at_ hf2), by rw [upd_ne lf]; exact kG.at_ hl2, (B3.kp kG id).up bf, by rw [upd_same, List.map_append]; rfl, by rw [List.length_append, hyl]; rfl, ?_, fun y my => ?_, fun y my mx => ?_⟩
        · rw [List.nodup_append]
          exact ⟨hyn, by simp, fun a ha c hc e => by rw [List.mem_singleton.mp hc] at e; rw [e] at ha; exact nys ha⟩
        · rcases List.mem_append.mp my with my | my
          · exact hyg y my
          · rw [List.mem_singleton.mp my]; exact gw
        · rcases List.mem_append.mp my with my | my
          · exact List.mem_of_mem_take (l := xs.take (i + 1)) (i := i) (by rw [List.take_take, Nat.min_eq_left (by omega)]; exact hyx y my mx)
          · rw [List.mem_singleton.mp my] at mx ⊢; exact nx mx
      have nmx : nm ∉ ys := fun mm => by
        have z := hyx nm mm (List.mem_of_getElem? hi)
        obtain ⟨j, hj, e⟩ := List.mem_iff_getElem.mp z
        rw [List.getElem_take] at e
        rw [List.length_take] at hj
        have e2 := (List.getElem?_eq_some_iff.mp hi).2
        have e3 := (List.getElem_inj hnd).mp (e.trans e2.symm)
        omega
      have nmt : nm ∈ xs.take (i + 1) := by rw [List.take_add_one, hi]; exact List.mem_append_right _ (List.mem_singleton.mpr rfl)
      have gnm := hgood nm (List.mem_of_getElem? hi)
      refine ⟨_, rfl, tyl hf2, ?_⟩
      refine ⟨_, rfl, _, 3, rfl, rfl, (show (0 : Int) < 3 by decide), rfl, _, rfl, ?_⟩
      have plain : ∀ G : Hp, KQ K M0 (upd H' t (.tup [.int (i : Nat), .str nm])) G → _ := fun G kG => push nm G kG gnm nmx fun _ => nmt
      by_cases e3 : decide (V.int ((i : Int) % 3) = V.int 2) = true
      · rw [e3]
        refine ⟨_, rfl, _, rfl, _, rfl, l1, f, _, _, rfl, rfl, hl2, hf2, by rw [List.length_map, List.length_map]; exact sz_le (by omega), fun p np => ?_⟩
        rw [← List.map_append]
        have kP : KQ K M0 _ _ := (Kp.refl (T := TT K) (M := M0) (H := upd H' t (.tup [.int (i : Nat), .str nm]))).new np (o := .lst ((xs ++ ys).map V.str))
        refine ⟨p, _, rfl, .inl (sqL_at upd_same), rfl, allflat _, _, rfl, ?_⟩
        cases hb : inV (V.str own) ((xs ++ ys).map V.str) with
        | true =>
          obtain ⟨s1, s2⟩ := plain _ kP
          exact ⟨_, rfl, f, _, _, rfl, rfl, kP.at_ hf2, by rw [List.length_map]; exact s1, s2⟩
        | false =>
          have z := inV_strF hb
          obtain ⟨s1, s2⟩ := push own _ kP hown (fun mm => z (List.mem_append_right _ mm)) fun mm => absurd (List.mem_append_left _ mm) z
          exact ⟨_, rfl, f, _, _, rfl, rfl, kP.at_ hf2, by rw [List.length_map]; exact s1, s2⟩
      · rw [Bool.not_eq_true] at e3
        rw [e3]
        obtain ⟨s1, s2⟩ := plain _ Kp.refl
        exact ⟨_, rfl, f, _, _, rfl, rfl, hf2, by rw [List.length_map]; exact s1, s2⟩
  · obtain ⟨z1, z2, z3, ys, rfl, kp, hl, B2, hf, hyl, hyn, hyg, hyx⟩ := p
    rw [List.length_map] at hyl
    refine ⟨_, rfl, f, rfl, ⟨_, sqL_at hf⟩, fun D nD => ?_⟩
    have bD := B2.ne nD
    have fb : f ≠ b := Ne.symm bf
    have nnD := kp.nn nD
    have fD : f ≠ D := ne_of_none hf nD
    refine lc_list (xs := ys.map V.str) (fun i H2 => ∃ (ts : List Addr) (ds : List (Str × V)), KQ K (Only b) H' H2 ∧ BoxA H2 b (n + 20 + 51 * i) ∧ H2 D = some (.lst (ts.map V.ref)) ∧ Paired (PrAt H2) ts ds ∧ ds.map (·.1) = ys.take i ∧ ∀ d ∈ ds, Sc d.2) ⟨[], [], Kp.refl.new nD, B2.up bD, upd_same, .nil, rfl, fun _ m => nomatch m⟩ (fun i H2 _ p => by obtain ⟨_, _, k, _⟩ := p; exact sqL_at (k.lst hf fb)) (fun i x H2 hx p => ?_) fun H2 p => ?_
    · obtain ⟨ts, ds, k2, B3, hD, hpr, hds, hsc⟩ := p
      rw [List.getElem?_map] at hx
      cases hi : ys[i]? with
      | none => rw [hi] at hx; cases hx
      | some nm =>
        rw [hi] at hx
        cases hx
        have hil : i < ys.length := (List.getElem?_eq_some_iff.mp hi).1
        have hdl : ds.length = i := by
          have z := congrArg List.length hds
          rw [List.length_map, List.length_take] at z
          omega
        have htl : ts.length = i := (Paired.length hpr).trans hdl
        refine ⟨rfl, _, rfl, _, rfl, b, _, rfl, B3, by omega, fun H3 v hv k3 B4 => ⟨sz2, fun l nl => ?_⟩⟩
        have bl := B4.ne nl
        have B5 : BoxA (upd H3 l (.lst [.non, v])) b (n + 20 + 51 * i + 50) := B4.up bl
        refine ⟨_, rfl, b, _, 2, rfl, B5, by omega, by decide, by decide, fun H4 c hc k4 B6 => ?_⟩
        have kl : KQ K (Only b) H3 (upd H3 l (.lst [.non, v])) := Kp.refl.new nl
        obtain ⟨u, hu, husc⟩ : ∃ u, [V.non, v][c]? = some u ∧ Sc u := by
          match c, hc with
          | 0, _ => exact ⟨_, rfl, .inl rfl⟩
          | 1, _ => exact ⟨_, rfl, .inr hv⟩
        refine ⟨l, _, c, u, rfl, rfl, sqL_at (k4.lst upd_same (Ne.symm bl)), atN hu, sz2, fun t nt => ?_⟩
        have k5 : KQ K (Only b) H2 H4 := (k3.trans kl).trans k4
        have k6 := k5.new nt (o := .tup [.str nm, u])
        have bt := B6.ne nt
        have hD6 := k6.lst hD (Ne.symm bD)
        · refine ⟨_, hD6, by rw [List.length_map, htl]; exact sz_lt (by omega), ts ++ [t], ds ++ [(nm, u)], ?_, ((B6.up bt).up bD).le (by omega), by rw [upd_same, List.map_append]; rfl, ?_, by rw [List.map_append, hds, List.take_add_one, hi]; rfl, fun d m => ?_⟩
          · exact (k2.trans k6).mutL (.of nD) hD6
          · have kk : KQ K (Only D) _ _ := (Kp.refl (T := TT K) (M := Only D)).updL rfl hD6 (ys := ts.map V.ref ++ [.ref t])
            exact (PrAt.kp kk (PrAt.kp k6 hpr)).snoc (kk.tup upd_same)
          · rcases List.mem_append.mp m with m | m
            · exact hsc d m
            · rw [List.mem_singleton.mp m]; exact husc
    · obtain ⟨ts, ds, k2, B3, hD, hpr, hds, hsc⟩ := p
      rw [List.length_map, List.take_length] at hds
      rw [List.length_map] at B3
      have hdl : ds.length = m := by
        have z := congrArg List.length hds
        rw [List.length_map] at z
        omega
      refine q H2 D ts ds (kp.trans k2) nnD hD hpr (by rw [hds]; exact hyn) hdl (fun d m => ⟨hyg _ (by rw [← hds]; exact List.mem_map.mpr ⟨d, m, rfl⟩), hsc d m⟩) (B3.le (by omega))
end RS

/-! text D30 -/
set_option Elab.async false
set_option linter.all false
set_option maxRecDepth 100000
set_option maxHeartbeats 1000000
/-! The law's comparison. -/
namespace RS
open PySem PySem.Spec PyProof.Rows L2
theorem sc_law_same : FnScope ["_law_found", "_law_due", "_law_one", "_law_other"] ["_law_found", "_law_due"] (defScope s_law_same) := ⟨rfl, rfl, rfl, by decide +kernel, rfl, by decide +kernel, by decide +kernel⟩
variable {P : Program} {w : World} {K : PySem.W.Frag} {mg : Str → Option Value} {base : Heap}
/-- alike to the law, d lists or tuples deep -/
def SameV (H : Hp) : Nat → V → V → Prop
  | 0, _, _ => False
  | d + 1, x, y => ∃ (a b : Addr) (xs ys : List V), x = .ref a ∧ y = .ref b ∧ ((H a = some (.lst xs) ∧ H b = some (.lst ys)) ∨ (H a = some (.tup xs) ∧ H b = some (.tup ys))) ∧ xs.length = ys.length ∧ xs.length < 1000 ∧ ∀ (i : Nat) (x y : V), xs[i]? = some x → ys[i]? = some y → (Sc x ∧ x = y ∧ 1 ≤ d) ∨ SameV H d x y
theorem SameV.kp {H H1 : Hp} {T : Tbs} (k : Kp T M0 H H1) : ∀ {d : Nat} {x y : V}, SameV H d x y → SameV H1 d x y
  | d + 1, x, y, ⟨a, b, xs, ys, e1, e2, h, l1, l2, q⟩ => ⟨a, b, xs, ys, e1, e2, h.elim (fun ⟨p, q⟩ => .inl ⟨k.at_ p, k.at_ q⟩) (fun ⟨p, q⟩ => .inr ⟨k.tup p, k.tup q⟩), l1, l2, fun i x y p1 p2 => (q i x y p1 p2).imp id (SameV.kp k)⟩
theorem SameV.pos {H : Hp} : ∀ {d : Nat} {x y : V}, SameV H d x y → 1 ≤ d
  | d + 1, _, _, _ => Nat.le_add_left ..
theorem sc_not_bool {K : PySem.W.Frag} {H : Hp} {x : V} (h : Sc x) : ∃ t, TyX K H x t ∧ PySem.W.kitOne K t (.type "bool") = some false ∧ PySem.W.kitAny K t [.type "list", .type "tuple"] = some false := by
  rcases h.cases with rfl | ⟨i, rfl⟩ | ⟨i, rfl⟩
  · exact ⟨_, .base .non, kit_ty (by decide +kernel), kitAny_cons (b := false) (kit_ty (by decide +kernel)) (fun _ => kitAny_cons (b := false) (kit_ty (by decide +kernel)) (fun _ => kitAny_nil) (fun z => nomatch z)) (fun z => nomatch z)⟩
  · exact ⟨_, .base (.int _), kit_ty (by decide +kernel), kitAny_cons (b := false) (kit_ty (by decide +kernel)) (fun _ => kitAny_cons (b := false) (kit_ty (by decide +kernel)) (fun _ => kitAny_nil) (fun z => nomatch z)) (fun z => nomatch z)⟩
  · exact ⟨_, .base (.str _), kit_ty (by decide +kernel), kitAny_cons (b := false) (kit_ty (by decide +kernel)) (fun _ => kitAny_cons (b := false) (kit_ty (by decide +kernel)) (fun _ => kitAny_nil) (fun z => nomatch z)) (fun z => nomatch z)⟩
theorem scal_sc {x y : V} (h1 : Sc x) (h2 : Sc y) : scal x y = true := by
  rcases h1.cases with rfl | ⟨i, rfl⟩ | ⟨i, rfl⟩ <;> rcases h2.cases with rfl | ⟨j, rfl⟩ | ⟨j, rfl⟩ <;> rfl
theorem lc_zipL {K : PySem.W.Frag} {a b : Addr} {xs ys : List V} {g : TG} {tt : L2.TT} {te : TE} {vs : List Nat} {σ : L2.St} {H1 : Hp} {D : Addr} {Qd : Hp → Prop} (hl : xs.length = ys.length) (Pv : Nat → Hp → Prop) (h0 : Pv 0 (upd H1 D (.lst []))) (hq : ∀ i H, Pv i H → SqL K H a xs ∧ SqL K H b ys)
    (hs : ∀ i x y H T, xs[i]? = some x → ys[i]? = some y → Pv i H → H T = none → g (.ref T) (wipe σ vs) (upd H T (.tup [x, y])) fun σ2 H2 => wipe σ2 vs = wipe σ vs ∧ tt σ2 H2 fun b H3 =>
      if b = true then te σ2 H3 fun y H4 => ∃ acc, H4 D = some (.lst acc) ∧ acc.length < sizeLine ∧ Pv (i + 1) (upd H4 D (.lst (acc ++ [y]))) else Pv (i + 1) H3) (hd : ∀ H, Pv xs.length H → Qd H) :
    ∃ W : Nat → Nat → Hp → Prop, (∃ m, W 0 m (upd H1 D (.lst []))) ∧ ∀ i m H, W i m H →
      ((Itz K a b).stop i H ∧ Qd H) ∨ ((Itz K a b).go i H ∧ ∃ Nx : Hp → Prop, (∀ H', Nx H' → ∃ m', m' < m ∧ W (i + 1) m' H') ∧ ∀ x H', (Itz K a b).yld i H x H' → g x (wipe σ vs) H' fun σ2 H2 => wipe σ2 vs = wipe σ vs ∧ tt σ2 H2 fun b H3 =>
        if b = true then te σ2 H3 fun y H4 => ∃ acc, H4 D = some (.lst acc) ∧ acc.length < sizeLine ∧ Nx (upd H4 D (.lst (acc ++ [y]))) else Nx H3) := by
  refine ⟨fun i m H => m = xs.length - i ∧ i ≤ xs.length ∧ Pv i H, ⟨xs.length, by simp, Nat.zero_le _, h0⟩, ?_⟩
  rintro i m H ⟨rfl, hi, p⟩
  obtain ⟨q1, q2⟩ := hq i H p
  by_cases hlt : i < xs.length
  · refine .inr ⟨⟨xs, ys, xs[i], ys[i], q1, q2, List.getElem?_eq_getElem hlt, List.getElem?_eq_getElem (by omega)⟩, Pv (i + 1), fun H' p' => ⟨xs.length - (i + 1), by omega, rfl, hlt, p'⟩, fun v H' y => ?_⟩
    obtain ⟨Tt, x, y, rfl, nT, rfl, y1, y2⟩ := y
    exact hs i x y H Tt (y1 xs q1) (y2 ys q2) p nT
  · have e : i = xs.length := by omega
    subst e
    exact .inl ⟨⟨xs, ys, q1, q2, .inl (Nat.le_refl _)⟩, hd H p⟩
theorem lc_zipT {K : PySem.W.Frag} {a b : Addr} {xs ys : List V} {g : TG} {tt : L2.TT} {te : TE} {vs : List Nat} {σ : L2.St} {H1 : Hp} {D : Addr} {Qd : Hp → Prop} (hl : xs.length = ys.length) (Pv : Nat → Hp → Prop) (h0 : Pv 0 (upd H1 D (.lst []))) (hq : ∀ i H, Pv i H → SqT K H a xs ∧ SqT K H b ys)
    (hs : ∀ i x y H T, xs[i]? = some x → ys[i]? = some y → Pv i H → H T = none → g (.ref T) (wipe σ vs) (upd H T (.tup [x, y])) fun σ2 H2 => wipe σ2 vs = wipe σ vs ∧ tt σ2 H2 fun b H3 =>
      if b = true then te σ2 H3 fun y H4 => ∃ acc, H4 D = some (.lst acc) ∧ acc.length < sizeLine ∧ Pv (i + 1) (upd H4 D (.lst (acc ++ [y]))) else Pv (i + 1) H3) (hd : ∀ H, Pv xs.length H → Qd H) :
    ∃ W : Nat → Nat → Hp → Prop, (∃ m, W 0 m (upd H1 D (.lst []))) ∧ ∀ i m H, W i m H →
      ((RZ.ItzT K a b).stop i H ∧ Qd H) ∨ ((RZ.ItzT K a b).go i H ∧ ∃ Nx : Hp → Prop, (∀ H', Nx H' → ∃ m', m' < m ∧ W (i + 1) m' H') ∧ ∀ x H', (RZ.ItzT K a b).yld i H x H' → g x (wipe σ vs) H' fun σ2 H2 => wipe σ2 vs = wipe σ vs ∧ tt σ2 H2 fun b H3 =>
        if b = true then te σ2 H3 fun y H4 => ∃ acc, H4 D = some (.lst acc) ∧ acc.length < sizeLine ∧ Nx (upd H4 D (.lst (acc ++ [y]))) else Nx H3) := by
  refine ⟨fun i m H => m = xs.length - i ∧ i ≤ xs.length ∧ Pv i H, ⟨xs.length, by simp, Nat.zero_le _, h0⟩, ?_⟩
  rintro i m H ⟨rfl, hi, p⟩
  obtain ⟨q1, q2⟩ := hq i H p
  by_cases hlt : i < xs.length
  · refine .inr ⟨⟨xs, ys, xs[i], ys[i], q1, q2, List.getElem?_eq_getElem hlt, List.getElem?_eq_getElem (by omega)⟩, Pv (i + 1), fun H' p' => ⟨xs.length - (i + 1), by omega, rfl, hlt, p'⟩, fun v H' y => ?_⟩
    obtain ⟨Tt, x, y, rfl, nT, rfl, y1, y2⟩ := y
    exact hs i x y H Tt (y1 xs q1) (y2 ys q2) p nT
  · have e : i = xs.length := by omega
    subst e
    exact .inl ⟨⟨xs, ys, q1, q2, .inl (Nat.le_refl _)⟩, hd H p⟩
theorem tyL {K : PySem.W.Frag} : PySem.W.kitOne K (.type "list") (.type "list") = some true ∧ PySem.W.kitOne K (.type "list") (.type "tuple") = some false ∧ PySem.W.kitAny K (.type "list") [.type "list", .type "tuple"] = some true :=
  ⟨kit_ty (by decide +kernel), kit_ty (by decide +kernel), kitAny_cons (b := true) (kit_ty (by decide +kernel)) (fun z => nomatch z) (fun _ => rfl)⟩
theorem tyT {K : PySem.W.Frag} : PySem.W.kitOne K (.type "tuple") (.type "list") = some false ∧ PySem.W.kitOne K (.type "tuple") (.type "tuple") = some true ∧ PySem.W.kitAny K (.type "tuple") [.type "list", .type "tuple"] = some true :=
  ⟨kit_ty (by decide +kernel), kit_ty (by decide +kernel), kitAny_cons (b := false) (kit_ty (by decide +kernel)) (fun _ => kitAny_cons (b := true) (kit_ty (by decide +kernel)) (fun z => nomatch z) (fun _ => rfl)) (fun z => nomatch z)⟩
def spSame (K : PySem.W.Frag) (d : Nat) : Sp := fun vs H Q _ => ∃ x y, vs = [x, y] ∧ 1 ≤ d ∧ ((Sc x ∧ Sc y ∧ ∀ H', KQ K M0 H H' → Q (.bl (decide (x = y))) H') ∨ (SameV H d x y ∧ ∀ H', KQ K M0 H H' → Q (.bl true) H'))
theorem d_law_same_ok (T : Tx K mg base) : ∀ d : Nat, Df P w K mg base CX0 (1 + d) (gA K "_law_same") (spSame K d) := fun d => by
  induction d with
  | zero =>
    refine df0 T.F_law_same sc_law_same (fun _ _ _ _ _ _ us hl => match us, hl with | [_, _], _ => rfl) (fun vs H Q E ⟨_, _, h, _⟩ => by rw [h]; rfl) fun cd A outer s H vs Q E hr h => ?_
    obtain ⟨x, y, rfl, h, _⟩ := h
    omega
  | succ d h_law_same =>
    refine df0 (k := 1 + d) T.F_law_same sc_law_same (fun _ _ _ _ _ _ us hl => match us, hl with | [_, _], _ => rfl) (fun vs H Q E ⟨_, _, h, _⟩ => by rw [h]; rfl) fun cd A outer s H vs Q E hr h => ?_
    obtain ⟨x, y, rfl, _, h⟩ := h
    refine ⟨_, (pss_cons (ps_if (pt_val (pe_callB call_isiT rfl T.b_isinstance (by decide +kernel) (pa_cons (pv 1) (pa_cons (pe_tup (pa_cons (pe_gty rfl T.b_list boot_list) (pa_cons (pe_gty rfl T.b_tuple boot_tuple) pa_nil))) pa_nil)))) (pss_cons (ps_if (PW.pt (pw_or (pt_cmpR op_ne (pe_callB call_isi rfl T.b_isinstance (by decide +kernel) (pa_cons (pv 0) (pa_cons (pe_gty rfl T.b_list boot_list) pa_nil))) (pe_callB call_isi rfl T.b_isinstance (by decide +kernel) (pa_cons (pv 1) (pa_cons (pe_gty rfl T.b_list boot_list) pa_nil))) rfl) (pw_or1 (pt_cmpR op_ne (pe_callB call_isi rfl T.b_isinstance (by decide +kernel) (pa_cons (pv 0) (pa_cons (pe_gty rfl T.b_tuple boot_tuple) pa_nil))) (pe_callB call_isi rfl T.b_isinstance (by decide +kernel) (pa_cons (pv 1) (pa_cons (pe_gty rfl T.b_tuple boot_tuple) pa_nil))) rfl)))) (pss_one (ps_ret pe_bl)) pss_nil)
    (pss_one (ps_ret (pe_and (pe_cmpR op_eq (pe_callB call_len_seq rfl T.b_len boot_len (pa_cons (pv 0) pa_nil)) (pe_callB call_len_seq rfl T.b_len boot_len (pa_cons (pv 1) pa_nil)) rfl) (pe_one (pe_callB (cr_all rfl) rfl T.b_all (by decide +kernel) (pa_cons (pe_lc rfl sc_law_same.nd (RZ.pi_zipA rfl T.b_zip (pa_cons (pv 0) (pa_cons (pv 1) pa_nil))) (blkOk_by (own := [("_law_one", 2), ("_law_other", 3)]) (by kernel_rfl)) (fun _ _ _ _ _ => (pg_tupK K 2 rfl (pgs_cons (pg_name (i := 2) sc_law_same.nd rfl (.inl rfl) (.inr rfl)) (pgs_cons (pg_name (i := 3) sc_law_same.nd rfl (.inl rfl) (.inr rfl)) pgs_nil)))) (fun _ _ _ _ _ => pts_nil) (fun _ _ _ _ _ => (pe_c h_law_same (hr.mono (by omega)) T.g_law_same (pa_cons (pv 2) (pa_cons (pv 3) pa_nil))))) pa_nil))))))) pss_nil)
    (pss_cons (ps_if (PW.pt (pw_or (pt_cmpR op_isN (pv 1) pe_non rfl) (pw_or1 (pt_val (pe_callB call_isiT rfl T.b_isinstance (by decide +kernel) (pa_cons (pv 1) (pa_cons (pe_tup (pa_cons (pe_gty rfl T.b_bool boot_bool) (pa_cons (pe_gty rfl T.b_str boot_str) pa_nil))) pa_nil))))))) (pss_one (ps_ret (pe_and (pe_cmpR op_eq (pv 0) (pv 1) rfl) (pe_one (pe_cmpR op_eq (pe_callB call_isi rfl T.b_isinstance (by decide +kernel) (pa_cons (pv 0) (pa_cons (pe_gty rfl T.b_bool boot_bool) pa_nil))) (pe_callB call_isi rfl T.b_isinstance (by decide +kernel) (pa_cons (pv 1) (pa_cons (pe_gty rfl T.b_bool boot_bool) pa_nil))) rfl))))) pss_nil)
    (pss_one (ps_ret (pe_and (pe_callB call_isi rfl T.b_isinstance (by decide +kernel) (pa_cons (pv 0) (pa_cons (pe_gty rfl T.b_int boot_int) pa_nil))) (pe_and (pe_not (pe_callB call_isi rfl T.b_isinstance (by decide +kernel) (pa_cons (pv 0) (pa_cons (pe_gty rfl T.b_bool boot_bool) pa_nil)))) (pe_one (pe_cmpR op_eq (pv 0) (pv 1) rfl)))))))), ?_⟩
    refine ⟨_, rfl, sz2, fun t nt => ?_⟩
    have k1 : KQ K M0 H (upd H t (.tup [.ty "list", .ty "tuple"])) := Kp.refl.new nt
    rcases h with ⟨hx, hy, q⟩ | ⟨hS, q⟩
    · obtain ⟨ty, y1, y2, y3⟩ := sc_not_bool (K := K) (H := upd H t (.tup [.ty "list", .ty "tuple"])) hy
      refine ⟨y, t, _, ty, _, false, rfl, upd_same, .cons (.ty _) (.cons (.ty _) .nil), y1, y3, _, rfl, ?_⟩
      generalize upd H t (.tup [.ty "list", .ty "tuple"]) = G at k1 y1 ⊢
      obtain ⟨tx, x1, x2, x3⟩ := sc_not_bool (K := K) (H := G) hx
      have fin : Q (.bl (decide (x = y))) G := q G k1
      rcases hy.cases with rfl | ⟨j, rfl⟩ | ⟨j, rfl⟩
      · refine ⟨_, rfl, rfl, true, rfl, ?_⟩
        refine ⟨_, rfl, _, rfl, scal_sc hx hy, _, rfl, ?_⟩
        generalize decide (x = .non) = bb at fin ⊢
        cases bb with
        | false => exact fin
        | true =>
          refine ⟨_, rfl, _, _, _, _, _, rfl, .ty "bool", x1, x2, _, rfl, _, _, _, _, _, rfl, .ty "bool", y1, y2, rfl, ?_⟩
          exact fin
      · refine ⟨_, rfl, rfl, false, rfl, ?_⟩
        refine ⟨_, rfl, sz2, fun t2 nt2 => ?_⟩
        have k2 : KQ K M0 G (upd G t2 (.tup [.ty "bool", .ty "str"])) := Kp.refl.new nt2
        have fin : Q (.bl (decide (x = .int j))) (upd G t2 (.tup [.ty "bool", .ty "str"])) := q _ (k1.trans k2)
        have ht2 : upd G t2 (.tup [.ty "bool", .ty "str"]) t2 = some (.tup [.ty "bool", .ty "str"]) := upd_same
        generalize upd G t2 (.tup [.ty "bool", .ty "str"]) = G2 at k2 fin ht2 ⊢
        refine ⟨_, t2, _, .type "int", _, false, rfl, ht2, .cons (.ty _) (.cons (.ty _) .nil), .base (.int _), kitAny_cons (b := false) (kit_ty (by decide +kernel)) (fun _ => kitAny_cons (b := false) (kit_ty (by decide +kernel)) (fun _ => kitAny_nil) (fun z => nomatch z)) (fun z => nomatch z), _, rfl, ?_⟩
        rcases hx.cases with rfl | ⟨i, rfl⟩ | ⟨i, rfl⟩
        · exact ⟨_, rfl, _, _, _, _, _, rfl, .ty "int", .base .non, kit_ty (b := "int") (r := false) (by decide +kernel), false, rfl, fin⟩
        · refine ⟨_, rfl, _, _, _, _, _, rfl, .ty "int", .base (.int _), kit_ty (b := "int") (r := true) (by decide +kernel), true, rfl, ?_⟩
          refine ⟨_, rfl, _, _, _, _, _, rfl, .ty "bool", .base (.int _), kit_ty (b := "bool") (r := false) (by decide +kernel), _, rfl, ?_⟩
          exact ⟨true, rfl, _, rfl, _, rfl, rfl, fin⟩
        · exact ⟨_, rfl, _, _, _, _, _, rfl, .ty "int", .base (.str _), kit_ty (b := "int") (r := false) (by decide +kernel), false, rfl, fin⟩
      · refine ⟨_, rfl, rfl, false, rfl, ?_⟩
        refine ⟨_, rfl, sz2, fun t2 nt2 => ?_⟩
        have k2 : KQ K M0 G (upd G t2 (.tup [.ty "bool", .ty "str"])) := Kp.refl.new nt2
        have fin : Q (.bl (decide (x = .str j))) (upd G t2 (.tup [.ty "bool", .ty "str"])) := q _ (k1.trans k2)
        have ht2 : upd G t2 (.tup [.ty "bool", .ty "str"]) t2 = some (.tup [.ty "bool", .ty "str"]) := upd_same
        generalize upd G t2 (.tup [.ty "bool", .ty "str"]) = G2 at k2 fin ht2 ⊢
        refine ⟨_, t2, _, .type "str", _, true, rfl, ht2, .cons (.ty _) (.cons (.ty _) .nil), .base (.str _), kitAny_cons (b := false) (kit_ty (by decide +kernel)) (fun _ => kitAny_cons (b := true) (kit_ty (by decide +kernel)) (fun z => nomatch z) (fun _ => rfl)) (fun z => nomatch z), _, rfl, ?_⟩
        obtain ⟨tx, x1, x2, x3⟩ := sc_not_bool (K := K) (H := G2) hx
        obtain ⟨ty, y1, y2, y3⟩ := sc_not_bool (K := K) (H := G2) hy
        refine ⟨_, rfl, _, rfl, scal_sc hx hy, _, rfl, ?_⟩
        generalize decide (x = .str j) = bb at fin ⊢
        cases bb with
        | false => exact fin
        | true =>
          refine ⟨_, rfl, _, _, _, _, _, rfl, .ty "bool", x1, x2, _, rfl, _, _, _, _, _, rfl, .ty "bool", y1, y2, rfl, ?_⟩
          exact fin
    · have ht := (upd_same : upd H t (.tup [.ty "list", .ty "tuple"]) t = _)
      have hS := hS.kp k1
      generalize upd H t (.tup [.ty "list", .ty "tuple"]) = G at k1 ht hS ⊢
      obtain ⟨a, b, xs, ys, rfl, rfl, hab, hlen, hl1, hel⟩ := hS
      rcases hab with ⟨ha, hb⟩ | ⟨ha, hb⟩
      · refine ⟨_, t, _, .type "list", _, true, rfl, ht, .cons (.ty _) (.cons (.ty _) .nil), .base (.lst hb), tyL.2.2, _, rfl, ?_⟩
        refine ⟨_, rfl, _, _, _, _, _, rfl, .ty "list", .base (.lst ha), tyL.1, _, rfl, _, _, _, _, _, rfl, .ty "list", .base (.lst hb), tyL.1, rfl, _, rfl, ?_⟩
        refine ⟨_, rfl, _, _, _, _, _, rfl, .ty "tuple", .base (.lst ha), tyL.2.1, _, rfl, _, _, _, _, _, rfl, .ty "tuple", .base (.lst hb), tyL.2.1, rfl, _, rfl, ?_⟩
        have eL : decide (V.int (xs.length : Nat) = V.int (ys.length : Nat)) = true := decide_eq_true (by rw [hlen])
        refine ⟨_, rfl, a, _, rfl, .inl (sqL_at ha), _, rfl, b, _, rfl, .inl (sqL_at hb), rfl, _, rfl, ?_⟩
        rw [eL]
        refine ⟨_, rfl, _, rfl, a, b, xs, ys, rfl, .inl ⟨sqL_at ha, sqL_at hb, fun D nD => ?_⟩⟩
        refine lc_zipL hlen (fun i H' => KQ K M0 G H' ∧ H' D = some (.lst ((List.replicate i true).map V.bl))) ⟨Kp.refl.new nD, upd_same⟩ (fun i H' p => ⟨sqL_at (p.1.at_ ha), sqL_at (p.1.at_ hb)⟩) (fun i x y H' Tt hxi hyi p nT => ?_) fun H' p => ?_
        · obtain ⟨kp, hD⟩ := p
          refine ⟨Tt, [x, y], rfl, sqT_new, rfl, _, _, rfl, _, _, rfl, rfl, rfl, ?_⟩
          have k2 : KQ K M0 H' (upd H' Tt (.tup [x, y])) := Kp.refl.new nT
          have hi := (List.getElem?_eq_some_iff.mp hxi).1
          have fin : ∀ H5, KQ K M0 (upd H' Tt (.tup [x, y])) H5 → ∃ acc, H5 D = some (.lst acc) ∧ acc.length < sizeLine ∧ KQ K M0 G (upd H5 D (.lst (acc ++ [.bl true]))) ∧ upd H5 D (.lst (acc ++ [.bl true])) D = some (.lst ((List.replicate (i + 1) true).map V.bl)) := fun H5 k5 => by
            have hD5 := (k2.trans k5).at_ hD
            refine ⟨_, hD5, by rw [List.length_map, List.length_replicate]; exact sz_lt (by omega), (kp.trans (k2.trans k5)).mutL (.of nD) hD5, ?_⟩
            rw [upd_same, List.replicate_succ', List.map_append]
            rfl
          rcases hel i x y hxi hyi with ⟨hs, rfl, hd1⟩ | hs
          · exact ⟨_, rfl, _, rfl, x, x, rfl, hd1, .inl ⟨hs, hs, fun H5 k5 => by rw [decide_eq_true (rfl : x = x)]; exact fin H5 k5⟩⟩
          · exact ⟨_, rfl, _, rfl, x, y, rfl, hs.pos, .inr ⟨(hs.kp kp).kp k2, fun H5 k5 => fin H5 k5⟩⟩
        · obtain ⟨kp, hD⟩ := p
          refine ⟨D, _, rfl, sqL_at hD, ?_⟩
          rw [show (List.replicate xs.length true).all id = true from List.all_eq_true.mpr fun z m => by rw [List.eq_of_mem_replicate m]; rfl]
          exact q H' (k1.trans kp)
      · refine ⟨_, t, _, .type "tuple", _, true, rfl, ht, .cons (.ty _) (.cons (.ty _) .nil), .base (.tup hb), tyT.2.2, _, rfl, ?_⟩
        refine ⟨_, rfl, _, _, _, _, _, rfl, .ty "list", .base (.tup ha), tyT.1, _, rfl, _, _, _, _, _, rfl, .ty "list", .base (.tup hb), tyT.1, rfl, _, rfl, ?_⟩
        refine ⟨_, rfl, _, _, _, _, _, rfl, .ty "tuple", .base (.tup ha), tyT.2.1, _, rfl, _, _, _, _, _, rfl, .ty "tuple", .base (.tup hb), tyT.2.1, rfl, _, rfl, ?_⟩
        have eL : decide (V.int (xs.length : Nat) = V.int (ys.length : Nat)) = true := decide_eq_true (by rw [hlen])
        refine ⟨_, rfl, a, _, rfl, .inr (sqT_at ha), _, rfl, b, _, rfl, .inr (sqT_at hb), rfl, _, rfl, ?_⟩
        rw [eL]
        refine ⟨_, rfl, _, rfl, a, b, xs, ys, rfl, .inr ⟨sqT_at ha, sqT_at hb, fun D nD => ?_⟩⟩
        refine lc_zipT hlen (fun i H' => KQ K M0 G H' ∧ H' D = some (.lst ((List.replicate i true).map V.bl))) ⟨Kp.refl.new nD, upd_same⟩ (fun i H' p => ⟨sqT_at (p.1.tup ha), sqT_at (p.1.tup hb)⟩) (fun i x y H' Tt hxi hyi p nT => ?_) fun H' p => ?_
        · obtain ⟨kp, hD⟩ := p
          refine ⟨Tt, [x, y], rfl, sqT_new, rfl, _, _, rfl, _, _, rfl, rfl, rfl, ?_⟩
          have k2 : KQ K M0 H' (upd H' Tt (.tup [x, y])) := Kp.refl.new nT
          have hi := (List.getElem?_eq_some_iff.mp hxi).1
          have fin : ∀ H5, KQ K M0 (upd H' Tt (.tup [x, y])) H5 → ∃ acc, H5 D = some (.lst acc) ∧ acc.length < sizeLine ∧ KQ K M0 G (upd H5 D (.lst (acc ++ [.bl true]))) ∧ upd H5 D (.lst (acc ++ [.bl true])) D = some (.lst ((List.replicate (i + 1) true).map V.bl)) := fun H5 k5 => by
            have hD5 := (k2.trans k5).at_ hD
            refine ⟨_, hD5, by rw [List.length_map, List.length_replicate]; exact sz_lt (by omega), (kp.trans (k2.trans k5)).mutL (.of nD) hD5, ?_⟩
            rw [upd_same, List.replicate_succ', List.map_append]
            rfl
          rcases hel i x y hxi hyi with ⟨hs, rfl, hd1⟩ | hs
          · exact ⟨_, rfl, _, rfl, x, x, rfl, hd1, .inl ⟨hs, hs, fun H5 k5 => by rw [decide_eq_true (rfl : x = x)]; exact fin H5 k5⟩⟩
          · exact ⟨_, rfl, _, rfl, x, y, rfl, hs.pos, .inr ⟨(hs.kp kp).kp k2, fun H5 k5 => fin H5 k5⟩⟩
        · obtain ⟨kp, hD⟩ := p
          refine ⟨D, _, rfl, sqL_at hD, ?_⟩
          rw [show (List.replicate xs.length true).all id = true from List.all_eq_true.mpr fun z m => by rw [List.eq_of_mem_replicate m]; rfl]
          exact q H' (k1.trans kp)
end RS

/-! text PS -/
set_option Elab.async false
set_option linter.all false
set_option maxRecDepth 100000
set_option maxHeartbeats 1000000
/-! Sorted names, in plain Lean. -/
namespace RS
open PySem PySem.Spec PyProof.Rows L2
abbrev sl (a b : Str) : Prop := a.cps.toList < b.cps.toList
theorem str_ext {a b : Str} (h : a.cps.toList = b.cps.toList) : a = b := by
  obtain ⟨⟨x⟩⟩ := a
  obtain ⟨⟨y⟩⟩ := b
  simp only at h
  rw [h]
theorem strLe_iff {a b : Str} : strLe a b ↔ ¬ sl b a := by
  unfold strLe
  rw [ltCps_eq, decide_eq_false_iff_not]
theorem sl_irr (a : Str) : ¬ sl a a := List.lt_irrefl _
theorem sl_trans {a b c : Str} (h1 : sl a b) (h2 : sl b c) : sl a c := List.lt_trans h1 h2
theorem sl_tri {a b : Str} (h1 : ¬ sl a b) (h2 : ¬ sl b a) : a = b := str_ext (List.le_antisymm (List.not_lt.mp h2) (List.not_lt.mp h1))
theorem strLe_trans {a b c : Str} (h1 : strLe a b) (h2 : strLe b c) : strLe a c := by
  rw [strLe_iff] at h1 h2 ⊢
  intro h
  rcases Classical.em (sl a b) with z | z
  · exact h2 (sl_trans h z)
  · rw [sl_tri z h1] at h
    exact h2 h
theorem sl_of {a b : Str} (h : strLe a b) (n : a ≠ b) : sl a b := by
  rw [strLe_iff] at h
  rcases Classical.em (sl a b) with z | z
  · exact z
  · exact absurd (sl_tri z h) n
theorem sorted_pw : ∀ {l : List Str}, sortedS l = true → l.Pairwise strLe
  | [], _ => .nil
  | [x], _ => List.pairwise_singleton ..
  | x :: y :: r, h => by
    have h2 : (!ltCps y.cps.toList x.cps.toList && risingS y r) = true := h
    obtain ⟨a, b⟩ := Bool.and_eq_true_iff.mp h2
    have ih := sorted_pw (l := y :: r) b
    have xy : strLe x y := by unfold strLe; simpa using a
    rw [List.pairwise_cons]
    refine ⟨fun z m => ?_, ih⟩
    rcases List.mem_cons.mp m with rfl | m
    · exact xy
    · exact strLe_trans xy ((List.pairwise_cons.mp ih).1 z m)
theorem strict_of {l : List Str} (h : l.Pairwise strLe) (nd : l.Nodup) : l.Pairwise sl := (h.and nd).imp fun ⟨a, b⟩ => sl_of a b
theorem strict_uniq : ∀ {l m : List Str}, l.Pairwise sl → m.Pairwise sl → (∀ x, x ∈ l ↔ x ∈ m) → l = m
  | [], [], _, _, _ => rfl
  | [], y :: r, _, _, h => absurd ((h y).mpr (List.mem_cons_self ..)) (fun z => nomatch z)
  | x :: r, [], _, _, h => absurd ((h x).mp (List.mem_cons_self ..)) (fun z => nomatch z)
  | x :: r, y :: t, h1, h2, h => by
    rw [List.pairwise_cons] at h1 h2
    have e : x = y := by
      rcases List.mem_cons.mp ((h x).mp (List.mem_cons_self ..)) with e | m
      · exact e
      · rcases List.mem_cons.mp ((h y).mpr (List.mem_cons_self ..)) with e | m2
        · exact e.symm
        · exact absurd (sl_trans (h1.1 y m2) (h2.1 x m)) (sl_irr x)
    subst e
    have nx : ∀ {r : List Str}, (∀ z ∈ r, sl x z) → x ∉ r := fun q m => sl_irr x (q x m)
    rw [strict_uniq h1.2 h2.2 fun z => ?_]
    have hz := h z
    rw [List.mem_cons, List.mem_cons] at hz
    constructor
    · intro m
      rcases hz.mp (.inr m) with e | m2
      · rw [e] at m; exact absurd m (nx h1.1)
      · exact m2
    · intro m
      rcases hz.mpr (.inr m) with e | m2
      · rw [e] at m; exact absurd m (nx h2.1)
      · exact m2
/-- a rank among names -/
def rankS (ns : List Str) (x : Str) : Nat := ns.countP fun m => decide (sl m x)
theorem rank_lt {ns : List Str} {x y : Str} (hx : x ∈ ns) : decide (sl x y) = decide ((rankS ns x : Int) < (rankS ns y : Int)) := by
  have le_of : ∀ {a b : Str}, ¬ sl b a → rankS ns a ≤ rankS ns b := fun {a b} h => List.countP_mono_left fun m _ e => by
    have e2 := of_decide_eq_true e
    refine decide_eq_true ?_
    rcases Classical.em (sl a b) with z | z
    · exact sl_trans e2 z
    · rw [← sl_tri z h]; exact e2
  by_cases h : sl x y
  · rw [decide_eq_true h]
    refine (decide_eq_true ?_).symm
    have key : ∀ (l : List Str), x ∈ l → (l.countP fun m => decide (sl m x)) < (l.countP fun m => decide (sl m y)) := by
      intro l
      induction l with
      | nil => intro m; cases m
      | cons z r ih =>
        intro m
        rw [List.countP_cons, List.countP_cons]
        have mono : (r.countP fun m => decide (sl m x)) ≤ (r.countP fun m => decide (sl m y)) := List.countP_mono_left fun m _ e => decide_eq_true (sl_trans (of_decide_eq_true e) h)
        rcases List.mem_cons.mp m with e | m
        · subst e
          rw [decide_eq_false (sl_irr x), decide_eq_true h, if_neg Bool.false_ne_true, if_pos rfl]
          omega
        · have i := ih m
          by_cases q : sl z x
          · rw [decide_eq_true q, decide_eq_true (sl_trans q h), if_pos rfl]
            omega
          · rw [decide_eq_false q, if_neg Bool.false_ne_true]
            omega
    have z := key ns hx
    unfold rankS
    omega
  · rw [decide_eq_false h]
    refine (decide_eq_false ?_).symm
    have z := le_of h
    omega
end RS

/-! text D31 -/
set_option Elab.async false
set_option linter.all false
set_option maxRecDepth 100000
set_option maxHeartbeats 1000000
/-! The law's look at what is shown. -/
namespace RS
open PySem PySem.Spec PyProof.Rows L2
theorem sc_law_shown_right : FnScope ["_law_hall", "_law_shown", "_law_names_here", "_law_place", "_law_name", "_law_told"] ["_law_hall", "_law_shown", "_law_names_here"] (defScope s_law_shown_right) := ⟨rfl, rfl, rfl, by decide +kernel, rfl, by decide +kernel, by decide +kernel⟩
variable {P : Program} {w : World} {K : PySem.W.Frag} {mg : Str → Option Value} {base : Heap}
def rk (ns : List Str) : Key → Int
  | .inl _ => 0
  | .inr x => rankS ns x
def keyN : Key → Str
  | .inl _ => ""
  | .inr x => x
theorem agree {tps shp : List (Str × V)} {qs : List Pr} {ps : List Kr} (nd1 : (tps.map (·.1)).Nodup) (nd2 : (shp.map (·.1)).Nodup) (hv : ∀ n, val shp n = val tps n) (p1 : (qs.map (·.2)).Perm tps) (s1 : (qs.map (·.2.1)).Pairwise strLe) (p2 : (ps.map (·.2)).Perm (kvP shp))
    (s2 : ps.Pairwise fun e f => rk (shp.map (·.1)) e.2.1 ≤ rk (shp.map (·.1)) f.2.1) : qs.length = ps.length ∧ ∀ (i : Nat) (x : Pr) (z : Kr), qs[i]? = some x → ps[i]? = some z → z.2 = (.inr x.2.1, x.2.2) := by
  have m2 : ∀ z ∈ ps, ∃ n v, z.2 = (.inr n, v) ∧ (n, v) ∈ shp := fun z m => by
    obtain ⟨⟨n, v⟩, hq, e⟩ := List.mem_map.mp (p2.mem_iff.mp (List.mem_map.mpr ⟨z, m, rfl⟩))
    exact ⟨n, v, e.symm, hq⟩
  have pn1 : (qs.map (·.2.1)).Perm (tps.map (·.1)) := by
    have z := p1.map (·.1)
    rw [List.map_map] at z
    exact z
  have pn2 : (ps.map fun z => keyN z.2.1).Perm (shp.map (·.1)) := by
    have z := p2.map (fun e => keyN e.1)
    rw [List.map_map] at z
    unfold kvP at z
    rw [List.map_map] at z
    exact z
  have st1 : (qs.map (·.2.1)).Pairwise sl := strict_of s1 (pn1.nodup_iff.mpr nd1)
  have st2 : (ps.map fun z => keyN z.2.1).Pairwise sl := by
    refine strict_of (List.pairwise_map.mpr ?_) (pn2.nodup_iff.mpr nd2)
    refine s2.imp_of_mem fun {e f} he hf h => ?_
    obtain ⟨n, v, e1, hq1⟩ := m2 e he
    obtain ⟨n2, v2, e2, hq2⟩ := m2 f hf
    rw [e1, e2] at h ⊢
    show strLe n n2
    rw [strLe_iff]
    intro y
    have z := rank_lt (y := n) (List.mem_map.mpr ⟨_, hq2, rfl⟩ : n2 ∈ shp.map (·.1))
    rw [decide_eq_true y] at z
    have z2 := of_decide_eq_true z.symm
    have h2 : (rankS (shp.map (·.1)) n : Int) ≤ (rankS (shp.map (·.1)) n2 : Int) := h
    omega
  have same : qs.map (·.2.1) = ps.map fun z => keyN z.2.1 := strict_uniq st1 st2 fun n => by
    rw [pn1.mem_iff, pn2.mem_iff]
    have a := val_none_iff (n := n) (a := tps)
    have b := val_none_iff (n := n) (a := shp)
    rw [hv] at b
    constructor
    · intro m
      rcases Classical.em (n ∈ shp.map (·.1)) with y | y
      · exact y
      · exact absurd m (a.mp (b.mpr y))
    · intro m
      rcases Classical.em (n ∈ tps.map (·.1)) with y | y
      · exact y
      · exact absurd m (b.mp (a.mpr y))
  refine ⟨by have z := congrArg List.length same; rw [List.length_map, List.length_map] at z; exact z, fun i x z hx hz => ?_⟩
  obtain ⟨n, v, e1, hq⟩ := m2 z (List.mem_of_getElem? hz)
  have en : x.2.1 = n := by
    have y : (qs.map (·.2.1))[i]? = (ps.map fun z => keyN z.2.1)[i]? := by rw [same]
    rw [List.getElem?_map, List.getElem?_map, hx, hz] at y
    have y2 : x.2.1 = keyN z.2.1 := by injection y
    rw [y2, e1]
    rfl
  have v1 := val_of_mem nd2 hq
  have v2 : val tps x.2.1 = some x.2.2 := val_of_mem nd1 (p1.mem_iff.mp (List.mem_map.mpr ⟨x, List.mem_of_getElem? hx, rfl⟩))
  rw [hv, ← en, v2] at v1
  injection v1 with v1
  rw [e1, en, v1]
def spShown (K : PySem.W.Frag) : Sp := fun vs H Q _ => ∃ (S : Str → Prop) (ds : List (Str × V)) (A : Ad) (g : Gh) (l : List Nat) (c p : Nat) (gp : SG) (sh nl : Addr) (shp : List (Str × V)) (ns : List Str), vs = [.ref A.hall, .ref sh, .ref nl] ∧ HallA K H S ds A g ∧ g.sts = l ++ [c] ∧ g.sps[c]? = some p ∧ g.Gs[p]? = some gp ∧ SOk S ∧ LamX.Tabs (TT K) H ∧
  H sh = some (.dK (kvP shp)) ∧ (shp.map (·.1)).Nodup ∧ (∀ n, val shp n = val gp.tr.ps n) ∧ H nl = some (.lst (ns.map V.str)) ∧ (∀ n ∈ ns, S n ∧ n ∈ ds.map (·.1)) ∧ ∀ H', KQ K M0 H H' → Q (.bl true) H'
theorem d_law_shown_right_ok (T : Tx K mg base) : Df P w K mg base CX0 9 (gA K "_law_shown_right") (spShown K) := by
  have h_Hall_now := d_Hall_now_ok (P := P) (w := w) T
  have h_Hall_place := d_Hall_place_ok (P := P) (w := w) T
  have h_Hall_roads := d_Hall_roads_ok (P := P) (w := w) T
  have h_Roads_all_at := d_Roads_all_at_ok (P := P) (w := w) T
  have h_Hall_look_or := d_Hall_look_or_ok (P := P) (w := w) T
  have h_Roads_walked := d_Roads_walked_ok (P := P) (w := w) T
  have h_law_same := d_law_same_ok (P := P) (w := w) T 3
  refine df0 T.F_law_shown_right sc_law_shown_right (fun _ _ _ _ _ _ us hl => match us, hl with | [_, _, _], _ => rfl) (fun vs H Q E ⟨_, _, _, _, _, _, _, _, _, _, _, _, h, _⟩ => by rw [h]; rfl) fun cd A outer s H vs Q E hr h => ?_
  obtain ⟨S, ds, A, g, l, c, p, gp, sh, nl, shp, ns, rfl, Hl, hs, hp, hg, hSO, hT, hsh, hnd, hval, hnl, hns, q⟩ := h
  refine ⟨_, (pss_cons (ps_set (i := 3) sc_law_shown_right.nd rfl (.inl rfl) (pe_m h_Hall_place (hr.mono (by decide)) T.cl_Hall T.me_Hall_place (pv 0) (pa_cons (pe_m0 h_Hall_now (hr.mono (by decide)) T.cl_Hall T.me_Hall_now (pv 0)) pa_nil)))
    (pss_cons (ps_if (pt_not (pt_val (pe_c h_law_same (hr.mono (by decide)) T.g_law_same (pa_cons (pe_m h_Roads_all_at (hr.mono (by decide)) T.cl_Roads T.me_Roads_all_at (pe_m0 h_Hall_roads (hr.mono (by decide)) T.cl_Hall T.me_Hall_roads (pv 0)) (pa_cons (pv 3) pa_nil)) (pa_cons (pe_callB (cr_sortK rfl) rfl T.b_sorted (by decide +kernel) (pa_cons (pe_bm0 PySem.F.plainAttrs_dict PySem.F.slot_dict_items PySem.F.type_dict_items mt_itemsK (pv 1)) pa_nil)) pa_nil))))) (pss_one (ps_ret pe_bl)) pss_nil)
    (pss_cons (ps_for PassesOwn.never rfl (pi_list (pv 2)) (pg_name (i := 4) sc_law_shown_right.nd rfl (.inl rfl)) (pss_cons (ps_set (i := 5) sc_law_shown_right.nd rfl (.inl rfl) (pe_lst (pa_cons (pe_m h_Hall_look_or (hr.mono (by decide)) T.cl_Hall T.me_Hall_look_or (pv 0) (pa_cons (pv 4) (pa_cons pe_non pa_nil))) (pa_cons (pe_m h_Roads_walked (hr.mono (by decide)) T.cl_Roads T.me_Roads_walked (pe_m0 h_Hall_roads (hr.mono (by decide)) T.cl_Hall T.me_Hall_roads (pv 0)) (pa_cons (pv 3) (pa_cons (pv 4) pa_nil))) pa_nil))))
    (pss_one (ps_if (pt_not (pt_val (pe_c h_law_same (hr.mono (by decide)) T.g_law_same (pa_cons (pv 5) (pa_cons (pe_op op_rep (pe_lst (pa_cons (pe_dget2 (hu_of hr) (pv 1) (pv 4) pe_non ⟨rfl, rfl, rfl, rfl⟩) pa_nil)) pe_int) pa_nil))))) (pss_one (ps_ret pe_bl)) pss_nil))))
    (pss_one (ps_ret pe_bl))))), ?_⟩
  obtain ⟨dh, hh⟩ := Hl.obj
  obtain ⟨dr, hro⟩ := Hl.roa.obj
  have hW := Hl.gok.wf p gp hg
  refine ⟨_, rfl, A.hall, dh, _, rfl, hh, rfl, _, rfl, A.hall, dh, _, rfl, hh, rfl, S, ds, A, g, l, c, rfl, Hl, hs, S, ds, A, g, c, p, rfl, Hl, hp, ?_⟩
  refine ⟨_, rfl, A.hall, dh, _, rfl, hh, rfl, S, ds, A, g, rfl, Hl, A.r, dr, _, rfl, hro, rfl, _, rfl, A.r, S, p, gp, rfl, ⟨_, _, _, _, _, _, _, _, _, Hl.roa, Hl.gok, hg⟩, hSO.ps, hT, fun H1 l1 qs k1 nn1 hl1 hpr1 ⟨perm1, srt1⟩ => ?_⟩
  have hsh1 := k1.atD hsh
  refine ⟨_, rfl, tyd hsh1, sh, _, rfl, rfl, hsh1, fun p1 np1 => ?_⟩
  have hmemS : ∀ {n : Str} {v : V}, (n, v) ∈ shp → val gp.tr.ps n = some v := fun {n v} m => by rw [← hval]; exact val_of_mem hnd m
  have hshS : ∀ n ∈ shp.map (·.1), S n := fun n m => by
    obtain ⟨⟨n', v⟩, hq, rfl⟩ := List.mem_map.mp m
    exact (hW.each _ (val_mem (hmemS hq))).1
  have hshl : shp.length ≤ 20 := by
    have z := hSO.few _ hnd hshS
    rw [List.length_map] at z
    exact z
  have kp1 : KQ K M0 H1 (upd H1 p1 (DX.itemsO p1 sh)) := Kp.refl.new np1
  refine ⟨p1, sh, kvP shp, rk (shp.map (·.1)), rfl, upd_same, kp1.atD hsh1, by rw [kvP_len]; omega, .inr fun k hk => ?_, fun e he => ?_, fun e he f hf => ?_, fun H2 l2 ps ext perm2 srt2 nl2 nps hl2 hps => ?_⟩
  · obtain ⟨e, he, rfl⟩ := List.mem_map.mp hk
    obtain ⟨q0, _, rfl⟩ := List.mem_map.mp he
    exact ⟨_, rfl⟩
  · obtain ⟨⟨n, v⟩, hq, rfl⟩ := List.mem_map.mp he
    have hv : isVal v = true := (hW.each _ (val_mem (hmemS hq))).2.2
    cases v with
    | int i => exact .inr ⟨i, rfl⟩
    | str x => exact .inl ⟨x, rfl⟩
    | _ => cases hv
  · obtain ⟨⟨n, v⟩, hq, rfl⟩ := List.mem_map.mp he
    obtain ⟨⟨n2, v2⟩, hq2, rfl⟩ := List.mem_map.mp hf
    exact rank_lt (List.mem_map.mpr ⟨_, hq, rfl⟩)
  · obtain ⟨el, ea⟩ := agree hW.nodup hnd hval perm1 srt1 perm2 srt2
    have kE : KQ K M0 H1 H2 := kp1.ext ext
    have k02 := k1.trans kE
    have hl12 := kE.at_ hl1
    have hq20 : qs.length ≤ 20 := by
      have z := perm1.length_eq
      rw [List.length_map] at z
      have := hSO.few.wf hW
      omega
    have hpr2 := hpr1.kp kE
    refine ⟨.ref l1, .ref l2, rfl, by decide, .inr ⟨⟨l1, l2, _, _, rfl, rfl, .inl ⟨hl12, hl2⟩, by rw [List.length_map, List.length_map]; exact el, by rw [List.length_map]; omega, fun i x y hx hy => .inr ?_⟩, fun H3 k3 => ?_⟩⟩
    · rw [List.getElem?_map] at hx hy
      cases hqi : qs[i]? with
      | none => rw [hqi] at hx; cases hx
      | some xq =>
        cases hzi : ps[i]? with
        | none => rw [hzi] at hy; cases hy
        | some z =>
          rw [hqi] at hx
          rw [hzi] at hy
          cases hx
          cases hy
          have e := ea i xq z hqi hzi
          have t1 := hpr2 xq (List.mem_of_getElem? hqi)
          have t2 := hps z (List.mem_of_getElem? hzi)
          rw [e] at t2
          have hsc : Sc xq.2.2 := .inr (hW.each _ (perm1.mem_iff.mp (List.mem_map.mpr ⟨xq, List.mem_of_getElem? hqi, rfl⟩))).2.2
          refine ⟨xq.1, z.1, _, _, rfl, rfl, .inr ⟨t1, t2⟩, rfl, (show 2 < 1000 by decide), fun j u v hu hv => .inl ?_⟩
          match j, hu, hv with
          | 0, hu, hv =>
            cases hu
            cases hv
            exact ⟨.inr rfl, rfl, Nat.le_refl _⟩
          | 1, hu, hv =>
            cases hu
            cases hv
            exact ⟨hsc, rfl, Nat.le_refl _⟩
          | j + 2, hu, _ => cases hu
    · have k03 := k02.trans k3
      refine ⟨true, rfl, _, rfl, nl, rfl, ⟨_, sqL_at (k03.at_ hnl)⟩, ?_⟩
      refine for_list (xs := ns.map V.str) (fun i σ H' => ∃ (z1 z2 : Option V), σ = [some (.ref A.hall), some (.ref sh), some (.ref nl), some (.int p), z1, z2] ∧ KQ K M0 H H') ⟨_, _, rfl, k03⟩ (fun i σ H' _ p => by obtain ⟨_, _, _, kp⟩ := p; exact sqL_at (kp.at_ hnl)) (fun i x σ H' hx pp => ?_) fun σ H' pp => ?_
      · obtain ⟨z1, z2, rfl, kp⟩ := pp
        rw [List.getElem?_map] at hx
        cases hi : ns[i]? with
        | none => rw [hi] at hx; cases hx
        | some n =>
          rw [hi] at hx
          cases hx
          obtain ⟨hSn, hdn⟩ := hns n (List.mem_of_getElem? hi)
          have Hl' := Hl.k0 kp
          obtain ⟨dh', hh'⟩ := Hl'.obj
          refine ⟨_, rfl, A.hall, dh', _, rfl, hh', rfl, _, rfl, S, ds, A, g, l, c, p, gp, n, rfl, Hl', hs, hp, hg, hSO.good n hSn, hdn, fun H4 k4 => ?_⟩
          have Hl4 := Hl'.k0 k4
          obtain ⟨dh4, hh4⟩ := Hl4.obj
          obtain ⟨dr4, hro4⟩ := Hl4.roa.obj
          refine ⟨_, rfl, A.hall, dh4, _, rfl, hh4, rfl, S, ds, A, g, rfl, Hl4, A.r, dr4, _, rfl, hro4, rfl, _, rfl, _, rfl, A.r, S, p, gp, n, rfl, ⟨_, _, _, _, _, _, _, _, _, Hl4.roa, Hl4.gok, hg⟩, sz2, fun tl ntl => ?_⟩
          have k5 := (kp.trans k4).new ntl (o := .lst [(val gp.tr.ps n).getD .non, (val gp.tr.ps n).getD .non])
          have htl : upd H4 tl (.lst [(val gp.tr.ps n).getD .non, (val gp.tr.ps n).getD .non]) tl = some (.lst [(val gp.tr.ps n).getD .non, (val gp.tr.ps n).getD .non]) := upd_same
          generalize upd H4 tl (.lst [(val gp.tr.ps n).getD .non, (val gp.tr.ps n).getD .non]) = G at k5 htl ⊢
          refine ⟨_, rfl, _, rfl, sh, rfl, .inl ⟨_, .inl (k5.atD hsh)⟩, _, rfl, _, DGet.k (k := .inr n) (k5.atD hsh), ?_⟩
          rw [kvP_val, hval]
          refine ⟨sz1, fun pl npl => ⟨pl, 2, _, rfl, rfl, upd_same, by decide, by decide, sz2, fun pr npr => ?_⟩⟩
          have hsc := val_sc hW n
          generalize (val gp.tr.ps n).getD .non = v at htl hsc npl npr ⊢
          have k6 : KQ K M0 G _ := ((Kp.refl (T := TT K) (M := M0)).new npl (o := .lst [v])).new npr (o := .lst (List.replicate (2 : Int).toNat [v]).flatten)
          refine ⟨.ref tl, .ref pr, rfl, by decide, .inr ⟨⟨tl, pr, [v, v], [v, v], rfl, rfl, .inl ⟨k6.at_ htl, upd_same⟩, rfl, (show 2 < 1000 by decide), fun j x y hx hy => .inl ?_⟩, fun H7 k7 => ?_⟩⟩
          · match j, hx, hy with
            | 0, hx, hy =>
              cases hx
              cases hy
              exact ⟨hsc, rfl, by decide⟩
            | 1, hx, hy =>
              cases hx
              cases hy
              exact ⟨hsc, rfl, by decide⟩
            | j + 2, hx, _ => cases hx
          · exact ⟨true, rfl, _, _, rfl, (k5.trans k6).trans k7⟩
      · obtain ⟨z1, z2, rfl, kp⟩ := pp
        exact q H' kp
end RS

/-! text D32 -/
set_option Elab.async false
set_option linter.all false
set_option maxRecDepth 100000
set_option maxHeartbeats 1000000
/-! The law's look at the news. -/
namespace RS
open PySem PySem.Spec PyProof.Rows L2
theorem sc_law_news_right : FnScope ["_law_hall", "_law_news", "_law_shown", "_law_watchers", "_law_names_here", "_law_watcher", "_law_world", "_law_name", "_law_old", "_law_new", "_law_row"] ["_law_hall", "_law_news", "_law_shown", "_law_watchers"] (defScope s_law_news_right) := ⟨rfl, rfl, rfl, by decide +kernel, rfl, by decide +kernel, by decide +kernel⟩
variable {P : Program} {w : World} {K : PySem.W.Frag} {mg : Str → Option Value} {base : Heap}
/-! ### plain: names, pairs -/
def putP (shp : List (Str × V)) (n : Str) (v : V) : List (Str × V) := if n ∈ shp.map (·.1) then shp.map (fun q => if q.1 = n then (q.1, v) else q) else shp ++ [(n, v)]
theorem kvP_put (shp : List (Str × V)) (n : Str) (v : V) : putK (kvP shp) (.inr n) v = kvP (putP shp n v) := by
  by_cases h : n ∈ shp.map (·.1)
  · unfold putP putK
    rw [if_pos h, valV_any, kvP_some h, if_pos rfl]
    unfold kvP
    rw [List.map_map, List.map_map]
    refine List.map_congr_left fun q _ => ?_
    show (if (Sum.inr q.1 : Key) = .inr n then _ else _) = ((Sum.inr (if q.1 = n then (q.1, v) else q).1 : Key), (if q.1 = n then (q.1, v) else q).2)
    by_cases e : q.1 = n
    · rw [if_pos e, if_pos (by rw [e])]
    · rw [if_neg e, if_neg (fun z => e (by injection z))]
  · unfold putP
    rw [if_neg h, putK_new v (kvP_none h), kvP_app]
    rfl
theorem putP_val (shp : List (Str × V)) (n m : Str) (v : V) : val (putP shp n v) m = if m = n then some v else val shp m := by
  rw [← kvP_val, ← kvP_put, valV_put, kvP_val]
  by_cases e : m = n
  · rw [if_pos e, if_pos (by rw [e])]
  · rw [if_neg e, if_neg (fun z => e (by injection z))]
theorem putP_nodup {shp : List (Str × V)} (n : Str) (v : V) (h : (shp.map (·.1)).Nodup) : ((putP shp n v).map (·.1)).Nodup := by
  unfold putP
  by_cases m : n ∈ shp.map (·.1)
  · rw [if_pos m, List.map_map]
    have e : shp.map ((·.1) ∘ fun q : Str × V => if q.1 = n then (q.1, v) else q) = shp.map (·.1) := List.map_congr_left fun q _ => by
      show (if q.1 = n then (q.1, v) else q).1 = q.1
      by_cases e : q.1 = n
      · rw [if_pos e]
      · rw [if_neg e]
    rw [e]
    exact h
  · rw [if_neg m, List.map_append]
    refine List.nodup_append.mpr ⟨h, List.nodup_cons.mpr ⟨(fun z => nomatch z), List.nodup_nil⟩, fun a ha b hb e => ?_⟩
    rw [List.mem_singleton.mp hb] at e
    rw [e] at ha
    exact m ha
theorem kvP_drop (shp : List (Str × V)) (n : Str) : dropK (kvP shp) (.inr n) = kvP (shp.filter fun q => decide (q.1 ≠ n)) := by
  unfold dropK kvP
  rw [List.filter_map]
  congr 1
  refine List.filter_congr fun q _ => ?_
  show decide ((Sum.inr q.1 : Key) ≠ .inr n) = decide (q.1 ≠ n)
  by_cases e : q.1 = n
  · simp [e]
  · simp [e]
theorem names_shaped {ns : List Str} (h : ∀ n ∈ ns, GoodN n) : SeqAt.shaped (.list (ns.map PyData.str)) = true := by
  have key : ∀ ns : List Str, (∀ n ∈ ns, GoodN n) → PyData.canLayAll0 (ns.map PyData.str) = true ∧ PyData.depthAll (ns.map PyData.str) = 0 := by
    intro ns
    induction ns with
    | nil => intro _; exact ⟨rfl, rfl⟩
    | cons n r ih =>
      intro h
      obtain ⟨a, b⟩ := ih fun m hm => h m (List.mem_cons_of_mem _ hm)
      refine ⟨?_, ?_⟩
      · rw [List.map_cons]
        unfold PyData.canLayAll0
        rw [a]
        unfold PyData.canLay0
        rw [good_ok (h n (List.mem_cons_self ..))]
        rfl
      · rw [List.map_cons]
        unfold PyData.depthAll
        rw [b]
        rfl
  obtain ⟨a, b⟩ := key ns h
  unfold SeqAt.shaped PyData.canLay0 PyData.depth
  rw [a, b]
  rfl
theorem names_eqv (ns : List Str) : PyData.eqv (.list (ns.map PyData.str)) (.list (ns.map PyData.str)) = true := by
  have key : ∀ ns : List Str, PyData.eqvAll (ns.map PyData.str) (ns.map PyData.str) = true := by
    intro ns
    induction ns with
    | nil => rfl
    | cons n r ih =>
      rw [List.map_cons]
      unfold PyData.eqvAll
      rw [ih]
      unfold PyData.eqv
      simp
  unfold PyData.eqv
  exact key ns
theorem names_dp {H : Hp} {a : Addr} {ns : List Str} (h : H a = some (.lst (ns.map V.str))) : Dp K H (.ref a) (.list (ns.map PyData.str)) := by
  have key : ∀ ns : List Str, DpAll K H (ns.map V.str) (ns.map PyData.str) := by
    intro ns
    induction ns with
    | nil => exact .nil
    | cons n r ih => exact .cons (.str n) ih
  exact .lst (sqL_at h) (key ns)
theorem unl_ne {ps qs : List (Str × V)} {n : Str} (h : 0 < unl ps qs n) : val ps n ≠ val qs n := fun e => by
  unfold unl at h
  rw [if_pos e] at h
  exact absurd h (Nat.lt_irrefl _)
theorem unl_eq {ps qs : List (Str × V)} {n : Str} (h : unl ps qs n = 0) : val ps n = val qs n := by
  unfold unl at h
  by_cases e : val ps n = val qs n
  · exact e
  · rw [if_neg e] at h
    cases h
theorem getD_ne {S : Str → Prop} {tA tB : RS.T} {l1 l2 : Nat} {P1 P2 : Nat → Prop} (wA : tA.WF S l1 P1) (wB : tB.WF S l2 P2) {n : Str} (h : val tA.ps n ≠ val tB.ps n) : (val tB.ps n).getD .non ≠ (val tA.ps n).getD .non := by
  cases ha : val tA.ps n with
  | none =>
    cases hb : val tB.ps n with
    | none => exact absurd (ha.trans hb.symm) h
    | some v => exact isVal.ne (wB.each _ (val_mem hb)).2.2
  | some u =>
    cases hb : val tB.ps n with
    | none => exact (isVal.ne (wA.each _ (val_mem ha)).2.2).symm
    | some v => exact fun e => h (by rw [ha, hb]; exact congrArg some e.symm)
theorem step_val {ys : List Str} {i : Nat} {n : Str} (hn : ys[i]? = some n) {f1 f2 A B : Str → Option V} (h1 : ∀ m, f1 m = if m ∈ ys.take i then B m else A m) (h2 : ∀ m, f2 m = if m = n then B n else f1 m) : ∀ m, f2 m = if m ∈ ys.take (i + 1) then B m else A m := fun m => by
  rw [h2, h1, List.take_add_one, hn, Option.toList_some]
  by_cases e : m = n
  · rw [if_pos e, if_pos (List.mem_append_right _ (List.mem_singleton.mpr e)), e]
  · rw [if_neg e]
    by_cases y : m ∈ ys.take i
    · rw [if_pos y, if_pos (List.mem_append_left _ y)]
    · rw [if_neg y, if_neg (fun z => (List.mem_append.mp z).elim y fun z => e (List.mem_singleton.mp z))]
def spNews (K : PySem.W.Frag) : Sp := fun vs H Q _ => ∃ (S : Str → Prop) (ds : List (Str × V)) (A : Ad) (g : Gh) (l : List Nat) (c : Nat) (tA tB : RS.T) (nw sh wd : Addr) (rs : List Addr) (ns ws : List Str) (shp : List (Str × V)) (wk : List (Key × V)), vs = [.ref A.hall, .ref nw, .ref sh, .ref wd] ∧ HallA K H S ds A g ∧ g.sts = l ++ [c] ∧ SOk S ∧ tA.WF S 0 Root ∧ tB.WF S 0 Root ∧
  H nw = some (.lst (rs.map V.ref)) ∧ Paired (NRow H ws c tA tB) rs ns ∧ sortedS ns = true ∧ (∀ n, cnt n ns = unl tA.ps tB.ps n) ∧ H sh = some (.dK (kvP shp)) ∧ (shp.map (·.1)).Nodup ∧ (∀ n, val shp n = val tA.ps n) ∧ H wd = some (.dK wk) ∧ wd ≠ sh ∧ (∀ (i : Nat) (n : Str), ws[i]? = some n → valV wk (.inr n) = some (.int i)) ∧ (¬ MH A sh ∧ sh ≠ A.df) ∧
  ∀ (H' : Hp) (shp' : List (Str × V)), KQ K (Only sh) H H' → H' sh = some (.dK (kvP shp')) → (shp'.map (·.1)).Nodup → (∀ n, val shp' n = val tB.ps n) → Q (.bl true) H'
theorem d_law_news_right_ok (T : Tx K mg base) : Df P w K mg base CX0 5 (gA K "_law_news_right") (spNews K) := by
  have h_Hall_now := d_Hall_now_ok (P := P) (w := w) T
  have h_law_same := d_law_same_ok (P := P) (w := w) T 3
  refine df0 T.F_law_news_right sc_law_news_right (fun _ _ _ _ _ _ us hl => match us, hl with | [_, _, _, _], _ => rfl) (fun vs H Q E ⟨_, _, _, _, _, _, _, _, _, _, _, _, _, _, _, _, h, _⟩ => by rw [h]; rfl) fun cd A outer s H vs Q E hr h => ?_
  obtain ⟨S, ds, A, g, l, c, tA, tB, nw, sh, wd, rs, ns, ws, shp, wk, rfl, Hl, hs, hSO, wA, wB, hnw, hrs, hsrt, hc, hsh, hnd, hval, hwd, hws, hwk, ⟨hm1, hm2⟩, q⟩ := h
  refine ⟨_, (pss_cons (ps_setLc (i := 4) rfl sc_law_news_right.nd rfl rfl rfl (pi_list (pv 1)) (blkOk_by (own := [("_law_row", 10)]) (by kernel_rfl)) (fun _ _ _ _ _ => (pg_name (i := 10) sc_law_news_right.nd rfl (.inl rfl) (.inr rfl))) (fun _ _ _ _ _ => pts_nil) (fun _ _ _ _ _ => (pe_ix (ix_tupK K) (pv 10) pe_int (fun _ _ => rfl))))
    (pss_cons (ps_if (pt_cmpR (op_neD hr.units) (pv 4) (pe_callB (cr_sortSet rfl) rfl T.b_sorted (by decide +kernel) (pa_cons (pe_callTy (cr_setS rfl) rfl T.b_set (by decide +kernel) (pa_cons (pv 4) pa_nil)) pa_nil)) rfl) (pss_one (ps_ret pe_bl)) pss_nil)
    (pss_cons (ps_for PassesOwn.never rfl (pi_list (pv 1)) (pg_tup rfl (pgs_cons (pg_name (i := 5) sc_law_news_right.nd rfl (.inl rfl)) (pgs_cons (pg_name (i := 6) sc_law_news_right.nd rfl (.inl rfl)) (pgs_cons (pg_name (i := 7) sc_law_news_right.nd rfl (.inl rfl)) (pgs_cons (pg_name (i := 8) sc_law_news_right.nd rfl (.inl rfl)) (pgs_cons (pg_name (i := 9) sc_law_news_right.nd rfl (.inl rfl)) pgs_nil)))))) (pss_cons (ps_if (pt_not (pt_val (pe_c h_law_same (hr.mono (by decide)) T.g_law_same (pa_cons (pe_lst (pa_cons (pe_dget2 (hu_of hr) (pv 3) (pv 7) pe_non ⟨rfl, rfl, rfl, rfl⟩) (pa_cons (pe_m0 h_Hall_now (hr.mono (by decide)) T.cl_Hall T.me_Hall_now (pv 0)) pa_nil))) (pa_cons (pe_lst (pa_cons (pv 5) (pa_cons (pv 6) pa_nil))) pa_nil))))) (pss_one (ps_ret pe_bl)) pss_nil)
    (pss_cons (ps_if (PW.pt (pw_or (pt_not (pt_val (pe_c h_law_same (hr.mono (by decide)) T.g_law_same (pa_cons (pv 8) (pa_cons (pe_dget2 (hu_of hr) (pv 2) (pv 7) pe_non ⟨rfl, rfl, rfl, rfl⟩) pa_nil))))) (pw_or1 (pt_val (pe_c h_law_same (hr.mono (by decide)) T.g_law_same (pa_cons (pv 9) (pa_cons (pv 8) pa_nil))))))) (pss_one (ps_ret pe_bl)) pss_nil)
    (pss_one (ps_if (pt_cmpR op_isN (pv 9) pe_non rfl) (pss_one (ps_expr (pe_dpop1 (pv 2) (pv 7) ⟨rfl, rfl, rfl, rfl⟩))) (pss_one (ps_dput (hu_of hr) (pv 2) (pv 7) (pv 9) rfl)))))))
    (pss_one (ps_ret pe_bl))))), ?_⟩
  have hnn : ns.Nodup := nodup_cnt fun n => by rw [hc n]; exact unl_le _ _ _
  have hlen : rs.length = ns.length := Paired.length hrs
  have hns20 : ns.length ≤ 20 := few_names hSO.few wA wB fun n => by rw [hc n]; exact Nat.le_refl _
  have hSn : ∀ n ∈ ns, S n := fun n m => by
    have z := unl_mem (ps := tA.ps) (qs := tB.ps) (n := n) (by rw [← hc n]; exact cnt_mem.mpr m)
    rcases z with z | z
    · obtain ⟨q, hq, e⟩ := List.mem_map.mp z
      rw [← e]; exact (wA.each q hq).1
    · obtain ⟨q, hq, e⟩ := List.mem_map.mp z
      rw [← e]; exact (wB.each q hq).1
  have nwsh : nw ≠ sh := fun e => by rw [e, hsh] at hnw; cases hnw
  refine ⟨_, rfl, nw, rfl, ⟨_, sqL_at hnw⟩, fun D nD => ?_⟩
  refine lc_list (xs := rs.map V.ref) (fun i H' => KQ K M0 H H' ∧ H' D = some (.lst ((ns.take i).map V.str))) ⟨Kp.refl.new nD, upd_same⟩ (fun i H' _ p => sqL_at (p.1.at_ hnw)) (fun i x H' hx p => ?_) fun H1 p => ?_
  · obtain ⟨kp, hD⟩ := p
    rw [List.getElem?_map] at hx
    cases hi : rs[i]? with
    | none => rw [hi] at hx; cases hx
    | some r =>
      rw [hi] at hx
      cases hx
      obtain ⟨n, hn, wi, hwi, hr⟩ := LiI.paired_get hrs hi
      have hil : i < ns.length := (List.getElem?_eq_some_iff.mp hn).1
      refine ⟨rfl, _, rfl, r, _, 2, .str n, rfl, rfl, sqT_at (kp.tup hr), rfl, ?_⟩
      refine ⟨_, hD, ?_, kp.mutL (.of nD) hD, ?_⟩
      · rw [List.length_map, List.length_take]
        exact sz_lt (by omega)
      · rw [upd_same, List.take_add_one, hn, List.map_append]
        rfl
  obtain ⟨k1, hD⟩ := p
  rw [List.length_map, hlen, List.take_length] at hD
  refine ⟨_, rfl, _, rfl, D, ns, rfl, sqL_at hD, by omega, fun p L ndL memL lenL np => ?_⟩
  refine ⟨p, L, rfl, upd_same, by omega, fun ys p2 perm srt np2 => ?_⟩
  have eys : ys = ns := strict_uniq (strict_of (sorted_pw srt) (perm.nodup_iff.mpr ndL)) (strict_of (sorted_pw hsrt) hnn) fun x => by rw [perm.mem_iff, memL]
  subst eys
  have k2 : KQ K M0 H1 (upd (upd H1 p (SetSO w p L)) p2 (.lst (ys.map V.str))) := (Kp.refl.new np).new np2
  have hD2 := k2.at_ hD
  have hp2 : upd (upd H1 p (SetSO w p L)) p2 (.lst (ys.map V.str)) p2 = some (.lst (ys.map V.str)) := upd_same
  have k02 := k1.trans k2
  have shaped := names_shaped fun n m => hSO.good n (hSn n m)
  refine ⟨_, _, names_dp hD2, names_dp hp2, shaped, shaped, false, congrArg V.bl (by rw [names_eqv]; rfl), ?_⟩
  refine ⟨_, rfl, nw, rfl, ⟨_, sqL_at (k02.at_ hnw)⟩, ?_⟩
  refine for_list (xs := rs.map V.ref) (fun i σ H' => ∃ (z1 z2 z3 z4 z5 z6 : Option V) (shp1 : List (Str × V)), σ = [some (.ref A.hall), some (.ref nw), some (.ref sh), some (.ref wd), some (.ref D), z1, z2, z3, z4, z5, z6] ∧ KQ K (Only sh) H H' ∧ H' sh = some (.dK (kvP shp1)) ∧ (shp1.map (·.1)).Nodup ∧ (∀ n, val shp1 n = if n ∈ ys.take i then val tB.ps n else val tA.ps n))
    ⟨_, _, _, _, _, _, shp, rfl, k02.m0, k02.atD hsh, hnd, fun n => by rw [List.take_zero, if_neg (fun z => nomatch z)]; exact hval n⟩ (fun i σ H' _ p => by obtain ⟨_, _, _, _, _, _, _, _, kp, _⟩ := p; exact sqL_at (kp.lst hnw nwsh)) (fun i x σ H' hx p => ?_) fun σ H' p => ?_
  · obtain ⟨z1, z2, z3, z4, z5, z6, shp1, rfl, kp, hsh1, hnd1, hval1⟩ := p
    rw [List.getElem?_map] at hx
    cases hi : rs[i]? with
    | none => rw [hi] at hx; cases hx
    | some r =>
      rw [hi] at hx
      cases hx
      obtain ⟨n, hn, wi, hwi, hr⟩ := LiI.paired_get hrs hi
      have hil : i < ys.length := (List.getElem?_eq_some_iff.mp hn).1
      have hnm : n ∈ ys := List.mem_of_getElem? hn
      have hnt : n ∉ ys.take i := fun m => by
        have z := hnn
        rw [← List.take_append_drop i ys] at z
        have y : n ∈ ys.drop i := List.mem_of_getElem? (i := 0) (by rw [List.getElem?_drop]; exact hn)
        exact (List.nodup_append.mp z).2.2 n m n y rfl
      have hA : val shp1 n = val tA.ps n := by rw [hval1, if_neg hnt]
      have hu := unl_ne (ps := tA.ps) (qs := tB.ps) (n := n) (by rw [← hc n]; exact cnt_mem.mpr hnm)
      have gn := hSO.good n (hSn n hnm)
      have wdH : H' wd = some (.dK wk) := kp.dK hwd hws
      have Hl1 := Hl.kf (KF.of kp) fun b z e => by rw [show b = sh from z] at e; exact e.elim hm1 hm2
      obtain ⟨dh, hh⟩ := Hl1.obj
      refine ⟨r, _, rfl, sqT_at (kp.tup hr), rfl, _, _, rfl, _, _, rfl, _, _, rfl, _, _, rfl, _, _, rfl, rfl, ?_⟩
      refine ⟨_, rfl, wd, rfl, .inl ⟨_, .inl wdH⟩, _, rfl, _, DGet.k (k := .inr n) wdH, ?_⟩
      rw [hwk wi n hwi]
      refine ⟨_, rfl, A.hall, dh, _, rfl, hh, rfl, S, ds, A, g, l, c, rfl, Hl1, hs, sz2, fun l1 n1 => ?_⟩
      refine ⟨_, rfl, _, rfl, sz2, fun l2 n2 => ?_⟩
      have kL : KQ K M0 H' _ := (Kp.refl.new n1 (o := .lst [(some (V.int wi)).getD .non, .int c])).new n2 (o := .lst [.int wi, .int c])
      refine ⟨.ref l1, .ref l2, rfl, by decide, .inr ⟨⟨l1, l2, [.int wi, .int c], [.int wi, .int c], rfl, rfl, .inl ⟨by rw [upd_ne (ne_of_none upd_same n2)]; exact upd_same, upd_same⟩, rfl, (show 2 < 1000 by decide), fun j x y hx hy => .inl ?_⟩, fun H3 k3 => ?_⟩⟩
      · match j, hx, hy with
        | 0, hx, hy =>
          cases hx
          cases hy
          exact ⟨.inr rfl, rfl, by decide⟩
        | 1, hx, hy =>
          cases hx
          cases hy
          exact ⟨.inr rfl, rfl, by decide⟩
        | j + 2, hx, _ => cases hx
      have k4 : KQ K M0 H' H3 := kL.trans k3
      have hsh3 := k4.atD hsh1
      clear kL k3 n1 n2
      refine ⟨true, rfl, ?_⟩
      refine ⟨_, rfl, _, rfl, sh, rfl, .inl ⟨_, .inl hsh3⟩, _, rfl, _, DGet.k (k := .inr n) hsh3, ?_⟩
      rw [kvP_val, hA]
      refine ⟨_, _, rfl, by decide, .inl ⟨val_sc wA n, val_sc wA n, fun H5 k5 => ⟨true, congrArg V.bl (decide_eq_true rfl), ?_⟩⟩⟩
      refine ⟨_, rfl, _, rfl, _, _, rfl, by decide, .inl ⟨val_sc wB n, val_sc wA n, fun H6 k6 => ⟨false, congrArg V.bl (decide_eq_false (getD_ne wA wB hu)), ?_⟩⟩⟩
      have k46 := (k4.trans k5).trans k6
      have hsh6 := k46.atD hsh1
      have k06 : KQ K (Only sh) H H6 := kp.trans k46.m0
      have hl1 : shp1.length ≤ 20 := by
        have z := hSO.few _ hnd1 fun m hm => by
          cases e : val shp1 m with
          | none => exact absurd hm (val_none_iff.mp e)
          | some v =>
            rw [hval1] at e
            by_cases y : m ∈ ys.take i
            · rw [if_pos y] at e
              exact (wB.each _ (val_mem e)).1
            · rw [if_neg y] at e
              exact (wA.each _ (val_mem e)).1
        rw [List.length_map] at z
        exact z
      refine ⟨_, rfl, rfl, decide ((val tB.ps n).getD .non = .non), rfl, ?_⟩
      cases hvB : val tB.ps n with
      | none =>
        obtain ⟨u, hvA⟩ : ∃ u, val tA.ps n = some u := by
          cases e : val tA.ps n with
          | none => exact absurd (e.trans hvB.symm) hu
          | some u => exact ⟨u, rfl⟩
        refine ⟨_, rfl, sh, rfl, .inl ⟨_, .inl hsh6⟩, _, rfl, kvP shp1, .inr n, u, hsh6, rfl, by rw [kvP_val, hA, hvA], ?_⟩
        rw [kvP_drop]
        have kU : KQ K (Only sh) H6 (upd H6 sh (.dK (kvP (shp1.filter fun q => decide (q.1 ≠ n))))) := Kp.refl.updD rfl hsh6
        refine ⟨_, _, _, _, _, _, _, rfl, k06.trans kU, upd_same, (hnd1.sublist (List.filter_sublist.map _)), step_val hn hval1 fun m => ?_⟩
        rw [val_filter, hvB]
      | some u =>
        have hne : u ≠ .non := isVal.ne (wB.each _ (val_mem hvB)).2.2
        have e1 : decide ((some u).getD V.non = V.non) = false := decide_eq_false hne
        rw [e1]
        refine ⟨_, rfl, _, rfl, _, rfl, sh, _, rfl, DPut.k (k := .inr n) hsh6 (by rw [kvP_len]; exact sz_lt (by omega)), ?_⟩
        rw [kvP_put]
        have kU : KQ K (Only sh) H6 (upd H6 sh (.dK (kvP (putP shp1 n u)))) := Kp.refl.updD rfl hsh6
        refine ⟨_, _, _, _, _, _, _, rfl, k06.trans kU, upd_same, putP_nodup n u hnd1, step_val hn hval1 fun m => ?_⟩
        rw [putP_val, hvB]
        rfl
  · obtain ⟨z1, z2, z3, z4, z5, z6, shp1, rfl, kp, hsh1, hnd1, hval1⟩ := p
    refine q H' shp1 kp hsh1 hnd1 fun n => ?_
    rw [List.length_map, hlen, List.take_length] at hval1
    rw [hval1]
    by_cases m : n ∈ ys
    · rw [if_pos m]
    · rw [if_neg m]
      refine unl_eq ?_
      rw [← hc n]
      rcases Nat.eq_zero_or_pos (cnt n ys) with z | z
      · exact z
      · exact absurd (cnt_mem.mp z) m
end RS

/-! text D33 -/
set_option Elab.async false
set_option linter.all false
set_option maxRecDepth 100000
set_option maxHeartbeats 1000000
/-! A deed of the law. -/
namespace RS
open PySem PySem.Spec PyProof.Rows L2
theorem sc_law_tried : FnScope ["_law_box_here", "_law_hall", "_law_eye", "_law_names_here", "_law_way", "_law_done"] ["_law_box_here", "_law_hall", "_law_eye", "_law_names_here"] (defScope s_law_tried) := ⟨rfl, rfl, rfl, by decide +kernel, rfl, by decide +kernel, by decide +kernel⟩
theorem call_len_seqK {X : Cx} (K : PySem.W.Frag) (hK : X.K = K := by rfl) : CallR X (.builtin "len") (fun xs H Q => ∃ (p : Addr) (ys : List V), xs = [V.ref p] ∧ (SqL K H p ys ∨ SqT K H p ys) ∧ Q (.int ys.length) H) := by
  subst hK
  exact call_len_seq
/-! ### a method's call whose exception is wished for at the caller's slots -/
def tMethSW (C : Addr) (m : Str) (sp : Sp) (W : WX) (ta : TE) (t : TA) : TE := fun σ H Q => ta σ H fun x H1 => ∃ a dx fs, x = .ref a ∧ H1 a = some (.ins C dx fs) ∧ fs.lookup m = none ∧ t σ H1 fun vs H2 => sp (x :: vs) H2 Q (WE W σ)
section
variable {X : Cx} {k : Nat} {f C : Addr} {sp : Sp} {m : Str} {pos apos : Pos} {e o : Expr} {es : List Expr} {ta : TE} {t : TA} {W : WX}
theorem pe_mS {pl : Sem Bool} (tk : Takes X W) (D : Df X.prog X.w X.K X.mg X.base (L2.CX X.prog X.w) k f sp) (hr : Room k X.A) (c : Cls X.K C) (hm : Meth X.K C m f) (he : PE X o ta) (ha : PA X (e :: es) t)
    (h1 : starEach (e :: es) X.env = (false, eval e X.env) :: starEach es X.env := by rfl) (h2 : (backTo pos (starEach es X.env)).any (·.1) = false := by rfl) (h3 : MCall X o m apos (e :: es) pos pl := by rfl) :
    PE X (.Call (.Attribute o m apos) (e :: es) [] pos) (tMethSW C m sp W ta t) := by
  obtain ⟨⟨fd, ps, F, b⟩, q⟩ := D
  refine ⟨fun pins s σ H Q I h => ?_⟩
  refine PySem.W.methodCall_KW (pl := pl) (thn (he.run pins s σ H _ I h) fun u s1 ⟨x, H1, I1, rx, a, dx, fs, ex, ea, l, q⟩ => ?_) h3
  subst ex
  obtain rfl : u = Value.ref a := rx
  refine getmeth_ok I1 ea c hm l ?_
  refine PySem.W.callWith_K (first := [.ref a]) (h₀ := X.base) I.ok.mod.kin hm.kp (thn (ha.run pos pins s1 σ H1 _ I1 q) fun us s2 ⟨vs, H2, I2, r, q2⟩ => ⟨I2.kIn, ?_⟩) h1 h2
  exact run_fnS (us := .ref a :: us) (vs := .ref a :: vs) F hr b (passAt tk σ) I2 (.cons rfl r) q2
theorem pe_m0S {pl : Sem Bool} (tk : Takes X W) (D : Df X.prog X.w X.K X.mg X.base (L2.CX X.prog X.w) k f sp) (hr : Room k X.A) (c : Cls X.K C) (hm : Meth X.K C m f) (he : PE X o ta) (h3 : MCall X o m apos [] pos pl := by rfl) :
    PE X (.Call (.Attribute o m apos) [] [] pos) (tMethSW C m sp W ta tNil) := by
  obtain ⟨⟨fd, ps, F, b⟩, q⟩ := D
  refine ⟨fun pins s σ H Q I h => ?_⟩
  refine PySem.W.methodCall_KW (pl := pl) (thn (he.run pins s σ H _ I h) fun u s1 ⟨x, H1, I1, rx, a, dx, fs, ex, ea, l, q⟩ => ?_) h3
  subst ex
  obtain rfl : u = Value.ref a := rx
  refine getmeth_ok I1 ea c hm l ?_
  exact PySem.W.callWith_K0 (first := [.ref a]) I1.kIn hm.kp (run_fnS (us := [.ref a]) (vs := [.ref a]) F hr b (passAt tk σ) I1 (.cons rfl .nil) q)
end
variable {P : Program} {w : World} {K : PySem.W.Frag} {mg : Str → Option Value} {base : Heap}
theorem exm6 (T : Tx K mg base) {x : Str} (h : x ∈ errs6) : PySem.W.exmOne K (.ref (gA K x)) (.ref (gA K "RoadError")) = some true := by
  simp only [errs6, List.mem_cons, List.not_mem_nil, or_false] at h
  rcases h with rfl | rfl | rfl | rfl | rfl | rfl
  · exact T.xm_Busy
  · exact T.xm_AtHome
  · exact T.xm_NoToken
  · exact T.xm_Used
  · exact T.xm_Elsewhere
  · exact T.xm_OutOfTurn
theorem unl_self (ps : List (Str × V)) (n : Str) : unl ps ps n = 0 := by unfold unl; rw [if_pos rfl]
def ML2 (A : Ad) (ul b : Addr) : Addr → Prop := fun x => ML A ul x ∨ x = b
/-- what a deed of the law leaves -/
def TOut (K : PySem.W.Frag) (H : Hp) (Q : VK) (S : Str → Prop) (ds : List (Str × V)) (A : Ad) (k : Nat) (b : Addr) (n : Nat) (lo wr ul : Addr) (ws : List Str) (ta : RS.T) : Prop := ∀ (H' : Hp) (done : Bool) (g' : Gh) (rs : List Addr) (ns : List Str) (l' : List Nat) (c' p' : Nat) (gp' : SG), KF K (ML2 A ul b) H H' → LookA K H' A.hall lo wr ul ws (rs.map V.ref) → HallA K H' S ds A g' → Bud g' (k + 1) →
  g'.sts = l' ++ [c'] → g'.sps[c']? = some p' → g'.Gs[p']? = some gp' → sortedS ns = true → (∀ n, cnt n ns = unl ta.ps gp'.tr.ps n) → Paired (NRow H' ws c' ta gp'.tr) rs ns → BoxA H' b (n + 60) → (done = false → rs = []) → Q (.bl done) H'
def spTried (K : PySem.W.Frag) : Sp := fun vs H Q _ => ∃ (S : Str → Prop) (ds : List (Str × V)) (A : Ad) (g : Gh) (k : Nat) (b : Addr) (n : Nat) (lo wr ul nl : Addr) (ws : List Str) (l : List Nat) (c p : Nat) (gp : SG) (nms : List Str), vs = [.ref b, .ref A.hall, .ref lo, .ref nl] ∧ LPre K H S ds A g k lo wr ul ws [] l c p gp ∧ BoxA H b n ∧ n < 800000 ∧ ¬ ML A ul b ∧ b ≠ A.df ∧ H nl = some (.lst (nms.map V.str)) ∧ nl ≠ b ∧ 0 < nms.length ∧ nms.length ≤ 20 ∧ (∀ m ∈ nms, S m ∧ m ∈ ds.map (·.1)) ∧ TOut K H Q S ds A k b n lo wr ul ws gp.tr
theorem LPre.kb {H H1 : Hp} {S : Str → Prop} {ds : List (Str × V)} {A : Ad} {g : Gh} {k : Nat} {lo wr ul b : Addr} {ws : List Str} {us : List V} {l : List Nat} {c p : Nat} {gp : SG} (X : LPre K H S ds A g k lo wr ul ws us l c p gp) (kb : KQ K (Only b) H H1) (h1 : ¬ ML A ul b) (h2 : b ≠ A.df) (h3 : wr ≠ b) : LPre K H1 S ds A g k lo wr ul ws us l c p gp := by
  obtain ⟨L, Hl, Ap, hs, hp, hg, B, hk, hSO, hnd, hall, hwl, hul, hT⟩ := X
  exact ⟨L.kp kb (fun z => h3 z) (fun z => h1 (.inr (show ul = b from z).symm)), Hl.kf (KF.of kb) fun x z e => by
    rw [show x = b from z] at e
    exact e.elim (fun y => h1 (.inl y)) h2, Ap, hs, hp, hg, B, hk, hSO, hnd, hall, hwl, hul, kb.t hT⟩
theorem BoxA.kf {H H1 : Hp} {b : Addr} {n : Nat} {M : Addr → Prop} (h : BoxA H b n) (k : KF K M H H1) (m : ¬ M b) : BoxA H1 b n := let ⟨x0, x1, x2, e, z⟩ := h; ⟨x0, x1, x2, k.lst e m, z⟩
theorem d_law_tried_ok (T : Tx K mg base) : Df P w K mg base CX0 17 (gA K "_law_tried") (spTried K) := by
  have h_law_take := d_law_take_ok (P := P) (w := w) T
  have h_law_value := d_law_value_ok (P := P) (w := w) T
  have h_Hall_worlds := d_Hall_worlds_ok (P := P) (w := w) T
  have h_Hall_copy := d_Hall_copy_ok (P := P) (w := w) T
  have h_Lookout_set_to := d_Lookout_set_to_ok (P := P) (w := w) T
  have h_Lookout_back := d_Lookout_back_ok (P := P) (w := w) T
  have h_Lookout_enter := d_Lookout_enter_ok (P := P) (w := w) T
  have h_Lookout_leave := d_Lookout_leave_ok (P := P) (w := w) T
  refine df0 T.F_law_tried sc_law_tried (fun _ _ _ _ _ _ us hl => match us, hl with | [_, _, _, _], _ => rfl) (fun vs H Q E ⟨_, _, _, _, _, _, _, _, _, _, _, _, _, _, _, _, _, h, _⟩ => by rw [h]; rfl) fun cd A outer s H vs Q E hr h => ?_
  obtain ⟨S, ds, A, g, k, b, n, lo, wr, ul, nl, ws, l, c, p, gp, nms, rfl, X, B, hn, hb1, hb2, hnl, hnb, hz, hz2, hnm, q⟩ := h
  refine ⟨_, (pss_cons (ps_par (i := 4) (j := 5) rfl sc_law_tried.nd rfl rfl (by decide) rfl rfl (pa_cons (pe_c h_law_take (hr.mono (by decide)) T.g_law_take (pa_cons (pv 0) (pa_cons pe_int pa_nil))) (pa_cons pe_bl pa_nil)) rfl)
    (pss_cons (ps_if (pt_cmpR op_eq (pv 4) pe_int rfl) (pss_cons (ps_if (pt_cmpR op_lt (pe_m0 h_Hall_worlds (hr.mono (by decide)) T.cl_Hall T.me_Hall_worlds (pv 1)) pe_int rfl) (pss_one (ps_expr (pe_m h_Hall_copy (hr.mono (by decide)) T.cl_Hall T.me_Hall_copy (pv 1) (pa_cons (pe_c h_law_take (hr.mono (by decide)) T.g_law_take (pa_cons (pv 0) (pa_cons (pe_m0 h_Hall_worlds (hr.mono (by decide)) T.cl_Hall T.me_Hall_worlds (pv 1)) pa_nil))) pa_nil)))) pss_nil)
    (pss_one (ps_ret pe_bl))) pss_nil)
    (pss_cons (ps_try_only rfl rfl ⟨rfl, by decide, .inl T.g_RoadError⟩ takes0 (fun W pn xe tk _ => (pss_one (ps_if (pt_cmpR op_lt (pv 4) pe_int rfl) (pss_one (ps_expr (pe_m h_Lookout_set_to (hr.mono (by decide)) T.cl_Lookout T.me_Lookout_set_to (pv 2) (pa_cons (pe_ix (ix_listK K) (pv 3) (pe_c h_law_take (hr.mono (by decide)) T.g_law_take (pa_cons (pv 0) (pa_cons (pe_callB (call_len_seqK K) rfl T.b_len boot_len (pa_cons (pv 3) pa_nil)) pa_nil))) (fun _ _ => rfl)) (pa_cons (pe_c h_law_value (hr.mono (by decide)) T.g_law_value (pa_cons (pv 0) pa_nil)) pa_nil))))) (pss_one (ps_if (pt_cmpR op_lt (pv 4) pe_int rfl) (pss_one (ps_expr (pe_mS tk h_Lookout_back (hr.mono (by decide)) T.cl_Lookout T.me_Lookout_back (pv 2) (pa_cons (pe_c h_law_take (hr.mono (by decide)) T.g_law_take (pa_cons (pv 0) (pa_cons pe_int pa_nil))) pa_nil)))) (pss_one (ps_if (pt_cmpR op_lt (pv 4) pe_int rfl) (pss_one (ps_expr (pe_mS tk h_Lookout_enter (hr.mono (by decide)) T.cl_Lookout T.me_Lookout_enter (pv 2) (pa_cons (pe_c h_law_take (hr.mono (by decide)) T.g_law_take (pa_cons (pv 0) (pa_cons (pe_m0 h_Hall_worlds (hr.mono (by decide)) T.cl_Hall T.me_Hall_worlds (pv 1)) pa_nil))) pa_nil)))) (pss_one (ps_expr (pe_m0S tk h_Lookout_leave (hr.mono (by decide)) T.cl_Lookout T.me_Lookout_leave (pv 2))))))))))) (fun a oe cls d pn _ _ => (pss_one (ps_set (i := 5) sc_law_tried.nd rfl (.inl rfl) pe_bl))))
    (pss_one (ps_ret (pv 5)))))), ?_⟩
  have hwb : wr ≠ b := fun e => by
    have z := X.L.row
    obtain ⟨_, _, _, y, _⟩ := B
    rw [e, y] at z
    cases z
  have fin0 : ∀ (H' : Hp) (m : Nat) (done : Bool), KQ K (Only b) H H' → BoxA H' b m → m ≤ n + 60 → Q (.bl done) H' := fun H' m done kk BB hm => by
    have X1 := X.kb kk hb1 hb2 hwb
    exact q H' done g [] [] l c p gp ((KF.of kk).mono fun x z => .inr z) X1.L X1.Hl (by obtain ⟨b1, b2, b3, b4, b5, b6, b7⟩ := X1.B; have := X1.hk; exact ⟨by omega, by omega, by omega, by omega, by omega, by omega, by omega⟩) X1.hs X1.hp X1.hg rfl (fun x => (unl_self _ x).symm) .nil (BB.le hm) fun _ => rfl
  have finL : ∀ (H2 : Hp) (m : Nat), KQ K (Only b) H H2 → BoxA H2 b m → m ≤ n + 60 → ∀ (H' : Hp) (g' : Gh) (rs : List Addr) (ns : List Str) (l' : List Nat) (c' p' : Nat) (gp' : SG), KF K (ML A ul) H2 H' → LookA K H' A.hall lo wr ul ws ([] ++ rs.map V.ref) → HallA K H' S ds A g' → Bud g' (k + 1) →
      g'.sts = l' ++ [c'] → g'.sps[c']? = some p' → g'.Gs[p']? = some gp' → sortedS ns = true → (∀ n, cnt n ns = unl gp.tr.ps gp'.tr.ps n) → Paired (NRow H' ws c' gp.tr gp'.tr) rs ns → Q (.bl true) H' := fun H2 m kk BB hm H' g' rs ns l' c' p' gp' kF L3 Hl3 B3 hs3 hp3 hg3 srt hc hrs =>
    q H' true g' rs ns l' c' p' gp' (((KF.of kk).mono fun x z => .inr z).trans (kF.mono fun x z => .inl z)) L3 Hl3 B3 hs3 hp3 hg3 srt hc hrs ((BB.kf kF hb1).le hm) (fun z => nomatch z)
  refine ⟨_, rfl, b, n, 10, rfl, B, by omega, by decide, by decide, fun H1 r hr1 k1 B1 => ⟨_, _, rfl, ?_⟩⟩
  have X1 := X.kb k1 hb1 hb2 hwb
  obtain ⟨dx, mm, ho⟩ := X1.L.obj
  obtain ⟨dh, hh⟩ := X1.Hl.obj
  have hsp0 : 0 < g.sps.length := Nat.lt_of_le_of_lt (Nat.zero_le _) (List.getElem?_eq_some_iff.mp X.hp).1
  have hspk : g.sps.length ≤ 501 := by have := X.B.sps; have := X.hk; omega
  refine ⟨_, rfl, rfl, _, rfl, ?_⟩
  by_cases e9 : r = 9
  · rw [decide_eq_true (show V.int (r : Nat) = V.int 9 by rw [e9]; rfl)]
    refine ⟨_, rfl, A.hall, dh, _, rfl, hh, rfl, S, ds, A, g, rfl, X1.Hl, _, _, rfl, rfl, _, rfl, ?_⟩
    by_cases e20 : g.sps.length < 20
    · rw [decide_eq_true (show ((g.sps.length : Nat) : Int) < 20 by omega)]
      refine ⟨_, rfl, A.hall, dh, _, rfl, hh, rfl, _, rfl, _, rfl, A.hall, dh, _, rfl, hh, rfl, S, ds, A, g, rfl, X1.Hl, b, _, g.sps.length, rfl, B1, by omega, hsp0, by omega, fun H2 c2 hc2 k2 B2 => ?_⟩
      have X2 := X.kb (k1.trans k2) hb1 hb2 hwb
      refine ⟨S, ds, A, g, c2, g.sps[c2], rfl, X2.Hl, List.getElem?_eq_getElem hc2, by omega, fun H3 k3 Hl3 v => ?_⟩
      have hp3 : (g.sps ++ [g.sps[c2]])[c]? = some p := ext_snoc _ _ X.hp
      have kF : KF K (ML2 A ul b) H H3 := ((KF.of (k1.trans k2)).mono fun x z => .inr z).trans ((KF.of k3).mono fun x z => .inl (.inl z))
      exact q H3 true { g with sps := g.sps ++ [g.sps[c2]] } [] [] l c p gp kF (X2.L.kp k3 X.Ap.w1 X.Ap.u1) Hl3
        (by obtain ⟨b1, b2, b3, b4, b5, b6, b7⟩ := X.B; have := X.hk; exact ⟨by show g.as.length ≤ _; omega, by show g.tk.length ≤ _; omega, by show g.Gs.length ≤ _; omega, by show g.fx.length ≤ _; omega, by show (g.sps ++ [g.sps[c2]]).length ≤ _; rw [List.length_append]; show _ + 1 ≤ _; omega, by show g.sts.length ≤ _; omega, by omega⟩)
        X.hs hp3 X.hg rfl (fun x => (unl_self _ x).symm) .nil ((B2.kf (KF.of k3) fun z => hb1 (.inl z)).le (by omega)) fun _ => rfl
    · rw [decide_eq_false (show ¬ ((g.sps.length : Nat) : Int) < 20 by omega)]
      exact fin0 H1 _ true k1 B1 (by omega)
  rw [decide_eq_false (show ¬ V.int (r : Nat) = V.int 9 from fun z => e9 (by injection z with z; omega))]
  have qx : ∀ (H2 : Hp) (m : Nat) (E' : XK), KQ K (Only b) H H2 → BoxA H2 b m → m ≤ n + 60 → (∀ (x : Str) (d : Option Addr) (H' : Hp), x ∈ errs6 → Q (.bl false) H' → E' (.ref (gA K x)) d H') → XOut K H2 E' := fun H2 m E' kk BB hm hE x d H' mx k' => hE x d H' mx (fin0 H' m false (kk.trans k'.m0) (BB.kp k' id) hm)
  refine ⟨_, rfl, _, _, rfl, rfl, _, rfl, ?_⟩
  by_cases e4 : r < 4
  · rw [decide_eq_true (show ((r : Nat) : Int) < 4 by omega)]
    have hnl1 := k1.lst hnl (fun z => hnb z)
    refine ⟨_, rfl, lo, dx, _, rfl, ho, rfl, _, rfl, _, rfl, _, rfl, nl, _, rfl, .inl (sqL_at hnl1), b, _, (nms.map V.str).length, rfl, B1, by omega, by rw [List.length_map]; omega, by rw [List.length_map]; omega, fun H2 i hi k2 B2 => ?_⟩
    have hnl2 := k2.lst hnl1 (fun z => hnb z)
    rw [List.length_map] at hi
    refine ⟨nl, _, i, .str nms[i], rfl, rfl, sqL_at hnl2, atN (by rw [List.getElem?_map, List.getElem?_eq_getElem hi]; rfl), _, rfl, b, _, rfl, B2, by omega, fun H3 v hv k3 B3 => ?_⟩
    have X3 := X.kb ((k1.trans k2).trans k3) hb1 hb2 hwb
    obtain ⟨hS1, hS2⟩ := hnm _ (List.getElem_mem hi)
    exact ⟨S, ds, A, g, k, lo, wr, ul, ws, [], l, c, p, gp, _, v, rfl, X3, hS1, hS2, hv, fun H' g' rs ns l' c' p' gp' kF L3 Hl3 B4 hs3 hp3 hg3 srt hc hrs v => ⟨_, rfl, finL H3 _ ((k1.trans k2).trans k3) B3 (by omega) H' g' rs ns l' c' p' gp' kF L3 Hl3 B4 hs3 hp3 hg3 srt hc hrs⟩⟩
  rw [decide_eq_false (show ¬ ((r : Nat) : Int) < 4 by omega)]
  refine ⟨_, rfl, _, _, rfl, rfl, _, rfl, ?_⟩
  by_cases e6 : r < 6
  · rw [decide_eq_true (show ((r : Nat) : Int) < 6 by omega)]
    refine ⟨_, rfl, lo, dx, _, rfl, ho, rfl, _, rfl, b, _, 12, rfl, B1, by omega, by decide, by decide, fun H2 j hj k2 B2 => ?_⟩
    have X2 := X.kb (k1.trans k2) hb1 hb2 hwb
    exact ⟨S, ds, A, g, k, lo, wr, ul, ws, [], l, c, p, gp, j, rfl, X2, qx H2 _ _ (k1.trans k2) B2 (by omega) (fun x d H' mx hq => ⟨true, exm6 T mx, fun _ a ha => ⟨_, rfl, hq⟩, fun z => nomatch z⟩), fun H' g' rs ns l' c' p' gp' kF L3 Hl3 B4 hs3 hp3 hg3 srt hc hrs v => ⟨_, rfl, finL H2 _ (k1.trans k2) B2 (by omega) H' g' rs ns l' c' p' gp' kF L3 Hl3 B4 hs3 hp3 hg3 srt hc hrs⟩⟩
  rw [decide_eq_false (show ¬ ((r : Nat) : Int) < 6 by omega)]
  refine ⟨_, rfl, _, _, rfl, rfl, _, rfl, ?_⟩
  by_cases e8 : r < 8
  · rw [decide_eq_true (show ((r : Nat) : Int) < 8 by omega)]
    refine ⟨_, rfl, lo, dx, _, rfl, ho, rfl, _, rfl, _, rfl, A.hall, dh, _, rfl, hh, rfl, S, ds, A, g, rfl, X1.Hl, b, _, g.sps.length, rfl, B1, by omega, hsp0, by omega, fun H2 j hj k2 B2 => ?_⟩
    have X2 := X.kb (k1.trans k2) hb1 hb2 hwb
    exact ⟨S, ds, A, g, k, lo, wr, ul, ws, [], l, c, p, gp, j, rfl, X2, hj, qx H2 _ _ (k1.trans k2) B2 (by omega) (fun x d H' mx hq => ⟨true, exm6 T mx, fun _ a ha => ⟨_, rfl, hq⟩, fun z => nomatch z⟩), fun H' g' rs ns l' c' p' gp' kF L3 Hl3 B4 hs3 hp3 hg3 srt hc hrs v => ⟨_, rfl, finL H2 _ (k1.trans k2) B2 (by omega) H' g' rs ns l' c' p' gp' kF L3 Hl3 B4 hs3 hp3 hg3 srt hc hrs⟩⟩
  rw [decide_eq_false (show ¬ ((r : Nat) : Int) < 8 by omega)]
  exact ⟨_, rfl, lo, dx, _, rfl, ho, rfl, S, ds, A, g, k, lo, wr, ul, ws, [], l, c, p, gp, rfl, X1, qx H1 _ _ k1 B1 (by omega) (fun x d H' mx hq => ⟨true, exm6 T mx, fun _ a ha => ⟨_, rfl, hq⟩, fun z => nomatch z⟩), fun H' g' rs ns l' c' p' gp' kF L3 Hl3 B4 hs3 hp3 hg3 srt hc hrs v => ⟨_, rfl, finL H1 _ k1 B1 (by omega) H' g' rs ns l' c' p' gp' kF L3 Hl3 B4 hs3 hp3 hg3 srt hc hrs⟩⟩
end RS

/-! text D34 -/
set_option Elab.async false
set_option linter.all false
set_option maxRecDepth 100000
set_option maxHeartbeats 1000000
/-! What stands between two deeds of the law. -/
namespace RS
open PySem PySem.Spec PyProof.Rows L2
variable {P : Program} {w : World} {K : PySem.W.Frag} {mg : Str → Option Value} {base : Heap}
/-! ### the script -/
def SC (K : PySem.W.Frag) (H : Hp) (a : Addr) (xs : List V) (N : Addr → Prop) : Prop := (H a = some (.lst xs) ∧ ¬ N a) ∨ ((∃ o, H a = some (.frz o (.lst xs))) ∨ ∃ (o : Obj) (its : Array Value) (n : Nat), K.lookup a = some o ∧ o.cls = .type "list" ∧ o.dict = none ∧ o.data = .seq its n ∧ its.size ≤ sizeLine ∧ Vals xs its.toList)
section
variable {H H1 : Hp} {a : Addr} {xs : List V} {N N' M : Addr → Prop}
theorem SC.of (h : SqL K H a xs) : SC K H a xs fun _ => False := by
  rcases h with (h | h) | h
  · exact .inl ⟨h, id⟩
  · exact .inr (.inl h)
  · exact .inr (.inr h)
theorem SC.sq (h : SC K H a xs N) : SqL K H a xs := by
  rcases h with ⟨h, _⟩ | h | h
  · exact .inl (.inl h)
  · exact .inl (.inr h)
  · exact .inr h
theorem SC.kf (h : SC K H a xs N) (k : KF K M H H1) (m : ∀ x, M x → N x) : SC K H1 a xs N := by
  rcases h with ⟨h, n⟩ | ⟨o, h⟩ | h
  · exact .inl ⟨k.lst h fun z => n (m a z), n⟩
  · exact .inr (.inl ⟨o, k.frz h⟩)
  · exact .inr (.inr h)
theorem SC.wide (h : SC K H a xs N) (m : ∀ x, N' x → N x ∨ NN H x) : SC K H a xs N' := by
  rcases h with ⟨h, n⟩ | h
  · exact .inl ⟨h, fun z => (m a z).elim n fun y => nn_ne h y rfl⟩
  · exact .inr h
end
/-- new places are none of the hall's -/
theorem HallA.fresh {H : Hp} {S : Str → Prop} {ds : List (Str × V)} {A : Ad} {g : Gh} {x : Addr} (h : HallA K H S ds A g) (n : NN H x) : ¬ MH A x ∧ x ≠ A.df := by
  have nd : ∀ {a : Addr} {ys : List (Key × V)}, H a = some (.dK ys) → x ≠ a := fun {a ys} e z => by
    rw [z] at n
    obtain ⟨ps, y⟩ := n _ e
    cases y
  refine ⟨fun m => ?_, nd h.df⟩
  simp only [MH, List.mem_cons, List.not_mem_nil, or_false] at m
  rcases m with e | e | e | e | e | e | e
  · exact nn_ne h.roa.sto.nod.lst n e
  · exact nd h.roa.sto.tld e
  · exact nn_ne h.roa.lst n e
  · exact nn_ne h.spo n e
  · exact nn_ne h.sta n e
  · exact nn_ne h.tok.lst n e
  · exact nn_ne h.tok.unl n e
/-- what stays through the deeds -/
structure LC where
  S : Str → Prop
  ds : List (Str × V)
  A : Ad
  lo : Addr
  wr : Addr
  nl : Addr
  sh : Addr
  wd : Addr
  ws : List Str
  nms : List Str
  wk : List (Key × V)
  a : Addr
  xs : List V
structure COk (C : LC) : Prop where
  SO : SOk C.S
  nd : C.ws.Nodup
  all : ∀ n, C.S n → n ∈ C.ws
  wl : C.ws.length < 60
  pos : 0 < C.nms.length
  le : C.nms.length ≤ 20
  nms : ∀ m ∈ C.nms, C.S m ∧ m ∈ C.ds.map (·.1)
  wk : ∀ (i : Nat) (n : Str), C.ws[i]? = some n → valV C.wk (.inr n) = some (.int i)
/-- what a deed finds of the others' things -/
structure LOth (K : PySem.W.Frag) (H : Hp) (C : LC) (ul b : Addr) (n : Nat) (shp : List (Str × V)) : Prop where
  B : BoxA H b n
  b1 : ¬ ML C.A ul b
  b2 : b ≠ C.A.df
  nl : H C.nl = some (.lst (C.nms.map V.str))
  nlM : ¬ ML C.A ul C.nl
  nlb : C.nl ≠ b
  sh : H C.sh = some (.dK (kvP shp))
  shN : (shp.map (·.1)).Nodup
  shM : ¬ MH C.A C.sh ∧ C.sh ≠ C.A.df
  shw : C.sh ≠ C.wr
  wd : H C.wd = some (.dK C.wk)
  wdM : ¬ MH C.A C.wd
  wds : C.wd ≠ C.sh
  scr : SC K H C.a C.xs fun x => (MH C.A x ∨ x = C.A.df) ∨ x = ul ∨ x = b
theorem LOth.k0 {H H1 : Hp} {C : LC} {ul b : Addr} {n : Nat} {shp : List (Str × V)} (h : LOth K H C ul b n shp) (k : KQ K M0 H H1) : LOth K H1 C ul b n shp :=
  ⟨h.B.kp k id, h.b1, h.b2, k.at_ h.nl, h.nlM, h.nlb, k.atD h.sh, h.shN, h.shM, h.shw, k.atD h.wd, h.wdM, h.wds, h.scr.kf (KF.of k) fun _ z => z.elim⟩
structure LInv (K : PySem.W.Frag) (H : Hp) (C : LC) (g : Gh) (k : Nat) (ul b : Addr) (n : Nat) (l : List Nat) (c p : Nat) (gp : SG) (shp : List (Str × V)) : Prop where
  X : LPre K H C.S C.ds C.A g k C.lo C.wr ul C.ws [] l c p gp
  O : LOth K H C ul b n shp
  v : ∀ m, val shp m = val gp.tr.ps m
theorem LPre.k0 {H H1 : Hp} {S : Str → Prop} {ds : List (Str × V)} {A : Ad} {g : Gh} {k : Nat} {lo wr ul : Addr} {ws : List Str} {us : List V} {l : List Nat} {c p : Nat} {gp : SG} (X : LPre K H S ds A g k lo wr ul ws us l c p gp) (kb : KQ K M0 H H1) : LPre K H1 S ds A g k lo wr ul ws us l c p gp := by
  obtain ⟨L, Hl, Ap, hs, hp, hg, B, hk, hSO, hnd, hall, hwl, hul, hT⟩ := X
  exact ⟨L.kp kb id id, Hl.k0 kb, Ap, hs, hp, hg, B, hk, hSO, hnd, hall, hwl, hul, kb.t hT⟩
section
variable {C : LC} {H H1 : Hp} {g : Gh} {k : Nat} {ul b : Addr} {n : Nat} {l : List Nat} {c p : Nat} {gp : SG} {shp : List (Str × V)}
theorem LInv.k0 (I : LInv K H C g k ul b n l c p gp shp) (kk : KQ K M0 H H1) : LInv K H1 C g k ul b n l c p gp shp := ⟨I.X.k0 kk, I.O.k0 kk, I.v⟩
theorem LInv.le {m : Nat} (I : LInv K H C g k ul b n l c p gp shp) (h : n ≤ m) : LInv K H C g k ul b m l c p gp shp :=
  ⟨I.X, ⟨I.O.B.le h, I.O.b1, I.O.b2, I.O.nl, I.O.nlM, I.O.nlb, I.O.sh, I.O.shN, I.O.shM, I.O.shw, I.O.wd, I.O.wdM, I.O.wds, I.O.scr⟩, I.v⟩
/-- behind a deed -/
structure LAft (K : PySem.W.Frag) (H : Hp) (C : LC) (g : Gh) (k : Nat) (ul b : Addr) (n : Nat) (l : List Nat) (c p : Nat) (gp : SG) (shp : List (Str × V)) (tA : RS.T) (rs : List Addr) (ns : List Str) : Prop where
  L : LookA K H C.A.hall C.lo C.wr ul C.ws (rs.map V.ref)
  Hl : HallA K H C.S C.ds C.A g
  Bd : Bud g k
  hs : g.sts = l ++ [c]
  hp : g.sps[c]? = some p
  hg : g.Gs[p]? = some gp
  srt : sortedS ns = true
  cn : ∀ m, cnt m ns = unl tA.ps gp.tr.ps m
  pr : Paired (NRow H C.ws c tA gp.tr) rs ns
  Ap : Apart C.A C.wr ul
  ta : tA.WF C.S 0 Root
  v : ∀ m, val shp m = val tA.ps m
  tabs : LamX.Tabs (TT K) H
  O : LOth K H C ul b n shp
theorem LInv.tried {E : XK} {Q : VK} (CO : COk C) (I : LInv K H C g k ul b n l c p gp shp) (hk : k < 499) (hn : n < 800000)
    (q : ∀ (H' : Hp) (done : Bool) (g' : Gh) (rs : List Addr) (ns : List Str) (l' : List Nat) (c' p' : Nat) (gp' : SG), LAft K H' C g' (k + 1) ul b (n + 60) l' c' p' gp' shp gp.tr rs ns → (done = false → rs = []) → Q (.bl done) H') : spTried K [.ref b, .ref C.A.hall, .ref C.lo, .ref C.nl] H Q E := by
  obtain ⟨X, O, hv⟩ := I
  refine ⟨C.S, C.ds, C.A, g, k, b, n, C.lo, C.wr, ul, C.nl, C.ws, l, c, p, gp, C.nms, rfl, X, O.B, hn, O.b1, O.b2, O.nl, O.nlb, CO.pos, CO.le, CO.nms, fun H' done g' rs ns l' c' p' gp' kF L Hl Bd hs hp hg srt cn pr BB hd => ?_⟩
  have dk : ∀ {x : Addr} {ys : List (Key × V)}, H x = some (.dK ys) → ¬ MH C.A x → ¬ ML2 C.A ul b x := fun {x ys} e m z => by
    rcases z with (z | z) | z
    · exact m z
    · rw [z, X.L.unt] at e; cases e
    · obtain ⟨_, _, _, y, _⟩ := O.B
      rw [z, y] at e; cases e
  refine q H' done g' rs ns l' c' p' gp' ⟨L, Hl, Bd, hs, hp, hg, srt, cn, pr, X.Ap, X.Hl.gok.wf p gp X.hg, hv, kF.t X.tabs, ?_⟩ hd
  exact ⟨BB, O.b1, O.b2, kF.lst O.nl (fun z => z.elim O.nlM O.nlb), O.nlM, O.nlb, kF.dK O.sh (dk O.sh O.shM.1), O.shN, O.shM, O.shw, kF.dK O.wd (dk O.wd O.wdM), O.wdM, O.wds, O.scr.kf kF fun x z => by
    rcases z with (z | z) | z
    · exact .inl (.inl z)
    · exact .inr (.inl z)
    · exact .inr (.inr z)⟩
/-- behind the asking for news: ul is new, the news stand at nw -/
structure LMid (K : PySem.W.Frag) (H : Hp) (C : LC) (g : Gh) (k : Nat) (ul b : Addr) (n : Nat) (l : List Nat) (c p : Nat) (gp : SG) (shp : List (Str × V)) (tA : RS.T) (rs : List Addr) (ns : List Str) (nw : Addr) : Prop where
  X : LPre K H C.S C.ds C.A g k C.lo C.wr ul C.ws [] l c p gp
  O : LOth K H C ul b n shp
  nw : H nw = some (.lst (rs.map V.ref))
  srt : sortedS ns = true
  cn : ∀ m, cnt m ns = unl tA.ps gp.tr.ps m
  pr : Paired (NRow H C.ws c tA gp.tr) rs ns
  ta : tA.WF C.S 0 Root
  v : ∀ m, val shp m = val tA.ps m
theorem LMid.k0 {tA : RS.T} {rs : List Addr} {ns : List Str} {nw : Addr} (I : LMid K H C g k ul b n l c p gp shp tA rs ns nw) (kk : KQ K M0 H H1) : LMid K H1 C g k ul b n l c p gp shp tA rs ns nw :=
  ⟨I.X.k0 kk, I.O.k0 kk, kk.at_ I.nw, I.srt, I.cn, NRow.kf (KF.of kk) I.pr, I.ta, I.v⟩
theorem LAft.news {E : XK} {Q : VK} {tA : RS.T} {rs : List Addr} {ns : List Str} (CO : COk C) (I : LAft K H C g k ul b n l c p gp shp tA rs ns) (hk : k < 500)
    (q : ∀ (H' : Hp) (u2 : Addr), LMid K H' C g k u2 b n l c p gp shp tA rs ns ul → Q (.ref ul) H') : spLNews K [.ref C.lo] H Q E := by
  obtain ⟨L, Hl, Bd, hs, hp, hg, srt, cn, pr, Ap, ta, hv, tabs, O⟩ := I
  refine ⟨C.S, C.ds, C.A, g, C.lo, C.wr, ul, C.ws, rs.map V.ref, rfl, L, Hl, fun H' u2 nu kF L' Hl' => ?_⟩
  obtain ⟨f1, f2⟩ := Hl.fresh (.of nu)
  have m0 : ∀ {x : Addr}, ¬ M0 x := id
  refine q H' u2 ⟨⟨L', Hl', ⟨Ap.w1, Ap.w2, f1⟩, hs, hp, hg, Bd, hk, CO.SO, CO.nd, CO.all, CO.wl, Nat.zero_le _, kF.t tabs⟩, ?_, kF.lst L.unt m0, srt, cn, NRow.kf kF pr, ta, hv⟩
  have bu : b ≠ u2 := O.B.ne nu
  refine ⟨O.B.kf kF m0, fun z => z.elim (fun y => O.b1 (.inl y)) bu, O.b2, kF.lst O.nl m0, fun z => z.elim (fun y => O.nlM (.inl y)) (ne_of_none O.nl nu), O.nlb, kF.dK O.sh m0, O.shN, O.shM, O.shw, kF.dK O.wd m0, O.wdM, O.wds, ?_⟩
  refine SC.kf (O.scr.wide fun x z => ?_) kF fun x z => z.elim
  rcases z with z | z | z
  · exact .inl (.inl z)
  · exact .inr (by rw [z]; exact .of nu)
  · exact .inl (.inr (.inr z))
theorem LMid.right {E : XK} {Q : VK} {tA : RS.T} {rs : List Addr} {ns : List Str} {nw : Addr} (CO : COk C) (I : LMid K H C g k ul b n l c p gp shp tA rs ns nw)
    (q : ∀ (H' : Hp) (shp' : List (Str × V)), LInv K H' C g k ul b n l c p gp shp' → Q (.bl true) H') : spNews K [.ref C.A.hall, .ref nw, .ref C.sh, .ref C.wd] H Q E := by
  obtain ⟨X, O, hnw, srt, cn, pr, ta, hv⟩ := I
  refine ⟨C.S, C.ds, C.A, g, l, c, tA, gp.tr, nw, C.sh, C.wd, rs, ns, C.ws, shp, C.wk, rfl, X.Hl, X.hs, CO.SO, ta, X.Hl.gok.wf p gp X.hg, hnw, pr, srt, cn, O.sh, O.shN, hv, O.wd, O.wds, CO.wk, O.shM, fun H' shp' kk hsh hnd hval => ?_⟩
  have ls : ∀ {x : Addr} {ys : List V}, H x = some (.lst ys) → ¬ Only C.sh x := fun {x ys} e z => by
    rw [show x = C.sh from z, O.sh] at e
    cases e
  have Hl' := X.Hl.kf (KF.of kk) fun x z e => by
    rw [show x = C.sh from z] at e
    exact e.elim O.shM.1 O.shM.2
  have L' := X.L.kp kk (fun z => O.shw (show C.wr = C.sh from z).symm) (ls X.L.unt)
  refine q H' shp' ⟨⟨L', Hl', X.Ap, X.hs, X.hp, X.hg, X.B, X.hk, X.SO, X.nd, X.all, X.wl, X.ul', kk.t X.tabs⟩, ⟨O.B.kp kk (by obtain ⟨_, _, _, z, _⟩ := O.B; exact ls z), O.b1, O.b2, kk.lst O.nl (ls O.nl), O.nlM, O.nlb, hsh, hnd, O.shM, O.shw, kk.dK O.wd O.wds, O.wdM, O.wds, ?_⟩, hval⟩
  rcases O.scr with ⟨e, m⟩ | ⟨o, e⟩ | e
  · exact .inl ⟨kk.lst e (ls e), m⟩
  · exact .inr (.inl ⟨o, kk.frz e⟩)
  · exact .inr (.inr e)
theorem LInv.shown {E : XK} {Q : VK} (CO : COk C) (I : LInv K H C g k ul b n l c p gp shp) (q : ∀ (H' : Hp), LInv K H' C g k ul b n l c p gp shp → Q (.bl true) H') : spShown K [.ref C.A.hall, .ref C.sh, .ref C.nl] H Q E := by
  have X := I.X
  have O := I.O
  exact ⟨C.S, C.ds, C.A, g, l, c, p, gp, C.sh, C.nl, shp, C.nms, rfl, X.Hl, X.hs, X.hp, X.hg, X.SO, X.tabs, O.sh, O.shN, I.v, O.nl, CO.nms, fun H' kk => q H' (I.k0 kk)⟩
/-- a new box -/
theorem LInv.box {b' : Addr} (I : LInv K H C g k ul b n l c p gp shp) (kk : KQ K M0 H H1) (nb : H b' = none) (B : BoxA H1 b' 0) : LInv K H1 C g k ul b' 0 l c p gp shp := by
  obtain ⟨f1, f2⟩ := I.X.Hl.fresh (.of nb)
  have O := I.O
  have bu : b' ≠ ul := fun e => by rw [e, I.X.L.unt] at nb; cases nb
  refine ⟨I.X.k0 kk, ⟨B, fun z => z.elim f1 bu, f2, kk.at_ O.nl, O.nlM, ne_of_none O.nl nb, kk.atD O.sh, O.shN, O.shM, O.shw, kk.atD O.wd, O.wdM, O.wds, SC.kf (O.scr.wide fun x z => ?_) (KF.of kk) fun x z => z.elim⟩, I.v⟩
  rcases z with z | z | z
  · exact .inl (.inl z)
  · exact .inl (.inr (.inl z))
  · exact .inr (by rw [z]; exact .of nb)
end
end RS

/-! text D35 -/
set_option Elab.async false
set_option linter.all false
set_option maxRecDepth 100000
set_option maxHeartbeats 1000000
/-! The law. -/
namespace RS
open PySem PySem.Spec PyProof.Rows L2
theorem sc_law : FnScope ["_law_script", "_law_box_here", "_law_settings_here", "_law_hall", "_law_name", "_law_default", "_law_k", "_law_eye", "_law_left", "_law_watchers", "_law_shown", "_law_names_here", "_law_cells", "_law_turn", "_law_done", "_law_news"] ["_law_script"] (defScope s_law) := ⟨rfl, rfl, rfl, by decide +kernel, rfl, by decide +kernel, by decide +kernel⟩
variable {P : Program} {w : World} {K : PySem.W.Frag} {mg : Str → Option Value} {base : Heap}
theorem not_mem_take {α : Type} {l : List α} {i : Nat} {x : α} (nd : l.Nodup) (h : l[i]? = some x) : x ∉ l.take i := fun m => by
  rw [← List.take_append_drop i l] at nd
  have y : x ∈ l.drop i := List.mem_of_getElem? (i := 0) (by rw [List.getElem?_drop]; exact h)
  exact (List.nodup_append.mp nd).2.2 x m x y rfl
theorem few_of {ds : List (Str × V)} (h : ds.length ≤ 20) : Few fun n => n ∈ ds.map (·.1) := fun ns nd hs => by
  have z := nodup_sub_le nd hs
  rw [List.length_map] at z
  omega
theorem BoxA.up2 {H : Hp} {b : Addr} {n : Nat} (B : BoxA H b n) : ∃ ys, H b = some (.lst ys) := let ⟨_, _, _, z, _⟩ := B; ⟨_, z⟩
theorem erase_perm {α : Type} : ∀ {l : List α} {j : Nat} {x : α}, l[j]? = some x → (x :: l.eraseIdx j).Perm l
  | [], j, x, h => by simp at h
  | y :: r, 0, x, h => by
    have e : y = x := by injection h
    subst e
    exact .refl _
  | y :: r, j + 1, x, h => (List.Perm.swap y x (r.eraseIdx j)).trans ((erase_perm (l := r) (j := j) h).cons y)
theorem map_erase {α β : Type} (f : α → β) : ∀ (l : List α) (j : Nat), (l.map f).eraseIdx j = (l.eraseIdx j).map f
  | [], _ => rfl
  | _ :: _, 0 => rfl
  | y :: r, j + 1 => congrArg (f y :: ·) (map_erase f r j)
theorem seq_at {n j : Nat} (h : j < n) : seqIndex? (j : Int) n = some j := (ixN_seq (by
  unfold ixN
  rw [if_pos (by omega), if_pos (by omega)]
  rfl)).1
theorem eqv_cons (x : PyData) (r : List PyData) : PyData.eqv (.list (x :: r)) (.list []) = false := by simp [PyData.eqv, PyData.eqvAll]
theorem wk_step {ws : List Str} {wk : List (Key × V)} {n : Str} (hw : ∀ (i : Nat) (n : Str), ws[i]? = some n → valV wk (.inr n) = some (.int i)) (hn : n ∉ ws) : ∀ (i : Nat) (m : Str), (ws ++ [n])[i]? = some m → valV (putK wk (.inr n) (.int (ws.length : Nat))) (.inr m) = some (.int i) := fun i m h => by
  rw [valV_put]
  by_cases e : i < ws.length
  · rw [List.getElem?_append_left e] at h
    rw [if_neg (fun z => hn (by injection z with z; rw [← z]; exact List.mem_of_getElem? h))]
    exact hw i m h
  · rw [List.getElem?_append_right (by omega)] at h
    have e2 : i - ws.length = 0 := by
      rcases Nat.eq_zero_or_pos (i - ws.length) with z | z
      · exact z
      · rw [List.getElem?_eq_none (by show 1 ≤ _; omega)] at h; cases h
    rw [e2] at h
    have e3 : n = m := by injection h
    rw [e3, if_pos rfl]
    have e4 : i = ws.length := by omega
    rw [e4]
theorem cells_of (L : Nat) : ∃ c : Nat, (if (if (30 : Int) < (L : Int) then (30 : Int) else (L : Int)) > 1 then (if (30 : Int) < (L : Int) then (30 : Int) else (L : Int)) else 1) = (c : Int) ∧ 1 ≤ c ∧ c ≤ 30 := by
  by_cases h : (30 : Int) < (L : Int)
  · rw [if_pos h]
    exact ⟨30, rfl, by decide, by decide⟩
  · rw [if_neg h]
    by_cases h2 : (L : Int) > 1
    · rw [if_pos h2]
      exact ⟨L, rfl, by omega, by omega⟩
    · rw [if_neg h2]
      exact ⟨1, rfl, by decide, by decide⟩
theorem turns_of {c : Nat} (h1 : 1 ≤ c) (h2 : c ≤ 30) : ∃ t : Nat, (if (24 : Int) / (c : Int) > 2 then (24 : Int) / (c : Int) else 2) = (t : Int) ∧ t ≤ 24 ∧ c * t ≤ 60 := by
  have z : ∀ c : Fin 31, 1 ≤ c.val → ((if (24 : Int) / (c.val : Int) > 2 then (24 : Int) / (c.val : Int) else 2) = ((if 24 / c.val > 2 then 24 / c.val else 2 : Nat) : Int)) ∧ (if 24 / c.val > 2 then 24 / c.val else 2) ≤ 24 ∧ c.val * (if 24 / c.val > 2 then 24 / c.val else 2) ≤ 60 := by decide
  exact ⟨_, z ⟨c, by omega⟩ h1⟩
theorem box_or {c : Bool} {tA tB : TE} {σ : L2.St} {H : Hp} {Q : VK} (R : Hp → Addr → Prop) (hA : c = true → ∀ Q' : VK, (∀ H2 b2, R H2 b2 → Q' (.ref b2) H2) → tA σ H Q') (hB : c = false → ∀ Q' : VK, (∀ H2 b2, R H2 b2 → Q' (.ref b2) H2) → tB σ H Q')
    (h : ∀ H2 b2, R H2 b2 → Q (.ref b2) H2) : if c = true then tA σ H Q else tB σ H Q := by
  cases c with
  | true => exact hA rfl Q h
  | false => exact hB rfl Q h
theorem nil_of {σ : L2.St} {H : Hp} {Q : List V → Hp → Prop} (h : Q [] H) : tNil σ H Q := h
def spLaw (K : PySem.W.Frag) : Sp := fun vs H Q _ => ∃ (a : Addr) (ns : List Int), vs = [.ref a] ∧ SqL K H a (ns.map V.int) ∧ ns.length ≤ 63 ∧ LamX.Tabs (TT K) H ∧ ∀ H', Q (.bl true) H'
theorem fnOk0 {k : Nat} {f : Addr} {sp : Sp} {x qual : Str} {st : Stmt} {N ps : List Str} {fd : FuncData} (F : FunD K x qual (defArgs st) (defBody st) (defScope st) [] [] f fd) (S : FnScope N ps (defScope st)) (len : ∀ vs H Q E, sp vs H Q E → vs.length = ps.length)
    (body : ∀ (cd : Value) (A : Around) (outer : List Env) (s : Shared) (H : Hp) (vs : List V) (Q : VK) (E : XK), Room k (A.deeper (envOfC qual (defScope st) s.heap.objs.size f cd)) → sp vs H Q E →
      ∃ t, PSs (cxOf CX0 P w K mg base N qual (defScope st) f cd A outer s H E).nox (defBody st) t ∧ t { nx := fun _ H' => Q .non H', rt := Q } (start N vs) H) : FnOk P w K mg base CX0 (k + 1) f fd ps sp := by
  refine F.ok S len fun cd A outer s H vs Q E hr h => ?_
  obtain ⟨t, h1, h2⟩ := body cd A outer s H vs Q E hr h
  exact ⟨t, h1.nox, h2⟩
theorem d_law_fn (T : Tx K mg base) {fd : FuncData} (F : FunD K "law" "law" (defArgs s_law) (defBody s_law) (defScope s_law) [] [] (gA K "law") fd) : FnOk P w K mg base CX0 18 (gA K "law") fd ["_law_script"] (spLaw K) := by
  have h_law_box := d_law_box_ok (P := P) (w := w) T
  have h_law_take := d_law_take_ok (P := P) (w := w) T
  have h_law_settings := d_law_settings_ok (P := P) (w := w) T
  have h_Hall_init := d_Hall_init_ok (P := P) (w := w) T
  have h_Hall_declare := d_Hall_declare_ok (P := P) (w := w) T
  have h_Hall_copy := d_Hall_copy_ok (P := P) (w := w) T
  have h_Lookout_init := d_Lookout_init_ok (P := P) (w := w) T
  have h_Lookout_watch := d_Lookout_watch_ok (P := P) (w := w) T
  have h_Lookout_news := d_Lookout_news_ok (P := P) (w := w) T
  have h_law_tried := d_law_tried_ok (P := P) (w := w) T
  have h_law_news_right := d_law_news_right_ok (P := P) (w := w) T
  have h_law_shown_right := d_law_shown_right_ok (P := P) (w := w) T
  refine fnOk0 F sc_law (fun vs H Q E ⟨_, _, h, _⟩ => by rw [h]; rfl) fun cd A0 outer s H vs Q E hr h => ?_
  obtain ⟨a, xs, rfl, hS, hxl, hT, q⟩ := h
  refine ⟨_, (pss_cons (ps_set (i := 1) sc_law.nd rfl (.inl rfl) (pe_c h_law_box (hr.mono (by decide)) T.g_law_box (pa_cons (pv 0) (pa_cons pe_int pa_nil))))
    (pss_cons (ps_par (i := 2) (j := 3) rfl sc_law.nd rfl rfl (by decide) rfl rfl (pa_cons (pe_c h_law_settings (hr.mono (by decide)) T.g_law_settings (pa_cons (pv 1) (pa_cons (pe_op op_add pe_int (pe_c h_law_take (hr.mono (by decide)) T.g_law_take (pa_cons (pv 1) (pa_cons pe_int pa_nil)))) pa_nil))) (pa_cons (pe_k0 h_Hall_init (hr.mono (by decide)) T.mk_Hall T.g_Hall) pa_nil)) rfl)
    (pss_cons (ps_for PassesOwn.never rfl (pi_list (pv 2)) (pg_tup rfl (pgs_cons (pg_name (i := 4) sc_law.nd rfl (.inl rfl)) (pgs_cons (pg_name (i := 5) sc_law.nd rfl (.inl rfl)) pgs_nil))) (pss_one (ps_expr (pe_m h_Hall_declare (hr.mono (by decide)) T.cl_Hall T.me_Hall_declare (pv 3) (pa_cons (pv 4) (pa_cons (pv 5) pa_nil))))))
    (pss_cons (ps_for PassesOwn.never rfl (pi_range1 rfl T.b_range (pa_cons (pe_c h_law_take (hr.mono (by decide)) T.g_law_take (pa_cons (pv 1) (pa_cons pe_int pa_nil))) pa_nil)) (pg_name (i := 6) sc_law.nd rfl (.inl rfl)) (pss_one (ps_expr (pe_m h_Hall_copy (hr.mono (by decide)) T.cl_Hall T.me_Hall_copy (pv 3) (pa_cons pe_int pa_nil)))))
    (pss_cons (ps_asg (pe_tup (pa_cons (pe_k h_Lookout_init (hr.mono (by decide)) T.mk_Lookout T.g_Lookout (pa_cons (pv 3) pa_nil)) (pa_cons (pe_lc rfl sc_law.nd (pi_list (pv 2)) (blkOk_by (own := [("_law_name", 4), ("_law_default", 5)]) (by kernel_rfl)) (fun _ _ _ _ _ => (pg_tupK K 2 rfl (pgs_cons (pg_name (i := 4) sc_law.nd rfl (.inl rfl) (.inr rfl)) (pgs_cons (pg_name (i := 5) sc_law.nd rfl (.inl rfl) (.inr rfl)) pgs_nil)))) (fun _ _ _ _ _ => pts_nil) (fun _ _ _ _ _ => (pv 4))) (pa_cons pe_dnewK (pa_cons pe_dnewK pa_nil))))) (pg_tup rfl (pgs_cons (pg_name (i := 7) sc_law.nd rfl (.inl rfl)) (pgs_cons (pg_name (i := 8) sc_law.nd rfl (.inl rfl)) (pgs_cons (pg_name (i := 9) sc_law.nd rfl (.inl rfl)) (pgs_cons (pg_name (i := 10) sc_law.nd rfl (.inl rfl)) pgs_nil))))))
    (pss_cons (ps_set (i := 11) sc_law.nd rfl (.inl rfl) (pe_callTy call_list_of rfl T.b_list (by decide +kernel) (pa_cons (pv 8) pa_nil)))
    (pss_cons (ps_while PassesOwn.never (pt_cmpR (op_neD hr.units) (pv 8) (pe_lst pa_nil) rfl) (pss_cons (ps_set (i := 4) sc_law.nd rfl (.inl rfl) (pe_bm PySem.F.plainAttrs_list PySem.F.slot_list_pop PySem.F.type_list_pop mt_popAt (pv 8) (pa_cons (pe_c h_law_take (hr.mono (by decide)) T.g_law_take (pa_cons (pv 1) (pa_cons (pe_callB call_len_seq rfl T.b_len boot_len (pa_cons (pv 8) pa_nil)) pa_nil))) pa_nil)))
    (pss_one (ps_dput (hu_of hr) (pv 9) (pv 4) (pe_m h_Lookout_watch (hr.mono (by decide)) T.cl_Lookout T.me_Lookout_watch (pv 7) (pa_cons (pv 4) pa_nil)) rfl))))
    (pss_cons (ps_set (i := 12) sc_law.nd rfl (.inl rfl) (pe_callB (call_max2 rfl) rfl T.b_max (by decide +kernel) (pa_cons pe_int (pa_cons (pe_callB (call_min2 rfl) rfl T.b_min (by decide +kernel) (pa_cons (pe_callB call_len_seq rfl T.b_len boot_len (pa_cons (pv 0) pa_nil)) (pa_cons pe_int pa_nil))) pa_nil))))
    (pss_cons (ps_for PassesOwn.never rfl (pi_range1 rfl T.b_range (pa_cons (pv 12) pa_nil)) (pg_name (i := 6) sc_law.nd rfl (.inl rfl)) (pss_cons (ps_set (i := 1) sc_law.nd rfl (.inl rfl) (pe_ifExp (pt_cmpR op_gt (pv 6) pe_int rfl) (pe_c h_law_box (hr.mono (by decide)) T.g_law_box (pa_cons (pv 0) (pa_cons (pv 6) pa_nil))) (pv 1)))
    (pss_cons (ps_for PassesOwn.never rfl (pi_range1 rfl T.b_range (pa_cons (pe_callB (call_max2 rfl) rfl T.b_max (by decide +kernel) (pa_cons pe_int (pa_cons (pe_op op_fdiv pe_int (pv 12)) pa_nil))) pa_nil)) (pg_name (i := 13) sc_law.nd rfl (.inl rfl)) (pss_cons (ps_par (i := 14) (j := 15) rfl sc_law.nd rfl rfl (by decide) rfl rfl (pa_cons (pe_c h_law_tried (hr.mono (by decide)) T.g_law_tried (pa_cons (pv 1) (pa_cons (pv 3) (pa_cons (pv 7) (pa_cons (pv 11) pa_nil))))) (pa_cons (pe_m0 h_Lookout_news (hr.mono (by decide)) T.cl_Lookout T.me_Lookout_news (pv 7)) pa_nil)) rfl)
    (pss_one (ps_if (PW.pt (pw_or (PW.pt (pw_and (pt_not (pt_val (pv 14))) (pw_and1 (pt_cmpR (op_neD hr.units) (pv 15) (pe_lst pa_nil) rfl)))) (pw_or1 (pt_not (pt_val (pe_c h_law_news_right (hr.mono (by decide)) T.g_law_news_right (pa_cons (pv 3) (pa_cons (pv 15) (pa_cons (pv 10) (pa_cons (pv 9) pa_nil)))))))))) (pss_one (ps_ret pe_bl)) pss_nil))))
    (pss_one (ps_if (pt_not (pt_val (pe_c h_law_shown_right (hr.mono (by decide)) T.g_law_shown_right (pa_cons (pv 3) (pa_cons (pv 10) (pa_cons (pv 11) pa_nil)))))) (pss_one (ps_ret pe_bl)) pss_nil)))))
    (pss_one (ps_ret pe_bl))))))))))), ?_⟩
  have sc0 := SC.of hS
  -- the box, the settings, the hall
  refine ⟨_, rfl, a, xs, 0, rfl, hS, fun H1 b k1 nb B1 => ?_⟩
  refine ⟨_, rfl, _, rfl, b, 0, 20, rfl, B1, by decide, by decide, by decide, fun H2 r hr2 k2 B2 => ⟨_, _, rfl, rfl, b, 1, 1 + r, congrArg (fun z => [V.ref b, V.int z]) (by omega), B2, by decide, by omega, fun H3 sl ts ds k3 nn3 hsl hpr hdn hdl hdg B3 => ?_⟩⟩
  refine fun x dx m1 m2 m3 => ⟨x, dx, rfl, upd_same, fun H4 A bs hAx hk HA => ?_⟩
  subst hAx
  refine ⟨rfl, _, _, rfl, ?_⟩
  obtain ⟨k34, nnA, nnM⟩ := hk H3 (Kp.refl.made m1 m2 m3) (.of m1)
  obtain ⟨S, hSd⟩ : ∃ S : Str → Prop, S = fun n => n ∈ ds.map (·.1) := ⟨_, rfl⟩
  have HS : SOk S := by
    rw [hSd]
    refine ⟨few_of (by omega), fun n m => ?_⟩
    obtain ⟨d, hd, rfl⟩ := List.mem_map.mp m
    exact (hdg d hd).1.1
  have k03 : KQ K (Only b) H H3 := (k1.m0.trans k2).trans k3
  obtain ⟨by3, hby3⟩ := B3.up2
  have slb : sl ≠ b := by
    obtain ⟨ys, hy⟩ := B2.up2
    exact nn_ne hy nn3
  have bM : ¬ MH A b := fun z => nn_ne hby3 (nnM b z) rfl
  have bdf : b ≠ A.df := fun e => nn_ne hby3 nnA e.symm
  have slM : ¬ MH A sl := fun z => nn_ne hsl (nnM sl z) rfl
  have sldf : sl ≠ A.df := fun e => nn_ne hsl nnA e.symm
  have sc3 : SC K H3 a (xs.map V.int) fun x => x = b := ((sc0.wide (N' := fun x => x = b) fun x z => .inr (by rw [z]; exact .of nb)).kf (KF.of k1) fun x z => z.elim).kf (KF.of (k2.trans k3)) fun x z => z
  have sc4 : SC K H4 a (xs.map V.int) fun x => (MH A x ∨ x = A.df) ∨ x = b := (sc3.wide fun x z => by
    rcases z with (z | z) | z
    · exact .inr (nnM x z)
    · exact .inr (by rw [z]; exact nnA)
    · exact .inl z).kf (KF.of k34) fun x z => z.elim
  have B4 := B3.kp k34 id
  have hsl4 := k34.at_ hsl
  have hpr4 := PrAt.kp k34 hpr
  have hT4 := (k03.trans k34.m0).t hT
  have htl : ts.length = ds.length := Paired.length hpr
  have hds20 : ds.length ≤ 20 := by omega
  clear hk nnA nnM hby3 sc3 sc0 k34 k03 B3 hsl hpr m1 m2 m3 nn3 k3 B2 k2 k1 nb B1 hS
  -- the settings are declared
  refine ⟨_, rfl, sl, rfl, ⟨_, sqL_at hsl4⟩, ?_⟩
  refine for_list (xs := ts.map V.ref) (fun i σ H' => ∃ (z4 z5 : Option V), σ = [some (.ref a), some (.ref b), some (.ref sl), some (.ref A.hall), z4, z5, none, none, none, none, none, none, none, none, none, none] ∧ KQ K (Only A.df) H4 H' ∧ HallA K H' S (ds.take i) A (g00 K bs))
    ⟨none, none, rfl, Kp.refl, HA S⟩ (fun i σ H' _ p => by obtain ⟨_, _, _, kp, _⟩ := p; exact sqL_at (kp.lst hsl4 sldf)) (fun i x σ H' hx p => ?_) fun σ H5 p => ?_
  · obtain ⟨z4, z5, rfl, kp, Hl⟩ := p
    rw [List.getElem?_map] at hx
    cases hi : ts[i]? with
    | none => rw [hi] at hx; cases hx
    | some t =>
      rw [hi] at hx
      cases hx
      obtain ⟨d, hd, ht⟩ := LiI.paired_get hpr4 hi
      obtain ⟨dh, hh⟩ := Hl.obj
      have hdi : (ds.map (·.1))[i]? = some d.1 := by rw [List.getElem?_map, hd]; rfl
      refine ⟨t, [.str d.1, d.2], rfl, sqT_at (kp.tup ht), rfl, _, _, rfl, _, _, rfl, rfl, ?_⟩
      refine ⟨_, rfl, A.hall, dh, _, rfl, hh, rfl, _, rfl, _, rfl, S, ds.take i, A, g00 K bs, d.1, d.2, rfl, Hl, by rw [List.map_take]; exact not_mem_take hdn hdi, by rw [List.length_take]; omega, fun H6 k6 Hl6 => ⟨_, _, rfl, kp.trans k6, ?_⟩⟩
      rw [List.take_add_one, hd]
      exact Hl6
  obtain ⟨z4, z5, rfl, k45, Hl5⟩ := p
  rw [List.length_map, htl, List.take_length] at Hl5
  have B5 := B4.kp k45 bdf
  have hsl5 := k45.lst hsl4 sldf
  have hpr5 := PrAt.kp k45 hpr4
  have sc5 := sc4.kf (KF.of k45) fun x z => .inl (.inr z)
  have hT5 := k45.t hT4
  clear k45 hpr4 hsl4 B4 sc4 hT4 HA
  -- the copies
  refine ⟨_, rfl, b, _, 6, rfl, B5, by decide, by decide, by decide, fun H6 m hm k6 B6 => ⟨m, rfl, by omega, by omega, ?_⟩⟩
  have Hl6 : HallA K H6 S ds A (g00 K bs) := Hl5.kf (KF.of k6) fun x z e => by
    rw [show x = b from z] at e
    exact e.elim bM bdf
  have hsl6 : H6 sl = some (.lst (ts.map V.ref)) := k6.lst hsl5 fun z => slb z
  have hpr6 := PrAt.kp k6 hpr5
  have sc6 := sc5.kf (KF.of k6) fun x z => .inr z
  have hT6 := k6.t hT5
  clear Hl5 hsl5 hpr5 sc5 hT5 B5 k6
  refine for_range (fun i σ H' => ∃ (z4 z5 z6 : Option V), σ = [some (.ref a), some (.ref b), some (.ref sl), some (.ref A.hall), z4, z5, z6, none, none, none, none, none, none, none, none, none] ∧ KQ K (MH A) H6 H' ∧ HallA K H' S ds A { g00 K bs with sps := List.replicate (i + 1) 0 })
    ⟨_, _, _, rfl, Kp.refl, Hl6⟩ (fun i σ H' hi p => ?_) fun σ H7 p => ?_
  · obtain ⟨z4, z5, z6, rfl, kp, Hl⟩ := p
    obtain ⟨dh, hh⟩ := Hl.obj
    refine ⟨_, rfl, A.hall, dh, _, rfl, hh, rfl, S, ds, A, _, 0, 0, rfl, Hl, rfl, by show (List.replicate (i + 1) 0).length < 1000; rw [List.length_replicate]; omega, fun H8 k8 Hl8 v => ⟨_, _, _, rfl, kp.trans k8, ?_⟩⟩
    rw [List.replicate_succ']
    exact Hl8
  obtain ⟨z4, z5, z6, rfl, k67, Hl7⟩ := p
  have B7 := B6.kp k67 bM
  have hsl7 := k67.lst hsl6 slM
  have hpr7 := PrAt.kp k67 hpr6
  have sc7 := sc6.kf (KF.of k67) fun x z => .inl (.inl z)
  have hT7 := k67.t hT6
  clear Hl6 hsl6 hpr6 sc6 hT6 B6 k67
  obtain ⟨g1, hg1⟩ : ∃ g1 : Gh, g1 = { g00 K bs with sps := List.replicate (m + 1) 0 } := ⟨_, rfl⟩
  have Hl7 : HallA K H7 S ds A g1 := by rw [hg1]; exact Hl7
  -- the lookout, the names left, the watchers, what is shown
  refine ⟨_, rfl, fun lo dx n1 n2 n3 => ⟨lo, dx, A.hall, rfl, upd_same, fun H8 wr ul hk LA => ⟨rfl, ?_⟩⟩⟩
  obtain ⟨k78, nnw, nnu⟩ := hk H7 (Kp.refl.made n1 n2 n3) (.of n1)
  have Hl8 := Hl7.k0 k78
  have B8 := B7.kp k78 id
  have hsl8 := k78.at_ hsl7
  have hpr8 := PrAt.kp k78 hpr7
  have hT8 := k78.t hT7
  have Ap : Apart A wr ul := ⟨(Hl7.fresh nnw).1, (Hl7.fresh nnw).2, (Hl7.fresh nnu).1⟩
  have bul : b ≠ ul := fun e => by
    obtain ⟨ys, hy⟩ := B7.up2
    exact nn_ne hy nnu e.symm
  have sc8 : SC K H8 a (xs.map V.int) fun x => ((MH A x ∨ x = A.df) ∨ x = b) ∨ (x = ul ∨ x = wr) := (sc7.wide fun x z => by
    rcases z with z | z | z
    · exact .inl z
    · exact .inr (by rw [z]; exact nnu)
    · exact .inr (by rw [z]; exact nnw)).kf (KF.of k78) fun x z => z.elim
  clear hk n1 n2 n3 nnw nnu k78 Hl7 B7 hsl7 hpr7 hT7 sc7
  refine ⟨_, rfl, sl, rfl, ⟨_, sqL_at hsl8⟩, fun D nD => ?_⟩
  refine lc_list (xs := ts.map V.ref) (fun i H' => KQ K M0 H8 H' ∧ H' D = some (.lst (((ds.map (·.1)).take i).map V.str))) ⟨Kp.refl.new nD, upd_same⟩ (fun i H' _ p => sqL_at (p.1.at_ hsl8)) (fun i x H' hx p => ?_) fun H9 p => ?_
  · obtain ⟨kp, hD⟩ := p
    rw [List.getElem?_map] at hx
    cases hi : ts[i]? with
    | none => rw [hi] at hx; cases hx
    | some t =>
      rw [hi] at hx
      cases hx
      obtain ⟨qd, hq, ht⟩ := LiI.paired_get hpr8 hi
      have hil : i < ds.length := by rw [← htl]; exact (List.getElem?_eq_some_iff.mp hi).1
      refine ⟨t, [.str qd.1, qd.2], rfl, sqT_at (kp.tup ht), rfl, _, _, rfl, _, _, rfl, rfl, rfl, ?_⟩
      refine ⟨_, rfl, _, hD, ?_, kp.mutL (.of nD) hD, ?_⟩
      · rw [List.length_map, List.length_take, List.length_map]
        exact sz_lt (by omega)
      · have e : (ds.map (·.1))[i]? = some qd.1 := by rw [List.getElem?_map, hq]; rfl
        rw [upd_same, List.take_add_one, e, List.map_append]
        rfl
  obtain ⟨k89, hD9⟩ := p
  obtain ⟨nms, hnms⟩ : ∃ nms : List Str, nms = ds.map (·.1) := ⟨_, rfl⟩
  have hnl : ts.length = (ds.map (·.1)).length := by rw [List.length_map]; exact htl
  rw [List.length_map, hnl, List.take_length, ← hnms] at hD9
  have hnd : nms.Nodup := by rw [hnms]; exact hdn
  have hnlen : nms.length = 1 + r := by rw [hnms, List.length_map]; exact hdl
  have Dby : D ≠ b := fun e => by
    obtain ⟨ys, hy⟩ := B8.up2
    rw [e, hy] at nD; cases nD
  have Dul : D ≠ ul := fun e => by rw [e, LA.unt] at nD; cases nD
  have Dfr := Hl8.fresh (.of nD)
  have Hl9 := Hl8.k0 k89
  have L9 := LA.kp k89 id id
  have B9 := B8.kp k89 id
  have hT9 := k89.t hT8
  have sc9 : SC K H9 a (xs.map V.int) fun x => (((MH A x ∨ x = A.df) ∨ x = b) ∨ (x = ul ∨ x = wr)) ∨ x = D := (sc8.wide fun x z => by
    rcases z with z | z
    · exact .inl z
    · exact .inr (by rw [z]; exact .of nD)).kf (KF.of k89) fun x z => z.elim
  clear k89 Hl8 LA B8 hT8 sc8 hsl8 hpr8 nD
  refine fun wd nwd sh nsh => ⟨sz4, fun t nt => ⟨t, [.ref lo, .ref D, .ref wd, .ref sh], rfl, sqT_new, rfl, _, _, rfl, _, _, rfl, _, _, rfl, _, _, rfl, rfl, ?_⟩⟩
  have wds : wd ≠ sh := ne_of_none upd_same nsh
  have wdt : wd ≠ t := ne_of_none (by rw [upd_ne wds]; exact upd_same) nt
  have sht : sh ≠ t := ne_of_none upd_same nt
  have k9 : KQ K M0 H9 (upd (upd (upd H9 wd (.dK [])) sh (.dK [])) t (.tup [.ref lo, .ref D, .ref wd, .ref sh])) := ((Kp.refl.new nwd).new nsh).new nt
  have hwd10 : upd (upd (upd H9 wd (.dK [])) sh (.dK [])) t (.tup [.ref lo, .ref D, .ref wd, .ref sh]) wd = some (.dK []) := by rw [upd_ne wdt, upd_ne wds]; exact upd_same
  have hsh10 : upd (upd (upd H9 wd (.dK [])) sh (.dK [])) t (.tup [.ref lo, .ref D, .ref wd, .ref sh]) sh = some (.dK []) := by rw [upd_ne sht]; exact upd_same
  have wdw : wd ≠ wr := (ne_of_none L9.row nwd).symm
  have shw : sh ≠ wr := (ne_of_none (by rw [upd_ne wdw.symm]; exact L9.row) nsh).symm
  have wdfr := Hl9.fresh (.of nwd)
  have shfr := (Hl9.k0 (Kp.refl.new nwd)).fresh (.of nsh)
  have sc9w : SC K H9 a (xs.map V.int) fun x => ((((MH A x ∨ x = A.df) ∨ x = b) ∨ (x = ul ∨ x = wr)) ∨ x = D) ∨ x = wd := sc9.wide fun x z => by
    rcases z with z | z
    · exact .inl z
    · exact .inr (by rw [z]; exact .of nwd)
  generalize upd (upd (upd H9 wd (.dK [])) sh (.dK [])) t (.tup [.ref lo, .ref D, .ref wd, .ref sh]) = H10 at k9 hwd10 hsh10 ⊢
  have Hl10 := Hl9.k0 k9
  have L10 := L9.kp k9 id id
  have B10 := B9.kp k9 id
  have hT10 := k9.t hT9
  have hD10 := k9.at_ hD9
  have sc10 := sc9w.kf (KF.of k9) fun x z => z.elim
  clear sc9 sc9w Hl9 L9 B9 hT9 hD9 k9 nt nsh nwd wdt sht
  refine ⟨_, rfl, D, _, rfl, .inl (sqL_at hD10), fun nl nnl => ?_⟩
  have k10 : KQ K M0 H10 (upd H10 nl (.lst (nms.map V.str))) := Kp.refl.new nnl
  have hnl11 : upd H10 nl (.lst (nms.map V.str)) nl = some (.lst (nms.map V.str)) := upd_same
  have nlfr := Hl10.fresh (.of nnl)
  have nlD : nl ≠ D := fun e => by rw [e, hD10] at nnl; cases nnl
  have nlb : nl ≠ b := (B10.ne nnl).symm
  have nlul : nl ≠ ul := fun e => by rw [e, L10.unt] at nnl; cases nnl
  generalize upd H10 nl (.lst (nms.map V.str)) = H11 at k10 hnl11 ⊢
  have Hl11 := Hl10.k0 k10
  have L11 := L10.kp k10 id id
  have B11 := B10.kp k10 id
  have hT11 := k10.t hT10
  have hD11 := k10.at_ hD10
  have hwd11 := k10.atD hwd10
  have hsh11 := k10.atD hsh10
  have sc11 := sc10.kf (KF.of k10) fun x z => z.elim
  clear sc10 Hl10 L10 B10 hT10 hD10 hwd10 hsh10 k10 nnl
  have wdul : wd ≠ ul := fun e => by rw [e, L11.unt] at hwd11; cases hwd11
  have wdD : wd ≠ D := fun e => by rw [e, hD11] at hwd11; cases hwd11
  have wrD : wr ≠ D := fun e => by have z := L11.row; rw [e, hD11] at z; cases z
  have wrb : wr ≠ b := fun e => by have z := L11.row; obtain ⟨ys, hy⟩ := B11.up2; rw [e, hy] at z; cases z
  have wdb : wd ≠ b := fun e => by obtain ⟨ys, hy⟩ := B11.up2; rw [e, hy] at hwd11; cases hwd11
  -- a watcher of each
  refine ⟨fun m σ H' => ∃ (z4 z5 z6 : Option V) (ws lf : List Str) (wk : List (Key × V)), σ = [some (.ref a), some (.ref b), some (.ref sl), some (.ref A.hall), z4, z5, z6, some (.ref lo), some (.ref D), some (.ref wd), some (.ref sh), some (.ref nl), none, none, none, none] ∧ KF K (fun x => x = b ∨ x = D ∨ x = wd ∨ x = wr) H11 H' ∧ LookA K H' A.hall lo wr ul ws [] ∧ HallA K H' S ds A g1 ∧ BoxA H' b (1200 + ws.length) ∧ H' D = some (.lst (lf.map V.str)) ∧ H' wd = some (.dK wk) ∧ (ws ++ lf).Perm nms ∧ (∀ (i : Nat) (n : Str), ws[i]? = some n → valV wk (.inr n) = some (.int i)) ∧ wk.length ≤ ws.length ∧ lf.length = m,
    ⟨nms.length, _, _, _, [], nms, [], rfl, ⟨fun _ _ h _ _ => h, id⟩, L11, Hl11, B11.le (by show 1 + 1100 + 1 ≤ 1200 + 0; omega), hD11, hwd11, .refl _, (fun i n h => by simp at h), Nat.le_refl _, rfl⟩, fun mm σ H' hW => ?_⟩
  obtain ⟨z4, z5, z6, ws, lf, wk, rfl, kF, L, Hl, B, hD, hwd, pm, hwk, hwkl, rfl⟩ := hW
  have pl := pm.length_eq
  rw [List.length_append] at pl
  have ndp : (ws ++ lf).Nodup := pm.nodup_iff.mpr hnd
  have gl : ∀ n ∈ lf, GoodN n := fun n m => HS.good n (by rw [hSd]; show n ∈ ds.map (·.1); rw [← hnms]; exact pm.mem_iff.mp (List.mem_append_right _ m))
  refine ⟨_, rfl, sz0, fun el nel => ?_⟩
  have kE : KQ K M0 H' (upd H' el (.lst [])) := Kp.refl.new nel
  have hDE := kE.at_ hD
  refine ⟨_, _, names_dp hDE, names_dp (ns := []) upd_same, names_shaped gl, names_shaped (fun _ m => nomatch m), ?_⟩
  cases lf with
  | nil =>
    refine ⟨false, rfl, ?_⟩
    rw [List.append_nil] at pm ndp
    have nlM7 : ¬ (nl = b ∨ nl = D ∨ nl = wd ∨ nl = wr) := fun z => by
      rcases z with z | z | z | z
      · exact nlb z
      · exact nlD z
      · rw [z, hwd11] at hnl11; cases hnl11
      · have y := L11.row
        rw [← z, hnl11] at y; cases y
    have shM7 : ¬ (sh = b ∨ sh = D ∨ sh = wd ∨ sh = wr) := fun z => by
      rcases z with z | z | z | z
      · obtain ⟨ys, hy⟩ := B11.up2
        rw [z, hy] at hsh11; cases hsh11
      · rw [z, hD11] at hsh11; cases hsh11
      · exact wds z.symm
      · exact shw z
    have aln : ∀ n, S n → n ∈ ws := fun n m => by
      rw [hSd] at m
      exact pm.mem_iff.mpr (by rw [hnms]; exact m)
    have I0 : LInv K H' ⟨S, ds, A, lo, wr, nl, sh, wd, ws, nms, wk, a, xs.map V.int⟩ g1 6 ul b (1200 + ws.length) [] 0 0 ⟨0, none, 0, .bare⟩ [] := by
      refine ⟨⟨L, Hl, Ap, by rw [hg1]; rfl, by rw [hg1]; rfl, by rw [hg1]; rfl, ?_, by decide, HS, ndp, aln, by show ws.length < 60; rw [List.length_nil] at pl; omega, Nat.zero_le _, kF.t hT11⟩, ⟨B, fun z => z.elim bM bul, bdf, kF.lst hnl11 nlM7, fun z => z.elim nlfr.1 nlul, nlb, kF.dK hsh11 shM7, List.nodup_nil, shfr, shw, hwd, wdfr.1, wds, ?_⟩, fun m => rfl⟩
      · rw [hg1]
        exact ⟨by show 1 ≤ 1 + 7 * 6; decide, by show 1 ≤ 1 + 6; decide, by show 1 ≤ 1 + 6; decide, by show 0 ≤ 6; decide, by show (List.replicate (m + 1) 0).length ≤ 1 + 6; rw [List.length_replicate]; omega, by show 1 ≤ 1 + 6; decide, by decide⟩
      · refine SC.wide (sc11.kf kF fun x z => ?_) fun x z => ?_
        · rcases z with z | z | z | z
          · exact .inl (.inl (.inl (.inr z)))
          · exact .inl (.inr z)
          · exact .inr z
          · exact .inl (.inl (.inr (.inr z)))
        · rcases z with z | z | z
          · exact .inl (.inl (.inl (.inl (.inl z))))
          · exact .inl (.inl (.inl (.inr (.inl z))))
          · exact .inl (.inl (.inl (.inl (.inr z))))
    have CO : COk ⟨S, ds, A, lo, wr, nl, sh, wd, ws, nms, wk, a, xs.map V.int⟩ := ⟨HS, ndp, aln, by show ws.length < 60; rw [List.length_nil] at pl; omega, by show 0 < nms.length; omega, by show nms.length ≤ 20; omega, fun n m => by
      have z : n ∈ ds.map (·.1) := by rw [← hnms]; exact m
      exact ⟨by rw [hSd]; exact z, z⟩, hwk⟩
    have I1 := (I0.k0 kE).le (show 1200 + ws.length ≤ 2000 by rw [List.length_nil] at pl; omega)
    generalize upd H' el (.lst []) = G at kE hDE I1 ⊢
    clear I0 aln nlM7 shM7
    have hsq : SqL K G a (xs.map V.int) := I1.O.scr.sq
    refine ⟨_, rfl, a, _, rfl, .inl hsq, _, _, rfl, _, _, rfl, ?_⟩
    obtain ⟨cells, hce, hc1, hc2⟩ := cells_of (xs.map V.int).length
    rw [hce]
    obtain ⟨tn, htn, ht1, ht2⟩ := turns_of hc1 hc2
    clear hce hsq pl pm ndp hwkl hwk hD hwd hDE kE kF L Hl B nel
    -- the cells
    refine ⟨_, rfl, cells, rfl, by omega, by omega, ?_⟩
    refine for_range (fun i σ H' => ∃ (z4 z5 z6 z13 z14 z15 : Option V) (b ul : Addr) (g : Gh) (k n : Nat) (l : List Nat) (c p : Nat) (gp : SG) (shp : List (Str × V)), σ = [some (.ref a), some (.ref b), some (.ref sl), some (.ref A.hall), z4, z5, z6, some (.ref lo), some (.ref D), some (.ref wd), some (.ref sh), some (.ref nl), some (.int cells), z13, z14, z15] ∧ LInv K H' ⟨S, ds, A, lo, wr, nl, sh, wd, ws, nms, wk, a, xs.map V.int⟩ g k ul b n l c p gp shp ∧ k ≤ 6 + i * tn ∧ (i = 0 → n ≤ 2000))
      ⟨z4, z5, z6, none, none, none, b, ul, g1, 6, 2000, [], 0, 0, _, [], rfl, I1, by omega, fun _ => Nat.le_refl _⟩ (fun i σ H' hi p => ?_) fun σ H' p => ?_
    · obtain ⟨z4, z5, z6, z13, z14, z15, b, ul, g, k, n, l, c, p, gp, shp, rfl, I, hk, hn⟩ := p
      have hi : i < cells := hi
      have hit : (i + 1) * tn ≤ 60 := Nat.le_trans (Nat.mul_le_mul_right tn hi) ht2
      rw [Nat.succ_mul] at hit
      refine ⟨_, rfl, _, _, rfl, rfl, _, rfl, ?_⟩
      refine box_or (fun H2 b2 => ∃ n2, n2 ≤ 2000 ∧ LInv K H2 ⟨S, ds, A, lo, wr, nl, sh, wd, ws, nms, wk, a, xs.map V.int⟩ g k ul b2 n2 l c p gp shp) (fun hc Q' hq => ?_) (fun hc Q' hq => ?_) fun H2 b2 hI2 => ?_
      · exact ⟨_, rfl, _, rfl, a, xs, i, congrArg (fun z => [V.ref a, V.int z]) (by omega), I.O.scr.sq, fun H2 b2 kk nb B => hq H2 b2 ⟨0, Nat.zero_le _, I.box kk nb B⟩⟩
      · have hz := of_decide_eq_false hc
        exact ⟨_, rfl, hq H' b ⟨n, hn (by omega), I⟩⟩
      obtain ⟨n2, hn2, I2⟩ := hI2
      clear I hn
      refine ⟨_, rfl, _, _, rfl, rfl, ⟨by omega, by omega⟩, _, _, rfl, tn, congrArg (fun z => [V.int z]) htn, by omega, by omega, ?_⟩
      refine for_range (fun j σ H' => ∃ (z4 z5 z6 z13 z14 z15 : Option V) (ul : Addr) (g : Gh) (k n : Nat) (l : List Nat) (c p : Nat) (gp : SG) (shp : List (Str × V)), σ = [some (.ref a), some (.ref b2), some (.ref sl), some (.ref A.hall), z4, z5, z6, some (.ref lo), some (.ref D), some (.ref wd), some (.ref sh), some (.ref nl), some (.int cells), z13, z14, z15] ∧ LInv K H' ⟨S, ds, A, lo, wr, nl, sh, wd, ws, nms, wk, a, xs.map V.int⟩ g k ul b2 n l c p gp shp ∧ k ≤ 6 + i * tn + j ∧ n ≤ 2000 + 60 * j)
        ⟨_, _, _, _, _, _, ul, g, k, n2, l, c, p, gp, shp, rfl, I2, by omega, by omega⟩ (fun j σ H' hj p => ?_) fun σ H' p => ?_
      · obtain ⟨z4, z5, z6, z13, z14, z15, ul, g, k, n, l, c, p, gp, shp, rfl, I, hk, hn⟩ := p
        have hj : j < tn := hj
        refine ⟨_, rfl, _, rfl, _, rfl, _, rfl, I.tried (E := E0) CO (by omega) (by omega) fun H3 done g3 rs ns l3 c3 p3 gp3 A3 hd => ?_⟩
        obtain ⟨dx, mm, ho⟩ := A3.L.obj
        refine ⟨_, rfl, lo, dx, _, rfl, ho, rfl, nil_of (A3.news (E := E0) CO (by omega) fun H4 u2 M4 => ⟨_, _, rfl, ?_⟩)⟩
        cases done with
        | true => exact ⟨_, rfl, true, rfl, _, rfl, _, rfl, _, rfl, _, rfl, nil_of (M4.right (E := E0) CO fun H5 shp5 I5 => ⟨true, rfl, _, _, _, _, _, _, u2, g3, k + 1, n + 60, l3, c3, p3, gp3, shp5, rfl, I5, by omega, by omega⟩)⟩
        | false =>
          have hrs : rs = [] := hd rfl
          have hnw : H4 ul = some (.lst (([] : List Str).map V.str)) := by have z := M4.nw; rw [hrs] at z; exact z
          refine ⟨_, rfl, false, rfl, _, rfl, sz0, fun e ne => ?_⟩
          have kE : KQ K M0 H4 (upd H4 e (.lst [])) := Kp.refl.new ne
          refine ⟨_, _, names_dp (kE.at_ hnw), names_dp (ns := []) upd_same, names_shaped (fun _ m => nomatch m), names_shaped (fun _ m => nomatch m), false, rfl, ?_⟩
          exact ⟨_, rfl, _, rfl, _, rfl, _, rfl, nil_of ((M4.k0 kE).right (E := E0) CO fun H5 shp5 I5 => ⟨true, rfl, _, _, _, _, _, _, u2, g3, k + 1, n + 60, l3, c3, p3, gp3, shp5, rfl, I5, by omega, by omega⟩)⟩
      · obtain ⟨z4, z5, z6, z13, z14, z15, ul, g, k, n, l, c, p, gp, shp, rfl, I, hk, hn⟩ := p
        exact ⟨_, rfl, _, rfl, _, rfl, nil_of (I.shown (E := E0) CO fun H6 I6 => ⟨true, rfl, _, _, _, _, _, _, b2, ul, g, k, n, l, c, p, gp, shp, rfl, I6, by rw [Nat.succ_mul]; omega, fun z => nomatch z⟩)⟩
    · exact q H'
  | cons n0 lf0 =>
    refine ⟨true, congrArg V.bl (by rw [List.map_cons]; exact congrArg (! ·) (eqv_cons _ _)), ?_⟩
    generalize hlf : n0 :: lf0 = lf at hD pm pl ndp gl hDE ⊢
    have lfp : 0 < lf.length := by rw [← hlf]; exact Nat.succ_pos _
    generalize upd H' el (.lst []) = G at kE hDE ⊢
    refine ⟨fun σ2 H2 => ∃ (z4 z5 z6 : Option V) (ws2 lf2 : List Str) (wk2 : List (Key × V)), σ2 = [some (.ref a), some (.ref b), some (.ref sl), some (.ref A.hall), z4, z5, z6, some (.ref lo), some (.ref D), some (.ref wd), some (.ref sh), some (.ref nl), none, none, none, none] ∧ KF K (fun x => x = b ∨ x = D ∨ x = wd ∨ x = wr) H11 H2 ∧ LookA K H2 A.hall lo wr ul ws2 [] ∧ HallA K H2 S ds A g1 ∧ BoxA H2 b (1200 + ws2.length) ∧ H2 D = some (.lst (lf2.map V.str)) ∧ H2 wd = some (.dK wk2) ∧ (ws2 ++ lf2).Perm nms ∧ (∀ (i : Nat) (n : Str), ws2[i]? = some n → valV wk2 (.inr n) = some (.int i)) ∧ wk2.length ≤ ws2.length ∧ lf2.length < lf.length,
      fun σ2 H2 ⟨z4, z5, z6, ws2, lf2, wk2, e1, e2, e3, e4, e5, e6, e7, e8, e9, e10, e11⟩ => ⟨lf2.length, e11, z4, z5, z6, ws2, lf2, wk2, e1, e2, e3, e4, e5, e6, e7, e8, e9, e10, rfl⟩, ?_⟩
    have BE := B.kp kE id
    have LE := L.kp kE id id
    have HlE := Hl.k0 kE
    refine ⟨_, rfl, tyl hDE, _, rfl, _, rfl, D, _, rfl, .inl (sqL_at hDE), b, _, (lf.map V.str).length, rfl, BE, by omega, by rw [List.length_map]; exact lfp, by rw [List.length_map]; omega, fun H12 j hj k12 B12 => ?_⟩
    rw [List.length_map] at hj
    have hD12 := k12.lst hDE (fun z => Dby z)
    refine ⟨D, _, j, j, .str lf[j], rfl, rfl, hD12, by omega, by omega, by rw [List.length_map]; exact seq_at hj, by rw [List.getElem?_map, List.getElem?_eq_getElem hj]; rfl, ?_⟩
    rw [map_erase]
    have kD : KQ K (fun x => x = D) H12 (upd H12 D (.lst ((lf.eraseIdx j).map V.str))) := Kp.refl.updL rfl hD12
    have hD13 : upd H12 D (.lst ((lf.eraseIdx j).map V.str)) D = some (.lst ((lf.eraseIdx j).map V.str)) := upd_same
    generalize upd H12 D (.lst ((lf.eraseIdx j).map V.str)) = H13 at kD hD13 ⊢
    have L12 := LE.kp k12 (fun z => wrb z) (fun z => bul (show ul = b from z).symm)
    have Hl12 := HlE.kf (KF.of k12) fun x z e => by
      rw [show x = b from z] at e
      exact e.elim bM bdf
    have L13 := L12.kp kD (fun z => wrD z) (fun z => Dul (show ul = D from z).symm)
    have Hl13 := Hl12.kf (KF.of kD) fun x z e => by
      rw [show x = D from z] at e
      exact e.elim Dfr.1 Dfr.2
    have B13 := B12.kp kD fun z => Dby (show b = D from z).symm
    have hwd13 : H13 wd = some (.dK wk) := kD.dK (k12.dK (kE.atD hwd) fun z => wdb z) fun z => wdD z
    obtain ⟨dx, mm, ho⟩ := L13.obj
    have ep := erase_perm (List.getElem?_eq_getElem hj)
    have epl := ep.length_eq
    rw [List.length_cons] at epl
    have hnlf : lf[j] ∈ lf := List.getElem_mem hj
    have hnws : lf[j] ∉ ws := fun m => (List.nodup_append.mp ndp).2.2 _ m _ hnlf rfl
    have hnds : lf[j] ∈ ds.map (·.1) := by rw [← hnms]; exact pm.mem_iff.mp (List.mem_append_right _ hnlf)
    have pm2 : ((ws ++ [lf[j]]) ++ lf.eraseIdx j).Perm nms := by
      rw [List.append_assoc]
      exact (List.Perm.append_left ws ep).trans pm
    generalize lf[j] = n at hnlf hnws hnds pm2 ep ⊢
    refine ⟨_, rfl, lo, dx, _, rfl, ho, rfl, _, rfl, S, ds, A, g1, lo, wr, ul, ws, [], n, rfl, L13, Hl13, Ap, hnds, by omega, by omega, fun H14 k14 L14 Hl14 => ?_⟩
    have wrf : ∀ {x : Addr}, x ≠ wr → ¬ Only wr x := fun h z => h z
    have hwd14 : H14 wd = some (.dK wk) := k14.dK hwd13 (wrf wdw)
    have hD14 := k14.lst hD13 (wrf wrD.symm)
    have B14 := B13.kf k14 (wrf wrb.symm)
    refine ⟨_, rfl, _, rfl, wd, _, rfl, DPut.k (k := .inr n) hwd14 (sz_lt (by omega)), ?_⟩
    have kW : KQ K (fun x => x = wd) H14 (upd H14 wd (.dK (putK wk (.inr n) (.int (ws.length : Nat))))) := Kp.refl.updD rfl hwd14
    have hwd15 : upd H14 wd (.dK (putK wk (.inr n) (.int (ws.length : Nat)))) wd = some (.dK (putK wk (.inr n) (.int (ws.length : Nat)))) := upd_same
    generalize upd H14 wd (.dK (putK wk (.inr n) (.int (ws.length : Nat)))) = H15 at kW hwd15 ⊢
    have kF2 : KF K (fun x => x = b ∨ x = D ∨ x = wd ∨ x = wr) H11 H15 := ((((kF.trans ((KF.of kE).mono fun x z => z.elim)).trans ((KF.of k12).mono fun x z => .inl z)).trans ((KF.of kD).mono fun x z => .inr (.inl z))).trans (k14.mono fun x z => .inr (.inr (.inr z)))).trans ((KF.of kW).mono fun x z => .inr (.inr (.inl z)))
    refine ⟨_, _, _, ws ++ [n], lf.eraseIdx j, _, rfl, kF2, L14.kp kW (fun z => wdw (show wr = wd from z).symm) (fun z => wdul (show ul = wd from z).symm), Hl14.kf (KF.of kW) (fun x z e => by
      rw [show x = wd from z] at e
      exact e.elim wdfr.1 wdfr.2), (B14.kp kW fun z => wdb (show b = wd from z).symm).le (by rw [List.length_append]; show 1200 + ws.length + 1 ≤ 1200 + (ws.length + 1); omega), kW.lst hD14 (fun z => wdD (show D = wd from z).symm), hwd15, pm2, wk_step hwk hnws, ?_, by omega⟩
    have := length_putK wk (.inr n) (.int (ws.length : Nat))
    rw [List.length_append]
    show _ ≤ ws.length + 1
    omega
end RS

/-! text D36 -/
set_option Elab.async false
set_option linter.all false
set_option maxRecDepth 100000
set_option maxHeartbeats 1000000
/-! The end. -/
namespace RS
open PySem PySem.Spec PyProof.Rows L2
theorem law_at {w : World} {K : PySem.W.Frag} {h : Heap} {mg : Str → Option Value} {f : Addr} (X : K.In h) (G : h.Ns mainGlobals mg) (hfa : mg ("law" : Str) = some (.ref f)) (c : He.SaysX fa fn [] tf exB w h K) :
    LamX.LawAtS PySem.Challenge.rw_roadsettings_k86_whole_news_put_together w K CX0 18 63 "_law_script" mg f h := by
  obtain ⟨fd, F⟩ := c.t.d.def_ 98 (d := d_law) rfl
  have e := hfa.symm.trans (He.glo_ok X G (c.t.d.fact 24 (f := .glo "law") rfl))
  cases e
  have b := FunD.bindsA (ps := ["_law_script"]) F fun _ _ _ _ _ _ us hl => match us, hl with | [_], _ => rfl
  have each : ∀ p ∈ tf.map (He.cT K), ∃ q ∈ tf, He.cT K q = p := fun p m => List.mem_map.mp m
  refine ⟨fd, tf.map (He.cT K), spLaw K, fun p m => ?_, fun p m => ?_, fun p m => ?_, fun s v => b s [v] rfl, fun H a ns hl _ hT hS => ⟨a, ns, rfl, hS, hl, fun p hp => ?_, fun _ => rfl⟩, fun base KX NX TB => d_law_fn ⟨c.t.d, c.more, ⟨h, X, G⟩, fun p m => TB _ (List.mem_map.mpr ⟨p, m, rfl⟩)⟩ F⟩
  · obtain ⟨q, hq, rfl⟩ := each p m
    exact c.empty q hq
  · obtain ⟨q, hq, rfl⟩ := each p m
    exact c.out q hq
  · obtain ⟨q, hq, rfl⟩ := each p m
    exact PySem.W.codeHd_of_K X (c.hd q hq)
  · rcases List.mem_cons.mp hp with rfl | hp
    · exact LamX.TabS.nil (hT _ (List.mem_map.mpr ⟨("pairs_with", none), by decide, rfl⟩))
    · rcases List.mem_cons.mp hp with rfl | hp
      · exact LamX.TabS.nil (hT _ (List.mem_map.mpr ⟨("Store", some "pairs"), by decide, rfl⟩))
      · cases hp
end RS
open PySem PySem.W PySem.Calls PyProof.Rows
set_option maxHeartbeats 0 in
theorem PySem.Challenge.cw_roadsettings_k86_whole_news_put_together_holds : PySem.Challenge.rw_roadsettings_k86_whole_news_put_together.Holds := by
  w_on; o_law
  refine HandSHeadRun.head_any (r := OpenLaw.row PySem.Challenge.rw_roadsettings_k86_whole_news_put_together) (q := view (OpenLaw.row PySem.Challenge.rw_roadsettings_k86_whole_news_put_together).prog [61]) (H := RS.hk) (ob := RS.ob) (M := 20000) (loose := RS.loose) (d := HandSHeadRun.topDef (OpenLaw.row PySem.Challenge.rw_roadsettings_k86_whole_news_put_together).prog 61) (kwd := []) RS.ob_eq
    (by kernel_rfl) (fun s => by kernel_rfl) RS.run (by kernel_rfl) (by kernel_rfl) (by kernel_rfl) (by rfl) (by first | assumption | decide +kernel) (by decide +kernel) ⟨rfl, rfl, rfl, rfl, rfl, by decide +kernel⟩ ?hw ?hc
  case hw => w_witness2
  case hc =>
    refine LamX.walk_ofTsE (l := PySem.Challenge.rw_roadsettings_k86_whole_news_put_together) (n := 63) (k := 18) (x := "_law_script") (CX := fun _ => L2.CX0) rfl (by decide) (by kernel_rfl) ⟨rfl, by decide, by decide⟩ ?F (fun _ _ _ _ _ z => z)
    intro w mg fa h Y G hmg0
    obtain ⟨K, KX, c⟩ := Y
    have hmg : mg ("law" : PySem.Str) = some (.ref fa) := by
      have e : (HandSHeadRun.topDef (OpenLaw.row PySem.Challenge.rw_roadsettings_k86_whole_news_put_together).prog 61).name = ("law" : PySem.Str) := by kernel_rfl
      rw [← e]
      exact hmg0
    exact ⟨K, KX, RS.law_at KX G hmg c⟩
