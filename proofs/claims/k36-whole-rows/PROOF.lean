import PyProof.Rows.All
import Wide.All
import OpenK.AllK
import Wide.FinOn
import HandS.ForMost
import HandS.ForExc
import HandS.Evl
import HandS.Flow
import HandS.Style
import HandS.Codes
import HandS.Defaults
import HandS.MakeKw
import HandS.CallLocal
import HandS.IsInst
import HandS.NoneIn
import HandS.OwnEq
import HandS.Deep
import HandS.DictTup
import HandS.TupAny
import HandS.TupSets
import HandS.SortInts
import HandS.SortKw
import HandS.SortRule
import HandS.Zip
import HandS.StrMore
import HandS.RaiseMore
import HandS.Wide
import HandS.WrittenGet
import HandS.ExcInit
import HandS.TryMany
import HandS.Nested
import HandS.HeadHook4
import HandS.HeadWalk
import HandS.Head2
import KE.SortData
import KE.KCallOwn
import HandS.Walk
import HandS.Conv
import KE.SortKeyHeap
import PyProof.TupleOfSeq
import HandS.Lambda
import HandS.ExcField
import HandS.EndTab
import KE.KDictPairs
import KE.GoesEnumKw
import HandS.Strs
import KE.DataMinMax
import KE.KExcInit
import PyProof.InstNe
import KE.KxText
import HandS.ExcIs
import PySem.Challenge.RW_whistleboard_k36_whole_rows_stay
set_option Elab.async false
set_option linter.all false
set_option maxRecDepth 100000
set_option maxHeartbeats 0
/-! text KBase -/
/-! the top's statements by place, what the walk knows of the top -/
namespace K36
open PySem L2
def topS (i : Nat) : Stmt := PySem.Challenge.pw_whistleboard_k36_whole_rows_stay.main.body.getD i (.Pass ⟨0, 0, 0, 0⟩)
def s_is_whole : Stmt := topS 4
def s_is_name : Stmt := topS 5
def s_is_one_of : Stmt := topS 6
def s_is_tuple_of : Stmt := topS 7
def s_NotDone_init : Stmt := inClass (topS 15) 0
def s_are_unlike : Stmt := topS 24
def s_is_engine : Stmt := topS 25
def s_are_engines : Stmt := topS 26
def s_is_kind : Stmt := topS 30
def s_is_place : Stmt := topS 38
def s_places_fault : Stmt := topS 39
def s_is_road : Stmt := topS 40
def s_roads_fault : Stmt := topS 41
def s_stations_fault : Stmt := topS 42
def s_need : Stmt := topS 43
def s_plain_roads : Stmt := topS 44
def s_Ground_init : Stmt := inClass (topS 46) 0
def s_Ground_eq : Stmt := inClass (topS 46) 1
def s_is_sort : Stmt := topS 50
def s_fault : Stmt := topS 51
def s_shown : Stmt := topS 55
def s_text_of : Stmt := topS 57
def s_Row_init : Stmt := inClass (topS 58) 0
def s_Row_five : Stmt := inClass (topS 58) 1
def s_Row_eq : Stmt := inClass (topS 58) 2
def s_Row_str : Stmt := inClass (topS 58) 3
def s_State_init : Stmt := inClass (topS 62) 0
def s_State_is_open : Stmt := inClass (topS 62) 1
def s_State_under : Stmt := inClass (topS 62) 2
def s_State_put : Stmt := inClass (topS 62) 3
def s_do_call : Stmt := topS 63
def s_do_again : Stmt := topS 64
def s_do_make : Stmt := topS 65
def s_do_stop : Stmt := topS 66
def s_do_send : Stmt := topS 67
def s_do_there : Stmt := topS 68
def s_do_back : Stmt := topS 69
def s_do_home : Stmt := topS 70
def s_do_off : Stmt := topS 71
def s_do_stand : Stmt := topS 72
def s_do_lend : Stmt := topS 73
def s_do_shut : Stmt := topS 74
def s_do_nothing : Stmt := topS 75
def s_done : Stmt := topS 77
def s_Room_init : Stmt := inClass (topS 78) 0
def s_Room_eq : Stmt := inClass (topS 78) 1
def s_Room_replay : Stmt := inClass (topS 78) 4
def s_Room_state : Stmt := inClass (topS 78) 5
def s_Room_look_minutes : Stmt := inClass (topS 78) 6
def s_Room_look_right : Stmt := inClass (topS 78) 7
def s_Room_write : Stmt := inClass (topS 78) 8
def s_Room_rows : Stmt := inClass (topS 78) 9
def s_Room_void : Stmt := inClass (topS 78) 10
def s_Room_engine : Stmt := inClass (topS 78) 11
def s_Room_calls : Stmt := inClass (topS 78) 13
def s_law_bag : Stmt := topS 80
def s_law_take : Stmt := topS 81
def s_law_names : Stmt := topS 82
def s_law_ground : Stmt := topS 83
def s_law_engines : Stmt := topS 84
def s_law_house : Stmt := topS 85
def s_law_deed : Stmt := topS 86
def s_law_kind : Stmt := topS 87
def s_law_calls_of : Stmt := topS 88
def s_law_next : Stmt := topS 89
def s_law_try : Stmt := topS 90
def s_law_is_book : Stmt := topS 91
def s_law_void_holds : Stmt := topS 92
def s_law : Stmt := topS 93
structure Tx (w : World) (K : PySem.W.Frag) (mg : Str → Option Value) : Prop where
  g_is_whole : mg "is_whole" = some (.ref (He.ga K "is_whole"))
  g_is_name : mg "is_name" = some (.ref (He.ga K "is_name"))
  g_is_one_of : mg "is_one_of" = some (.ref (He.ga K "is_one_of"))
  g_is_tuple_of : mg "is_tuple_of" = some (.ref (He.ga K "is_tuple_of"))
  g_are_unlike : mg "are_unlike" = some (.ref (He.ga K "are_unlike"))
  g_is_engine : mg "is_engine" = some (.ref (He.ga K "is_engine"))
  g_are_engines : mg "are_engines" = some (.ref (He.ga K "are_engines"))
  g_is_kind : mg "is_kind" = some (.ref (He.ga K "is_kind"))
  g_is_place : mg "is_place" = some (.ref (He.ga K "is_place"))
  g_places_fault : mg "places_fault" = some (.ref (He.ga K "places_fault"))
  g_is_road : mg "is_road" = some (.ref (He.ga K "is_road"))
  g_roads_fault : mg "roads_fault" = some (.ref (He.ga K "roads_fault"))
  g_stations_fault : mg "stations_fault" = some (.ref (He.ga K "stations_fault"))
  g_need : mg "need" = some (.ref (He.ga K "need"))
  g_plain_roads : mg "plain_roads" = some (.ref (He.ga K "plain_roads"))
  g_is_sort : mg "is_sort" = some (.ref (He.ga K "is_sort"))
  g_fault : mg "fault" = some (.ref (He.ga K "fault"))
  g_shown : mg "shown" = some (.ref (He.ga K "shown"))
  g_text_of : mg "text_of" = some (.ref (He.ga K "text_of"))
  g_do_call : mg "do_call" = some (.ref (He.ga K "do_call"))
  g_do_again : mg "do_again" = some (.ref (He.ga K "do_again"))
  g_do_make : mg "do_make" = some (.ref (He.ga K "do_make"))
  g_do_stop : mg "do_stop" = some (.ref (He.ga K "do_stop"))
  g_do_send : mg "do_send" = some (.ref (He.ga K "do_send"))
  g_do_there : mg "do_there" = some (.ref (He.ga K "do_there"))
  g_do_back : mg "do_back" = some (.ref (He.ga K "do_back"))
  g_do_home : mg "do_home" = some (.ref (He.ga K "do_home"))
  g_do_off : mg "do_off" = some (.ref (He.ga K "do_off"))
  g_do_stand : mg "do_stand" = some (.ref (He.ga K "do_stand"))
  g_do_lend : mg "do_lend" = some (.ref (He.ga K "do_lend"))
  g_do_shut : mg "do_shut" = some (.ref (He.ga K "do_shut"))
  g_do_nothing : mg "do_nothing" = some (.ref (He.ga K "do_nothing"))
  g_done : mg "done" = some (.ref (He.ga K "done"))
  g_law_bag : mg "_law_bag" = some (.ref (He.ga K "_law_bag"))
  g_law_take : mg "_law_take" = some (.ref (He.ga K "_law_take"))
  g_law_names : mg "_law_names" = some (.ref (He.ga K "_law_names"))
  g_law_ground : mg "_law_ground" = some (.ref (He.ga K "_law_ground"))
  g_law_engines : mg "_law_engines" = some (.ref (He.ga K "_law_engines"))
  g_law_house : mg "_law_house" = some (.ref (He.ga K "_law_house"))
  g_law_deed : mg "_law_deed" = some (.ref (He.ga K "_law_deed"))
  g_law_kind : mg "_law_kind" = some (.ref (He.ga K "_law_kind"))
  g_law_calls_of : mg "_law_calls_of" = some (.ref (He.ga K "_law_calls_of"))
  g_law_next : mg "_law_next" = some (.ref (He.ga K "_law_next"))
  g_law_try : mg "_law_try" = some (.ref (He.ga K "_law_try"))
  g_law_is_book : mg "_law_is_book" = some (.ref (He.ga K "_law_is_book"))
  g_law_void_holds : mg "_law_void_holds" = some (.ref (He.ga K "_law_void_holds"))
  g_law : mg "law" = some (.ref (He.ga K "law"))
  g_Ground : mg "Ground" = some (.ref (He.ga K "Ground"))
  g_Row : mg "Row" = some (.ref (He.ga K "Row"))
  g_State : mg "State" = some (.ref (He.ga K "State"))
  g_Room : mg "Room" = some (.ref (He.ga K "Room"))
  g_NotDone : mg "NotDone" = some (.ref (He.ga K "NotDone"))
  g_NoDeed : mg "NoDeed" = some (.ref (He.ga K "NoDeed"))
  g_BadTime : mg "BadTime" = some (.ref (He.ga K "BadTime"))
  g_NoRow : mg "NoRow" = some (.ref (He.ga K "NoRow"))
  g_TooMany : mg "TooMany" = some (.ref (He.ga K "TooMany"))
  g_NoEngine : mg "NoEngine" = some (.ref (He.ga K "NoEngine"))
  g_NoCall : mg "NoCall" = some (.ref (He.ga K "NoCall"))
  g_NoBook : mg "NoBook" = some (.ref (He.ga K "NoBook"))
  g_SORTS : mg "SORTS" = some (.ref (He.ga K "SORTS"))
  g_DUE : mg "DUE" = some (.ref (He.ga K "DUE"))
  g_FORMS : mg "FORMS" = some (.ref (He.ga K "FORMS"))
  g_DOING : mg "DOING" = some (.ref (He.ga K "DOING"))
  b_len : mg "len" = none
  b_isinstance : mg "isinstance" = none
  b_int : mg "int" = none
  b_bool : mg "bool" = none
  b_str : mg "str" = none
  b_tuple : mg "tuple" = none
  b_list : mg "list" = none
  b_all : mg "all" = none
  b_any : mg "any" = none
  b_range : mg "range" = none
  b_max : mg "max" = none
  b_min : mg "min" = none
  b_sorted : mg "sorted" = none
  b_abs : mg "abs" = none
  b_set : mg "set" = none
  b_dict : mg "dict" = none
  b_frozenset : mg "frozenset" = none
  b_enumerate : mg "enumerate" = none
  b_divmod : mg "divmod" = none
  b_KeyError : mg "KeyError" = none
  b_ValueError : mg "ValueError" = none
  b_IndexError : mg "IndexError" = none
  b_OverflowError : mg "OverflowError" = none
  b_RuntimeError : mg "RuntimeError" = none
  b_LookupError : mg "LookupError" = none
  k_MOST_LETTERS : ∃ u, mg "MOST_LETTERS" = some u ∧ RelV (.int 8) u
  k_MOST_ENGINES : ∃ u, mg "MOST_ENGINES" = some u ∧ RelV (.int 24) u
  k_MOST_SEATS : ∃ u, mg "MOST_SEATS" = some u ∧ RelV (.int 9) u
  k_MOST_PUMPS : ∃ u, mg "MOST_PUMPS" = some u ∧ RelV (.int 20) u
  k_MOST_PLACES : ∃ u, mg "MOST_PLACES" = some u ∧ RelV (.int 40) u
  k_MOST_ROADS : ∃ u, mg "MOST_ROADS" = some u ∧ RelV (.int 80) u
  k_MOST_STATIONS : ∃ u, mg "MOST_STATIONS" = some u ∧ RelV (.int 12) u
  k_MOST_RISK : ∃ u, mg "MOST_RISK" = some u ∧ RelV (.int 4) u
  k_MOST_MINUTES : ∃ u, mg "MOST_MINUTES" = some u ∧ RelV (.int 60) u
  k_MOST_CALLS : ∃ u, mg "MOST_CALLS" = some u ∧ RelV (.int 200) u
  k_DAY : ∃ u, mg "DAY" = some u ∧ RelV (.int 1440) u
  k_HOUR : ∃ u, mg "HOUR" = some u ∧ RelV (.int 60) u
  k_LAST_MINUTE : ∃ u, mg "LAST_MINUTE" = some u ∧ RelV (.int 9999) u
  k_MOST_ROWS : ∃ u, mg "MOST_ROWS" = some u ∧ RelV (.int 200) u
  k_LETTERS : ∃ u, mg "LETTERS" = some u ∧ RelV (.str "abcdefghijklmnopqrstuvwxyz") u
  c_Ground : Cls K (He.ga K "Ground")
  mk_Ground : Mk K (He.ga K "Ground") (He.ma K (He.ga K "Ground") "__init__")
  n_Ground_places : NoAttr K (He.ga K "Ground") "places"
  n_Ground_roads : NoAttr K (He.ga K "Ground") "roads"
  n_Ground_stations : NoAttr K (He.ga K "Ground") "stations"
  n_Ground_risks : NoAttr K (He.ga K "Ground") "risks"
  m_Ground_eq : Meth K (He.ga K "Ground") "__eq__" (He.ma K (He.ga K "Ground") "__eq__")
  c_Row : Cls K (He.ga K "Row")
  mk_Row : Mk K (He.ga K "Row") (He.ma K (He.ga K "Row") "__init__")
  n_Row_number : NoAttr K (He.ga K "Row") "number"
  n_Row_written : NoAttr K (He.ga K "Row") "written"
  n_Row_at : NoAttr K (He.ga K "Row") "at"
  n_Row_deed : NoAttr K (He.ga K "Row") "deed"
  n_Row_right : NoAttr K (He.ga K "Row") "right"
  m_Row_five : Meth K (He.ga K "Row") "five" (He.ma K (He.ga K "Row") "five")
  m_Row_eq : Meth K (He.ga K "Row") "__eq__" (He.ma K (He.ga K "Row") "__eq__")
  m_Row_str : Meth K (He.ga K "Row") "__str__" (He.ma K (He.ga K "Row") "__str__")
  c_State : Cls K (He.ga K "State")
  mk_State : Mk K (He.ga K "State") (He.ma K (He.ga K "State") "__init__")
  n_State_stands : NoAttr K (He.ga K "State") "stands"
  n_State_told : NoAttr K (He.ga K "State") "told"
  n_State_closed : NoAttr K (He.ga K "State") "closed"
  m_State_is_open : Meth K (He.ga K "State") "is_open" (He.ma K (He.ga K "State") "is_open")
  m_State_under : Meth K (He.ga K "State") "under" (He.ma K (He.ga K "State") "under")
  m_State_put : Meth K (He.ga K "State") "put" (He.ma K (He.ga K "State") "put")
  c_Room : Cls K (He.ga K "Room")
  mk_Room : Mk K (He.ga K "Room") (He.ma K (He.ga K "Room") "__init__")
  n_Room_ground : NoAttr K (He.ga K "Room") "ground"
  n_Room_engines : NoAttr K (He.ga K "Room") "engines"
  n_Room_kept : NoAttr K (He.ga K "Room") "kept"
  n_Room_first : NoAttr K (He.ga K "Room") "first"
  n_Room_dead : NoAttr K (He.ga K "Room") "dead"
  m_Room_eq : Meth K (He.ga K "Room") "__eq__" (He.ma K (He.ga K "Room") "__eq__")
  m_Room_replay : Meth K (He.ga K "Room") "replay" (He.ma K (He.ga K "Room") "replay")
  m_Room_state : Meth K (He.ga K "Room") "state" (He.ma K (He.ga K "Room") "state")
  m_Room_look_minutes : Meth K (He.ga K "Room") "look_minutes" (He.ma K (He.ga K "Room") "look_minutes")
  m_Room_look_right : Meth K (He.ga K "Room") "look_right" (He.ma K (He.ga K "Room") "look_right")
  m_Room_write : Meth K (He.ga K "Room") "write" (He.ma K (He.ga K "Room") "write")
  m_Room_rows : Meth K (He.ga K "Room") "rows" (He.ma K (He.ga K "Room") "rows")
  m_Room_void : Meth K (He.ga K "Room") "void" (He.ma K (He.ga K "Room") "void")
  m_Room_engine : Meth K (He.ga K "Room") "engine" (He.ma K (He.ga K "Room") "engine")
  m_Room_calls : Meth K (He.ga K "Room") "calls" (He.ma K (He.ga K "Room") "calls")
  x_NoDeed : PySem.W.exmOne K (.ref (He.ga K "NotDone")) (.ref (He.ga K "NoDeed")) = some false
  x_BadTime : PySem.W.exmOne K (.ref (He.ga K "NotDone")) (.ref (He.ga K "BadTime")) = some false
  x_NoRow : PySem.W.exmOne K (.ref (He.ga K "NotDone")) (.ref (He.ga K "NoRow")) = some false
  x_TooMany : PySem.W.exmOne K (.ref (He.ga K "NotDone")) (.ref (He.ga K "TooMany")) = some false
  x_NotDone : PySem.W.exmOne K (.ref (He.ga K "NotDone")) (.ref (He.ga K "NotDone")) = some true
  t_DUE : ∃ es n, KDict K w (He.ga K "DUE") es n
  t_FORMS : ∃ es n, KDict K w (He.ga K "FORMS") es n
  t_DOING : ∃ es n, KDict K w (He.ga K "DOING") es n
  F_is_whole : ∃ fd, FunD K "is_whole" "is_whole" (defArgs s_is_whole) (defBody s_is_whole) (defScope s_is_whole) [] [] (He.ga K "is_whole") fd
  F_is_name : ∃ fd, FunD K "is_name" "is_name" (defArgs s_is_name) (defBody s_is_name) (defScope s_is_name) [] [] (He.ga K "is_name") fd
  F_is_one_of : ∃ fd, FunD K "is_one_of" "is_one_of" (defArgs s_is_one_of) (defBody s_is_one_of) (defScope s_is_one_of) [] [] (He.ga K "is_one_of") fd
  F_is_tuple_of : ∃ fd, FunD K "is_tuple_of" "is_tuple_of" (defArgs s_is_tuple_of) (defBody s_is_tuple_of) (defScope s_is_tuple_of) [] [] (He.ga K "is_tuple_of") fd
  F_NotDone_init : ∃ fd, FunD K "__init__" "NotDone.__init__" (defArgs s_NotDone_init) (defBody s_NotDone_init) (defScope s_NotDone_init) [] [] (He.ma K (He.ga K "NotDone") "__init__") fd
  F_are_unlike : ∃ fd, FunD K "are_unlike" "are_unlike" (defArgs s_are_unlike) (defBody s_are_unlike) (defScope s_are_unlike) [] [] (He.ga K "are_unlike") fd
  F_is_engine : ∃ fd, FunD K "is_engine" "is_engine" (defArgs s_is_engine) (defBody s_is_engine) (defScope s_is_engine) [] [] (He.ga K "is_engine") fd
  F_are_engines : ∃ fd, FunD K "are_engines" "are_engines" (defArgs s_are_engines) (defBody s_are_engines) (defScope s_are_engines) [] [] (He.ga K "are_engines") fd
  F_is_kind : ∃ fd, FunD K "is_kind" "is_kind" (defArgs s_is_kind) (defBody s_is_kind) (defScope s_is_kind) [] [] (He.ga K "is_kind") fd
  F_is_place : ∃ fd, FunD K "is_place" "is_place" (defArgs s_is_place) (defBody s_is_place) (defScope s_is_place) [] [] (He.ga K "is_place") fd
  F_places_fault : ∃ fd, FunD K "places_fault" "places_fault" (defArgs s_places_fault) (defBody s_places_fault) (defScope s_places_fault) [] [] (He.ga K "places_fault") fd
  F_is_road : ∃ fd, FunD K "is_road" "is_road" (defArgs s_is_road) (defBody s_is_road) (defScope s_is_road) [] [] (He.ga K "is_road") fd
  F_roads_fault : ∃ fd, FunD K "roads_fault" "roads_fault" (defArgs s_roads_fault) (defBody s_roads_fault) (defScope s_roads_fault) [] [] (He.ga K "roads_fault") fd
  F_stations_fault : ∃ fd, FunD K "stations_fault" "stations_fault" (defArgs s_stations_fault) (defBody s_stations_fault) (defScope s_stations_fault) [] [] (He.ga K "stations_fault") fd
  F_need : ∃ fd, FunD K "need" "need" (defArgs s_need) (defBody s_need) (defScope s_need) [] [] (He.ga K "need") fd
  F_plain_roads : ∃ fd, FunD K "plain_roads" "plain_roads" (defArgs s_plain_roads) (defBody s_plain_roads) (defScope s_plain_roads) [] [] (He.ga K "plain_roads") fd
  F_Ground_init : ∃ fd, FunD K "__init__" "Ground.__init__" (defArgs s_Ground_init) (defBody s_Ground_init) (defScope s_Ground_init) [] [] (He.ma K (He.ga K "Ground") "__init__") fd
  F_Ground_eq : ∃ fd, FunD K "__eq__" "Ground.__eq__" (defArgs s_Ground_eq) (defBody s_Ground_eq) (defScope s_Ground_eq) [] [] (He.ma K (He.ga K "Ground") "__eq__") fd
  F_is_sort : ∃ fd, FunD K "is_sort" "is_sort" (defArgs s_is_sort) (defBody s_is_sort) (defScope s_is_sort) [] [] (He.ga K "is_sort") fd
  F_fault : ∃ fd, FunD K "fault" "fault" (defArgs s_fault) (defBody s_fault) (defScope s_fault) [] [] (He.ga K "fault") fd
  F_shown : ∃ fd, FunD K "shown" "shown" (defArgs s_shown) (defBody s_shown) (defScope s_shown) [] [] (He.ga K "shown") fd
  F_text_of : ∃ fd, FunD K "text_of" "text_of" (defArgs s_text_of) (defBody s_text_of) (defScope s_text_of) [] [] (He.ga K "text_of") fd
  F_Row_init : ∃ fd, FunD K "__init__" "Row.__init__" (defArgs s_Row_init) (defBody s_Row_init) (defScope s_Row_init) [.int 0] [] (He.ma K (He.ga K "Row") "__init__") fd
  F_Row_five : ∃ fd, FunD K "five" "Row.five" (defArgs s_Row_five) (defBody s_Row_five) (defScope s_Row_five) [] [] (He.ma K (He.ga K "Row") "five") fd
  F_Row_eq : ∃ fd, FunD K "__eq__" "Row.__eq__" (defArgs s_Row_eq) (defBody s_Row_eq) (defScope s_Row_eq) [] [] (He.ma K (He.ga K "Row") "__eq__") fd
  F_Row_str : ∃ fd, FunD K "__str__" "Row.__str__" (defArgs s_Row_str) (defBody s_Row_str) (defScope s_Row_str) [] [] (He.ma K (He.ga K "Row") "__str__") fd
  F_State_init : ∃ fd, FunD K "__init__" "State.__init__" (defArgs s_State_init) (defBody s_State_init) (defScope s_State_init) [] [] (He.ma K (He.ga K "State") "__init__") fd
  F_State_is_open : ∃ fd, FunD K "is_open" "State.is_open" (defArgs s_State_is_open) (defBody s_State_is_open) (defScope s_State_is_open) [] [] (He.ma K (He.ga K "State") "is_open") fd
  F_State_under : ∃ fd, FunD K "under" "State.under" (defArgs s_State_under) (defBody s_State_under) (defScope s_State_under) [] [] (He.ma K (He.ga K "State") "under") fd
  F_State_put : ∃ fd, FunD K "put" "State.put" (defArgs s_State_put) (defBody s_State_put) (defScope s_State_put) [.int 0] [] (He.ma K (He.ga K "State") "put") fd
  F_do_call : ∃ fd, FunD K "do_call" "do_call" (defArgs s_do_call) (defBody s_do_call) (defScope s_do_call) [] [] (He.ga K "do_call") fd
  F_do_again : ∃ fd, FunD K "do_again" "do_again" (defArgs s_do_again) (defBody s_do_again) (defScope s_do_again) [] [] (He.ga K "do_again") fd
  F_do_make : ∃ fd, FunD K "do_make" "do_make" (defArgs s_do_make) (defBody s_do_make) (defScope s_do_make) [] [] (He.ga K "do_make") fd
  F_do_stop : ∃ fd, FunD K "do_stop" "do_stop" (defArgs s_do_stop) (defBody s_do_stop) (defScope s_do_stop) [] [] (He.ga K "do_stop") fd
  F_do_send : ∃ fd, FunD K "do_send" "do_send" (defArgs s_do_send) (defBody s_do_send) (defScope s_do_send) [] [] (He.ga K "do_send") fd
  F_do_there : ∃ fd, FunD K "do_there" "do_there" (defArgs s_do_there) (defBody s_do_there) (defScope s_do_there) [] [] (He.ga K "do_there") fd
  F_do_back : ∃ fd, FunD K "do_back" "do_back" (defArgs s_do_back) (defBody s_do_back) (defScope s_do_back) [] [] (He.ga K "do_back") fd
  F_do_home : ∃ fd, FunD K "do_home" "do_home" (defArgs s_do_home) (defBody s_do_home) (defScope s_do_home) [] [] (He.ga K "do_home") fd
  F_do_off : ∃ fd, FunD K "do_off" "do_off" (defArgs s_do_off) (defBody s_do_off) (defScope s_do_off) [] [] (He.ga K "do_off") fd
  F_do_stand : ∃ fd, FunD K "do_stand" "do_stand" (defArgs s_do_stand) (defBody s_do_stand) (defScope s_do_stand) [] [] (He.ga K "do_stand") fd
  F_do_lend : ∃ fd, FunD K "do_lend" "do_lend" (defArgs s_do_lend) (defBody s_do_lend) (defScope s_do_lend) [] [] (He.ga K "do_lend") fd
  F_do_shut : ∃ fd, FunD K "do_shut" "do_shut" (defArgs s_do_shut) (defBody s_do_shut) (defScope s_do_shut) [] [] (He.ga K "do_shut") fd
  F_do_nothing : ∃ fd, FunD K "do_nothing" "do_nothing" (defArgs s_do_nothing) (defBody s_do_nothing) (defScope s_do_nothing) [] [] (He.ga K "do_nothing") fd
  F_done : ∃ fd, FunD K "done" "done" (defArgs s_done) (defBody s_done) (defScope s_done) [] [] (He.ga K "done") fd
  F_Room_init : ∃ fd, FunD K "__init__" "Room.__init__" (defArgs s_Room_init) (defBody s_Room_init) (defScope s_Room_init) [] [] (He.ma K (He.ga K "Room") "__init__") fd
  F_Room_eq : ∃ fd, FunD K "__eq__" "Room.__eq__" (defArgs s_Room_eq) (defBody s_Room_eq) (defScope s_Room_eq) [] [] (He.ma K (He.ga K "Room") "__eq__") fd
  F_Room_replay : ∃ fd, FunD K "replay" "Room.replay" (defArgs s_Room_replay) (defBody s_Room_replay) (defScope s_Room_replay) [.int 0] [] (He.ma K (He.ga K "Room") "replay") fd
  F_Room_state : ∃ fd, FunD K "state" "Room.state" (defArgs s_Room_state) (defBody s_Room_state) (defScope s_Room_state) [] [] (He.ma K (He.ga K "Room") "state") fd
  F_Room_look_minutes : ∃ fd, FunD K "look_minutes" "Room.look_minutes" (defArgs s_Room_look_minutes) (defBody s_Room_look_minutes) (defScope s_Room_look_minutes) [] [] (He.ma K (He.ga K "Room") "look_minutes") fd
  F_Room_look_right : ∃ fd, FunD K "look_right" "Room.look_right" (defArgs s_Room_look_right) (defBody s_Room_look_right) (defScope s_Room_look_right) [] [] (He.ma K (He.ga K "Room") "look_right") fd
  F_Room_write : ∃ fd, FunD K "write" "Room.write" (defArgs s_Room_write) (defBody s_Room_write) (defScope s_Room_write) [.int 0] [] (He.ma K (He.ga K "Room") "write") fd
  F_Room_rows : ∃ fd, FunD K "rows" "Room.rows" (defArgs s_Room_rows) (defBody s_Room_rows) (defScope s_Room_rows) [] [] (He.ma K (He.ga K "Room") "rows") fd
  F_Room_void : ∃ fd, FunD K "void" "Room.void" (defArgs s_Room_void) (defBody s_Room_void) (defScope s_Room_void) [] [] (He.ma K (He.ga K "Room") "void") fd
  F_Room_engine : ∃ fd, FunD K "engine" "Room.engine" (defArgs s_Room_engine) (defBody s_Room_engine) (defScope s_Room_engine) [.non] [] (He.ma K (He.ga K "Room") "engine") fd
  F_Room_calls : ∃ fd, FunD K "calls" "Room.calls" (defArgs s_Room_calls) (defBody s_Room_calls) (defScope s_Room_calls) [.non] [] (He.ma K (He.ga K "Room") "calls") fd
  F_law_bag : ∃ fd, FunD K "_law_bag" "_law_bag" (defArgs s_law_bag) (defBody s_law_bag) (defScope s_law_bag) [] [] (He.ga K "_law_bag") fd
  F_law_take : ∃ fd, FunD K "_law_take" "_law_take" (defArgs s_law_take) (defBody s_law_take) (defScope s_law_take) [] [] (He.ga K "_law_take") fd
  F_law_names : ∃ fd, FunD K "_law_names" "_law_names" (defArgs s_law_names) (defBody s_law_names) (defScope s_law_names) [] [] (He.ga K "_law_names") fd
  F_law_ground : ∃ fd, FunD K "_law_ground" "_law_ground" (defArgs s_law_ground) (defBody s_law_ground) (defScope s_law_ground) [] [] (He.ga K "_law_ground") fd
  F_law_engines : ∃ fd, FunD K "_law_engines" "_law_engines" (defArgs s_law_engines) (defBody s_law_engines) (defScope s_law_engines) [] [] (He.ga K "_law_engines") fd
  F_law_house : ∃ fd, FunD K "_law_house" "_law_house" (defArgs s_law_house) (defBody s_law_house) (defScope s_law_house) [] [] (He.ga K "_law_house") fd
  F_law_deed : ∃ fd, FunD K "_law_deed" "_law_deed" (defArgs s_law_deed) (defBody s_law_deed) (defScope s_law_deed) [] [] (He.ga K "_law_deed") fd
  F_law_kind : ∃ fd, FunD K "_law_kind" "_law_kind" (defArgs s_law_kind) (defBody s_law_kind) (defScope s_law_kind) [] [] (He.ga K "_law_kind") fd
  F_law_calls_of : ∃ fd, FunD K "_law_calls_of" "_law_calls_of" (defArgs s_law_calls_of) (defBody s_law_calls_of) (defScope s_law_calls_of) [] [] (He.ga K "_law_calls_of") fd
  F_law_next : ∃ fd, FunD K "_law_next" "_law_next" (defArgs s_law_next) (defBody s_law_next) (defScope s_law_next) [] [] (He.ga K "_law_next") fd
  F_law_try : ∃ fd, FunD K "_law_try" "_law_try" (defArgs s_law_try) (defBody s_law_try) (defScope s_law_try) [] [] (He.ga K "_law_try") fd
  F_law_is_book : ∃ fd, FunD K "_law_is_book" "_law_is_book" (defArgs s_law_is_book) (defBody s_law_is_book) (defScope s_law_is_book) [] [] (He.ga K "_law_is_book") fd
  F_law_void_holds : ∃ fd, FunD K "_law_void_holds" "_law_void_holds" (defArgs s_law_void_holds) (defBody s_law_void_holds) (defScope s_law_void_holds) [] [] (He.ga K "_law_void_holds") fd
  F_law : ∃ fd, FunD K "law" "law" (defArgs s_law) (defBody s_law) (defScope s_law) [] [] (He.ga K "law") fd
end K36
/-! text KLib -/
/-! what all the walks lean on: new objects, frames, a def's packing -/
namespace K36
open PySem PySem.Spec PyProof.Rows L2
theorem sz {n : Nat} (h : Nat.ble n 100000 = true) : n ≤ sizeLine := Nat.le_trans (Nat.le_of_ble_eq_true h) (by decide)
theorem szn {n : Nat} (h : n ≤ 100000) : n ≤ sizeLine := Nat.le_trans h (by decide)
theorem szl {n : Nat} (h : n < 100000) : n < sizeLine := Nat.lt_of_lt_of_le h (by decide)
/-- a new object -/
theorem new_ {H : Hp} {o : HO} {Q : V → Hp → Prop} (h : ∀ p H1, H p = none → Ext H H1 → H1 p = some o → (∀ a, a ≠ p → H1 a = H a) → Q (.ref p) H1) : ∀ p, H p = none → Q (.ref p) (upd H p o) :=
  fun p hp => h p _ hp (Ext.upd hp) upd_same fun _ n => upd_ne n
/-- the same, the heap named (hg by generalize) -/
theorem newF {H H1 : Hp} {p : Addr} {o : HO} (hp : H p = none) (hg : upd H p o = H1) : Ext H H1 ∧ H1 p = some o ∧ ∀ a, a ≠ p → H1 a = H a := by
  subst hg
  exact ⟨Ext.upd hp, upd_same, fun _ n => upd_ne n⟩
theorem Ext.free {H H' : Hp} (e : Ext H H') {p : Addr} (h : H' p = none) : H p = none := by
  cases q : H p with
  | none => rfl
  | some o => rw [e p o q] at h; cases h
theorem Ext.same {H H' : Hp} (e : Ext H H') : Same H H' := e
/-! ### the bag -/
def Bag (H : Hp) (b : Addr) : Prop := ∃ g r : Int, H b = some (.lst [.int g, .int r]) ∧ 0 ≤ g ∧ 0 ≤ r ∧ r < 2147483648
theorem Bag.ext {H H' : Hp} {b : Addr} (x : Bag H b) (e : Ext H H') : Bag H' b := let ⟨g, r, h, q⟩ := x; ⟨g, r, e _ _ h, q⟩
/-- all but what stands at b stays; at b a bag -/
structure BagEx (b : Addr) (H H' : Hp) : Prop where
  bag0 : Bag H b
  bag : Bag H' b
  keep : ∀ a o, a ≠ b → H a = some o → H' a = some o
theorem BagEx.rfl' {b : Addr} {H : Hp} (x : Bag H b) : BagEx b H H := ⟨x, x, fun _ _ _ h => h⟩
theorem BagEx.trans {b : Addr} {H H1 H2 : Hp} (x : BagEx b H H1) (y : BagEx b H1 H2) : BagEx b H H2 := ⟨x.bag0, y.bag, fun a o n h => y.keep a o n (x.keep a o n h)⟩
theorem BagEx.ext {b : Addr} {H H1 H2 : Hp} (x : BagEx b H H1) (e : Ext H1 H2) : BagEx b H H2 := ⟨x.bag0, x.bag.ext e, fun a o n h => e a o (x.keep a o n h)⟩
theorem BagEx.of {b : Addr} {H H1 : Hp} (x : Bag H b) (e : Ext H H1) : BagEx b H H1 := ⟨x, x.ext e, fun a o _ h => e a o h⟩
/-- what is no list stays -/
theorem BagEx.at {b a : Addr} {H H1 : Hp} {o : HO} (x : BagEx b H H1) (h : H a = some o) (hn : ∀ xs, o ≠ .lst xs) : H1 a = some o := by
  obtain ⟨g, r, hb, _⟩ := x.bag0
  exact x.keep a o (fun z => hn [.int g, .int r] (by rw [z, hb] at h; exact (Option.some.inj h).symm)) h
theorem BagEx.t {K : PySem.W.Frag} {b a : Addr} {H H1 : Hp} {xs : List V} (x : BagEx b H H1) (h : SqT K H a xs) : SqT K H1 a xs := by
  rcases h with (h | ⟨o, h⟩) | h
  · exact .inl (.inl (x.at h fun _ z => by cases z))
  · exact .inl (.inr ⟨o, x.at h fun _ z => by cases z⟩)
  · exact .inr h
theorem BagEx.l {K : PySem.W.Frag} {b a : Addr} {H H1 : Hp} {xs : List V} (x : BagEx b H H1) (h : SqL K H a xs) (n : a ≠ b) : SqL K H1 a xs := by
  rcases h with (h | ⟨o, h⟩) | h
  · exact .inl (.inl (x.keep _ _ n h))
  · exact .inl (.inr ⟨o, x.at h fun _ z => by cases z⟩)
  · exact .inr h
theorem BagEx.free {b p : Addr} {H H1 : Hp} (x : BagEx b H H1) (h : H1 p = none) : H p = none := by
  cases q : H p with
  | none => rfl
  | some o =>
    by_cases n : p = b
    · obtain ⟨g, r, hb, _⟩ := x.bag
      rw [n, hb] at h; cases h
    · rw [x.keep p o n q] at h; cases h
theorem BagEx.ne {b p : Addr} {H : Hp} (x : Bag H b) (h : H p = none) : p ≠ b := fun n => by
  obtain ⟨g, r, hb, _⟩ := x
  rw [n, hb] at h; cases h
/-! ### a def, a method, a class packed -/
section
variable {P : Program} {w : World} {K : PySem.W.Frag} {mg : Str → Option Value} {base : Heap}
theorem cal_mk {x : Str} {pa : Arguments} {bd : List Stmt} {sc : Scope} {f : Addr} {N ps : List Str} {k : Nat} {sp : Sp} (F : ∃ fd, FunD K x x pa bd sc [] [] f fd) (hm : mg x = some (.ref f)) (S : FnScope N ps sc)
    (hb : ∀ (kV doc pm : Value) (an : Option Addr) (cdv ct : Value) (us : List Value), us.length = ps.length → bindArgs (PySem.W.fnOf x x pa bd sc .none kV doc pm an cdv ct) ⟨us, []⟩ = pure (ps.zip us))
    (len : ∀ vs H Q E, sp vs H Q E → vs.length = ps.length)
    (hbody : ∀ (cdv : Value) (A : Around) (outer : List Env) (s : Shared) (H : Hp) (vs : List V) (Q : VK) (E : XK), Room k (A.deeper (envOfC x sc s.heap.objs.size f cdv)) → sp vs H Q E →
      ∃ t, PSs (cxOf C8.CX0 P w K mg base N x sc f cdv A outer s H E).nox bd t ∧ t { nx := fun _ H' => Q .non H', rt := Q } (start N vs) H) : C8.Cal P w K mg base (k + 1) x sp [] := by
  obtain ⟨fd, F⟩ := F
  refine ⟨f, fd, ps, [], F.ok S len fun cdv A outer s H vs Q E hr h => ?_, hm, F.kp, F.bindsN hb, .nil⟩
  obtain ⟨t, a, b⟩ := hbody cdv A outer s H vs Q E hr h
  exact ⟨t, a.nox, b⟩
theorem met_mk {C : Addr} {m qual : Str} {pa : Arguments} {bd : List Stmt} {sc : Scope} {f : Addr} {N ps : List Str} {k : Nat} {sp : Sp} (c : Cls K C) (me : Meth K C m f) (F : ∃ fd, FunD K m qual pa bd sc [] [] f fd) (S : FnScope N ps sc)
    (hb : ∀ (kV doc pm : Value) (an : Option Addr) (cdv ct : Value) (us : List Value), us.length = ps.length → bindArgs (PySem.W.fnOf m qual pa bd sc .none kV doc pm an cdv ct) ⟨us, []⟩ = pure (ps.zip us))
    (len : ∀ vs H Q E, sp vs H Q E → vs.length = ps.length)
    (hbody : ∀ (cdv : Value) (A : Around) (outer : List Env) (s : Shared) (H : Hp) (vs : List V) (Q : VK) (E : XK), Room k (A.deeper (envOfC qual sc s.heap.objs.size f cdv)) → sp vs H Q E →
      ∃ t, PSs (cxOf C8.CX0 P w K mg base N qual sc f cdv A outer s H E).nox bd t ∧ t { nx := fun _ H' => Q .non H', rt := Q } (start N vs) H) : C8.Met P w K mg base (k + 1) C m sp [] := by
  obtain ⟨fd, F⟩ := F
  refine ⟨f, fd, ps, [], c, me, F.ok S len fun cdv A outer s H vs Q E hr h => ?_, F.bindsN hb, .nil⟩
  obtain ⟨t, a, b⟩ := hbody cdv A outer s H vs Q E hr h
  exact ⟨t, a.nox, b⟩
theorem mak_mk {C : Addr} {x qual : Str} {pa : Arguments} {bd : List Stmt} {sc : Scope} {f : Addr} {N ps : List Str} {k : Nat} {sp : Sp} (M : Mk K C f) (hm : mg x = some (.ref C)) (F : ∃ fd, FunD K "__init__" qual pa bd sc [] [] f fd) (S : FnScope N ps sc)
    (hb : ∀ (kV doc pm : Value) (an : Option Addr) (cdv ct : Value) (us : List Value), us.length = ps.length → bindArgs (PySem.W.fnOf "__init__" qual pa bd sc .none kV doc pm an cdv ct) ⟨us, []⟩ = pure (ps.zip us))
    (len : ∀ vs H Q E, sp vs H Q E → vs.length = ps.length)
    (hbody : ∀ (cdv : Value) (A : Around) (outer : List Env) (s : Shared) (H : Hp) (vs : List V) (Q : VK) (E : XK), Room k (A.deeper (envOfC qual sc s.heap.objs.size f cdv)) → sp vs H Q E →
      ∃ t, PSs (cxOf C8.CX0 P w K mg base N qual sc f cdv A outer s H E).nox bd t ∧ t { nx := fun _ H' => Q .non H', rt := Q } (start N vs) H) : C8.Mak P w K mg base (k + 1) x C sp [] := by
  obtain ⟨fd, F⟩ := F
  refine ⟨f, fd, ps, [], M, F.ok S len fun cdv A outer s H vs Q E hr h => ?_, hm, F.bindsN hb, .nil⟩
  obtain ⟨t, a, b⟩ := hbody cdv A outer s H vs Q E hr h
  exact ⟨t, a.nox, b⟩
end
/-! ### a reading opened from the left -/
section
variable {te ta tb tc : TE} {g : TG} {t u : TS} {D : Ends} {σ : L2.St} {H : Hp} {Q : VK} {r : R2} {tr : TA} {rc : List V → Hp → VK → Prop}
theorem i_seq (h : t { D with nx := u D } σ H) : tSeq t u D σ H := h
theorem i_asg (h : te σ H fun x H1 => g x σ H1 D.nx) : tAsg te g D σ H := h
theorem i_ret (h : te σ H D.rt) : tRet te D σ H := h
theorem i_cb (h : tr σ H fun vs H1 => rc vs H1 Q) : tCB rc tr σ H Q := h
theorem i_cons {Q : List V → Hp → Prop} (h : ta σ H fun x H1 => tr σ H1 fun xs H2 => Q (x :: xs) H2) : tCons ta tr σ H Q := h
theorem i_op (h : ta σ H fun x H1 => tb σ H1 fun y H2 => r x y H2 Q) : tOp r ta tb σ H Q := h
end
/-! ### rules within a comprehension's block: the written part said -/
section
variable {X : Cx} (K : PySem.W.Frag)
theorem ix_tupK (h : X.K = K := by rfl) : IxR X (rIxT K) := by subst h; exact ix_tup
theorem ix_listK (h : X.K = K := by rfl) : IxR X (rIxL K) := by subst h; exact ix_list
theorem op_in_seqK (h : X.K = K := by rfl) : OpR X (compareOp .In) (rIn K false) := by subst h; exact op_in_seq
theorem op_notIn_seqK (h : X.K = K := by rfl) : OpR X (compareOp .NotIn) (rIn K true) := by subst h; exact op_notIn_seq
theorem sl_tupAK (h : X.K = K := by rfl) : SlR X (rSlA K) := by subst h; exact sl_tupA
theorem pe_fldK {e : Expr} {f : Str} {pos : Pos} {ta : TE} (he : PE X e ta) (hb : attributeBase e f X.env (eval e X.env) = eval e X.env) (h : X.K = K := by rfl) : PE X (.Attribute e f pos) (tFld K ta f) := by subst h; exact pe_fld he hb
theorem call_len_seqK (h : X.K = K := by rfl) : CallR X (.builtin "len") (fun xs H Q => ∃ p ys, xs = [.ref p] ∧ (SqL K H p ys ∨ SqT K H p ys) ∧ Q (.int ys.length) H) := by subst h; exact call_len_seq
end
end K36
/-! text KMath1 -/
/-! names: plain facts -/
namespace K36
open PySem L2 SX
abbrev ABC : Str := "abcdefghijklmnopqrstuvwxyz"
theorem abc_tl : ABC.cps.toList = (List.range 26).map (97 + ·) := by decide +kernel
theorem abc_at {d : Int} (h0 : 0 ≤ d) (h1 : d < 26) : atI ABC.cps.toList d = some (97 + d.toNat) := by
  obtain ⟨j, rfl⟩ := Int.eq_ofNat_of_zero_le h0
  refine atI_nat ?_
  rw [abc_tl, List.getElem?_map, List.getElem?_range (by omega)]
  rfl
theorem abc_mem {c : Nat} (h0 : 97 ≤ c) (h1 : c ≤ 122) : c ∈ ABC.cps.toList := by
  rw [abc_tl]
  exact List.mem_map.mpr ⟨c - 97, List.mem_range.mpr (by omega), by omega⟩
/-- a name: one to eight letters -/
def NameOk (x : Str) : Prop := 1 ≤ x.length ∧ x.length ≤ 8 ∧ ∀ c ∈ x.cps.toList, 97 ≤ c ∧ c ≤ 122
theorem joinL_ones : ∀ cs : List Nat, TL.joinL [] (cs.map fun c => [c]) = cs
  | [] => rfl
  | [_] => rfl
  | a :: b :: r => by
    show [a] ++ ([] ++ TL.joinL [] ((b :: r).map fun c => [c])) = _
    rw [joinL_ones (b :: r)]
    rfl
theorem join_ones (cs : List Nat) : Txt.join (S []) ((cs.map fun c => [c]).map S) = S cs := by rw [join_S, joinL_ones]
theorem str_ones (cs : List Nat) : (cs.map fun c => V.str (S [c])) = ((cs.map fun c => [c]).map S).map V.str := by
  rw [List.map_map, List.map_map]; rfl
theorem sum_ones (cs : List Nat) : (((cs.map fun c => [c]).map S).map (·.length)).sum = cs.length := by
  rw [lens]
  induction cs with
  | nil => rfl
  | cons a r ih =>
    simp only [List.map_cons, List.sum_cons, List.length_cons, List.length_nil]
    simp only [List.map_map] at ih ⊢
    omega
theorem empty_S : (Str.ofString "") = S [] := by decide +kernel
/-- the k-th name that is made: its last sign, its length tell k -/
def NmAt (k : Nat) (x : Str) : Prop := ∃ l : List Nat, x = S (l ++ [97 + k % 26]) ∧ (∀ c ∈ l, 97 ≤ c ∧ c ≤ 122) ∧ (k ≤ 25 → l.length ≤ 6) ∧ (25 < k → l.length = 7)
def Nms (nm : List Str) : Prop := ∀ (j : Nat) x, nm[j]? = some x → NmAt j x
theorem NmAt.name {k : Nat} {x : Str} (h : NmAt k x) : NameOk x := by
  obtain ⟨l, rfl, hl, h1, h2⟩ := h
  refine ⟨by rw [S_len]; simp, ?_, fun c hc => ?_⟩
  · rw [S_len, List.length_append]
    show l.length + 1 ≤ 8
    by_cases q : k ≤ 25
    · have := h1 q; omega
    · have := h2 (by omega); omega
  · rcases List.mem_append.mp (show c ∈ l ++ [97 + k % 26] from hc) with q | q
    · exact hl c q
    · rw [List.mem_singleton.mp q]; omega
theorem NmAt.inj {i j : Nat} {x : Str} (hi : i < 52) (hj : j < 52) (h : NmAt i x) (h' : NmAt j x) : i = j := by
  obtain ⟨l, e, _, a1, a2⟩ := h
  obtain ⟨m, e', _, b1, b2⟩ := h'
  have q := S_inj (e.symm.trans e')
  have q1 : l.length = m.length := by have := congrArg List.length q; simpa using this
  obtain ⟨_, q2⟩ := List.append_inj q q1
  have q3 : 97 + i % 26 = 97 + j % 26 := by simpa using q2
  by_cases c1 : i ≤ 25 <;> by_cases c2 : j ≤ 25
  · omega
  · have := a1 c1; have := b2 (by omega); omega
  · have := a2 (by omega); have := b1 c2; omega
  · omega
theorem Nms.nil : Nms [] := fun j x h => by simp at h
theorem Nms.snoc {nm : List Str} {x : Str} (h : Nms nm) (hx : NmAt nm.length x) : Nms (nm ++ [x]) := fun j y hy => by
  by_cases c : j < nm.length
  · rw [List.getElem?_append_left c] at hy
    exact h j y hy
  · rw [List.getElem?_append_right (by omega)] at hy
    have : j - nm.length = 0 := by
      cases q : j - nm.length with
      | zero => rfl
      | succ n => rw [q] at hy; simp at hy
    rw [this] at hy
    have e : x = y := by simpa using hy
    rw [← e, show j = nm.length by omega]
    exact hx
theorem Nms.nodup {nm : List Str} (h : Nms nm) (hl : nm.length < 52) : nm.Nodup := by
  rw [List.nodup_iff_pairwise_ne, List.pairwise_iff_getElem]
  intro i j hi hj hij e
  have a := h i _ (List.getElem?_eq_getElem hi)
  have b := h j _ (List.getElem?_eq_getElem hj)
  rw [e] at a
  have := NmAt.inj (by omega) (by omega) a b
  omega
theorem Nms.name {nm : List Str} (h : Nms nm) {x : Str} (hx : x ∈ nm) : NameOk x := by
  obtain ⟨j, hj⟩ := List.mem_iff_getElem?.mp hx
  exact (h j x hj).name
end K36
/-! text KLib2 -/
/-! tuples stay; lists of tuples; data -/
namespace K36
open PySem PySem.Spec PyProof.Rows L2 SX
/-- tuples stay -/
def TM (K : PySem.W.Frag) (H H' : Hp) : Prop := ∀ a xs, SqT K H a xs → SqT K H' a xs
theorem TM.refl {K : PySem.W.Frag} {H : Hp} : TM K H H := fun _ _ h => h
theorem TM.trans {K : PySem.W.Frag} {H H1 H2 : Hp} (x : TM K H H1) (y : TM K H1 H2) : TM K H H2 := fun a xs h => y a xs (x a xs h)
theorem tmE {K : PySem.W.Frag} {H H' : Hp} (e : Ext H H') : TM K H H' := fun _ _ h => SqT.ext h e
theorem BagEx.tm {K : PySem.W.Frag} {b : Addr} {H H' : Hp} (x : BagEx b H H') : TM K H H' := fun _ _ h => x.t h
/-- a list or dict or instance is written: tuples stay -/
theorem tm_upd {K : PySem.W.Frag} {H : Hp} {a : Addr} {o u : HO} (h : H a = some o) (h1 : ∀ xs, o ≠ .tup xs) (h2 : ∀ ob xs, o ≠ .frz ob xs) : TM K H (upd H a u) := fun c xs q => by
  have key : ∀ {v : HO}, H c = some v → ((∃ xs, v = .tup xs) ∨ ∃ ob xs, v = .frz ob xs) → upd H a u c = some v := fun {v} e d => by
    refine (upd_ne fun z => ?_).trans e
    rw [z, h] at e
    rcases d with ⟨ys, d⟩ | ⟨ob, ys, d⟩
    · exact h1 ys ((Option.some.inj e).trans d)
    · exact h2 ob ys ((Option.some.inj e).trans d)
  rcases q with (q | ⟨ob, q⟩) | q
  · exact .inl (.inl (key q (.inl ⟨_, rfl⟩)))
  · exact .inl (.inr ⟨ob, key q (.inr ⟨_, _, rfl⟩)⟩)
  · exact .inr q
theorem tm_updL {K : PySem.W.Frag} {H : Hp} {a : Addr} {xs : List V} {u : HO} (h : H a = some (.lst xs)) : TM K H (upd H a u) := tm_upd h (fun _ z => by cases z) (fun _ _ z => by cases z)
theorem tm_updD {K : PySem.W.Frag} {H : Hp} {a : Addr} {xs : List (Key × V)} {u : HO} (h : H a = some (.dK xs)) : TM K H (upd H a u) := tm_upd h (fun _ z => by cases z) (fun _ _ z => by cases z)
theorem tm_updT {K : PySem.W.Frag} {H : Hp} {a : Addr} {xs : List (List Key × V)} {u : HO} (h : H a = some (.dT xs)) : TM K H (upd H a u) := tm_upd h (fun _ z => by cases z) (fun _ _ z => by cases z)
theorem tm_updI {K : PySem.W.Frag} {H : Hp} {a C dx : Addr} {fs : List (Str × V)} {u : HO} (h : H a = some (.ins C dx fs)) : TM K H (upd H a u) := tm_upd h (fun _ z => by cases z) (fun _ _ z => by cases z)
/-- a list made behind H is written -/
theorem BagEx.upd {b l : Addr} {H H' : Hp} {o : HO} (x : BagEx b H H') (hl : H l = none) (n : l ≠ b) : BagEx b H (L2.upd H' l o) :=
  ⟨x.bag0, let ⟨g, r, h, q⟩ := x.bag; ⟨g, r, (upd_ne n.symm).trans h, q⟩, fun a u m e => (upd_ne (ne_of_none e hl)).trans (x.keep a u m e)⟩
theorem updE {H H' : Hp} {l : Addr} {o : HO} (x : Ext H H') (hl : H l = none) : Ext H (L2.upd H' l o) := fun a u e => (upd_ne (ne_of_none e hl)).trans (x a u e)
/-- the tuples at ts hold the rows -/
def Rows (K : PySem.W.Frag) (H : Hp) (ts : List Addr) (rows : List (List V)) : Prop := Paired (fun t r => SqT K H t r) ts rows
theorem Rows.tm {K : PySem.W.Frag} {H H' : Hp} {ts : List Addr} {rows : List (List V)} (x : Rows K H ts rows) (t : TM K H H') : Rows K H' ts rows := Paired.mapP x fun a r h => t a r h
theorem Paired.at {α β : Type} {F : α → β → Prop} : ∀ {l : List α} {m : List β} {i : Nat} {b : β}, Paired F l m → m[i]? = some b → ∃ a, l[i]? = some a ∧ F a b
  | _, _, _, _, .nil, h => by simp at h
  | _, _, 0, _, .cons f _, h => by simp at h; subst h; exact ⟨_, rfl, f⟩
  | _, _, i + 1, b, .cons _ r, h => by
    obtain ⟨a, h1, h2⟩ := Paired.at (i := i) (b := b) r (by simpa using h)
    exact ⟨a, by simpa using h1, h2⟩
theorem Paired.at' {α β : Type} {F : α → β → Prop} : ∀ {l : List α} {m : List β} {i : Nat} {a : α}, Paired F l m → l[i]? = some a → ∃ b, m[i]? = some b ∧ F a b
  | _, _, _, _, .nil, h => by simp at h
  | _, _, 0, _, .cons f _, h => by simp at h; subst h; exact ⟨_, rfl, f⟩
  | _, _, i + 1, a, .cons _ r, h => by
    obtain ⟨b, h1, h2⟩ := Paired.at' (i := i) (a := a) r (by simpa using h)
    exact ⟨b, by simpa using h1, h2⟩
/-! ### data -/
def dV : V → PyData
  | .int i => .int i
  | .str x => .str x
  | .bl b => .bool b
  | _ => .none
/-- an int or a text (of true signs) -/
def isV : V → Bool
  | .int _ => true
  | .str x => PyData.strOk x
  | _ => false
theorem dp_v {K : PySem.W.Frag} {H : Hp} : ∀ {v : V}, isV v = true → Dp K H v (dV v)
  | .int i, _ => .int i
  | .str x, _ => .str x
  | .non, h | .bl _, h | .byt _, h | .flt _, h | .ref _, h | .ty _, h => by cases h
theorem dpAll_v {K : PySem.W.Frag} {H : Hp} : ∀ {r : List V}, r.all isV = true → DpAll K H r (r.map dV)
  | [], _ => .nil
  | v :: r, h => by
    rw [List.all_cons, Bool.and_eq_true] at h
    exact .cons (dp_v h.1) (dpAll_v h.2)
def dR (r : List V) : PyData := .tuple (r.map dV)
theorem dp_row {K : PySem.W.Frag} {H : Hp} {t : Addr} {r : List V} (h : SqT K H t r) (hr : r.all isV = true) : Dp K H (.ref t) (dR r) := .tup h (dpAll_v hr)
theorem dp_rows {K : PySem.W.Frag} {H : Hp} : ∀ {ts : List Addr} {rows : List (List V)}, Rows K H ts rows → (∀ r ∈ rows, r.all isV = true) → DpAll K H (ts.map V.ref) (rows.map dR)
  | _, _, .nil, _ => .nil
  | _, _, .cons h t, hr => .cons (dp_row h (hr _ (List.mem_cons_self ..))) (dp_rows t fun r m => hr r (List.mem_cons_of_mem _ m))
theorem lay_v : ∀ {r : List V}, r.all isV = true → PyData.canLayAll0 (r.map dV) = true
  | [], _ => rfl
  | v :: r, h => by
    rw [List.all_cons, Bool.and_eq_true] at h
    show (PyData.canLay0 (dV v) && PyData.canLayAll0 (r.map dV)) = true
    rw [lay_v h.2, Bool.and_true]
    cases v with
    | int i => rfl
    | str x => exact h.1
    | _ => cases h.1
theorem lay_r {r : List V} (h : r.all isV = true) : PyData.canLay0 (dR r) = true := lay_v h
theorem lay_rs : ∀ {rows : List (List V)}, (∀ r ∈ rows, r.all isV = true) → PyData.canLayAll0 (rows.map dR) = true
  | [], _ => rfl
  | r :: rows, h => by
    show (PyData.canLay0 (dR r) && PyData.canLayAll0 (rows.map dR)) = true
    rw [lay_r (h r (List.mem_cons_self ..)), lay_rs fun q m => h q (List.mem_cons_of_mem _ m)]
    rfl
theorem depth_v : ∀ {r : List V}, r.all isV = true → PyData.depthAll (r.map dV) = 0
  | [], _ => rfl
  | v :: r, h => by
    rw [List.all_cons, Bool.and_eq_true] at h
    show max (PyData.depth (dV v)) (PyData.depthAll (r.map dV)) = 0
    rw [depth_v h.2]
    cases v with
    | int i => rfl
    | str x => rfl
    | _ => cases h.1
theorem depth_rs : ∀ {rows : List (List V)}, (∀ r ∈ rows, r.all isV = true) → PyData.depthAll (rows.map dR) ≤ 1
  | [], _ => Nat.zero_le _
  | r :: rows, h => by
    show max (PyData.depthAll (r.map dV) + 1) (PyData.depthAll (rows.map dR)) ≤ 1
    rw [depth_v (h r (List.mem_cons_self ..))]
    have := depth_rs fun q m => h q (List.mem_cons_of_mem _ m)
    omega
theorem shaped_r {r : List V} (h : r.all isV = true) : SeqAt.shaped (dR r) = true := by
  unfold SeqAt.shaped
  rw [lay_r h, Bool.true_and]
  refine decide_eq_true ?_
  show PyData.depthAll (r.map dV) + 1 ≤ 64
  rw [depth_v h]
  decide
theorem shaped_rs {rows : List (List V)} (h : ∀ r ∈ rows, r.all isV = true) : SeqAt.shaped (.list (rows.map dR)) = true := by
  unfold SeqAt.shaped
  rw [show PyData.canLay0 (.list (rows.map dR)) = true from lay_rs h, Bool.true_and]
  refine decide_eq_true ?_
  show PyData.depthAll (rows.map dR) + 1 ≤ 64
  have := depth_rs h
  omega
theorem eqv_v : ∀ {v u : V}, isV v = true → isV u = true → PyData.eqv (dV v) (dV u) = decide (v = u)
  | .int i, .int j, _, _ => by
    show (i == j) = _
    by_cases h : i = j
    · subst h; simp
    · have : V.int i ≠ V.int j := fun e => h (V.int.inj e)
      simp [h]
  | .str x, .str y, _, _ => by
    show (x == y) = _
    by_cases h : x = y
    · subst h; simp
    · simp [h]
  | .int _, .str _, _, _ => (decide_eq_false (by simp)).symm
  | .str _, .int _, _, _ => (decide_eq_false (by simp)).symm
  | .non, _, h, _ | .bl _, _, h, _ | .byt _, _, h, _ | .flt _, _, h, _ | .ref _, _, h, _ | .ty _, _, h, _ => by cases h
  | .int _, .non, _, h | .int _, .bl _, _, h | .int _, .byt _, _, h | .int _, .flt _, _, h | .int _, .ref _, _, h | .int _, .ty _, _, h => by cases h
  | .str _, .non, _, h | .str _, .bl _, _, h | .str _, .byt _, _, h | .str _, .flt _, _, h | .str _, .ref _, _, h | .str _, .ty _, _, h => by cases h
theorem eqvAll_v : ∀ {r q : List V}, r.all isV = true → q.all isV = true → PyData.eqvAll (r.map dV) (q.map dV) = decide (r = q)
  | [], [], _, _ => rfl
  | [], _ :: _, _, _ => (decide_eq_false (by simp)).symm
  | _ :: _, [], _, _ => (decide_eq_false (by simp)).symm
  | v :: r, u :: q, h, h' => by
    rw [List.all_cons, Bool.and_eq_true] at h h'
    show (PyData.eqv (dV v) (dV u) && PyData.eqvAll (r.map dV) (q.map dV)) = _
    rw [eqv_v h.1 h'.1, eqvAll_v h.2 h'.2]
    by_cases c1 : v = u <;> by_cases c2 : r = q <;> simp [c1, c2]
theorem any_rows {rows : List (List V)} {r : List V} (h : ∀ q ∈ rows, q.all isV = true) (hr : r.all isV = true) : ((rows.map dR).any fun z => PyData.eqv z (dR r)) = decide (r ∈ rows) := by
  induction rows with
  | nil => exact (decide_eq_false (by simp)).symm
  | cons q rows ih =>
    rw [List.map_cons, List.any_cons, ih fun z m => h z (List.mem_cons_of_mem _ m)]
    show (PyData.eqvAll (q.map dV) (r.map dV) || _) = _
    rw [eqvAll_v (h q (List.mem_cons_self ..)) hr]
    by_cases c1 : q = r
    · subst c1; simp
    · have : ¬ r = q := fun e => c1 e.symm
      by_cases c2 : r ∈ rows <;> simp [c1, c2, this]
end K36
/-! text KGd -/
/-! the ground and the engines as plain data -/
namespace K36
open PySem PySem.Spec PyProof.Rows L2 SX
structure Gd where
  places : List (Str × Int)
  roads : List (Str × Str × Int × Int)
  stations : List Str
abbrev Eng := Str × Str × Str × Int
def encP (p : Str × Int) : List V := [.str p.1, .int p.2]
def encR (r : Str × Str × Int × Int) : List V := [.str r.1, .str r.2.1, .int r.2.2.1, .int r.2.2.2]
def encE (e : Eng) : List V := [.str e.1, .str e.2.1, .str e.2.2.1, .int e.2.2.2]
structure Adr where
  T : Addr
  P : Addr
  R : Addr
  S : Addr
  tP : List Addr
  tR : List Addr
  E : Addr
  tE : List Addr
structure GAt (K : PySem.W.Frag) (H : Hp) (A : Adr) (g : Gd) : Prop where
  p : SqT K H A.P (A.tP.map V.ref)
  ps : Rows K H A.tP (g.places.map encP)
  r : SqT K H A.R (A.tR.map V.ref)
  rs : Rows K H A.tR (g.roads.map encR)
  s : SqT K H A.S (g.stations.map V.str)
structure EAt (K : PySem.W.Frag) (H : Hp) (A : Adr) (es : List Eng) : Prop where
  e : SqT K H A.E (A.tE.map V.ref)
  es : Rows K H A.tE (es.map encE)
theorem GAt.tm {K : PySem.W.Frag} {H H' : Hp} {A : Adr} {g : Gd} (x : GAt K H A g) (t : TM K H H') : GAt K H' A g := ⟨t _ _ x.p, x.ps.tm t, t _ _ x.r, x.rs.tm t, t _ _ x.s⟩
theorem EAt.tm {K : PySem.W.Frag} {H H' : Hp} {A : Adr} {es : List Eng} (x : EAt K H A es) (t : TM K H H') : EAt K H' A es := ⟨t _ _ x.e, x.es.tm t⟩
def Gd.names (g : Gd) : List Str := g.places.map (·.1)
/-- two roads of the same two places -/
def DR (r s : Str × Str × Int × Int) : Prop := ¬ (r.1 = s.1 ∧ r.2.1 = s.2.1) ∧ ¬ (r.1 = s.2.1 ∧ r.2.1 = s.1)
structure GOk (g : Gd) : Prop where
  p1 : 1 ≤ g.places.length
  p40 : g.places.length ≤ 40
  nm : ∀ x ∈ g.names, NameOk x
  nd : g.names.Nodup
  risk : ∀ p ∈ g.places, 1 ≤ p.2 ∧ p.2 ≤ 4
  r80 : g.roads.length ≤ 80
  road : ∀ r ∈ g.roads, r.1 ∈ g.names ∧ r.2.1 ∈ g.names ∧ r.1 ≠ r.2.1 ∧ 1 ≤ r.2.2.1 ∧ r.2.2.1 ≤ 60 ∧ 0 ≤ r.2.2.2 ∧ r.2.2.2 ≤ 60
  pw : g.roads.Pairwise DR
  s1 : 1 ≤ g.stations.length
  s12 : g.stations.length ≤ 12
  st : ∀ x ∈ g.stations, x ∈ g.names
  sd : g.stations.Nodup
structure EOk (st : List Str) (es : List Eng) : Prop where
  e1 : 1 ≤ es.length
  e24 : es.length ≤ 24
  nm : ∀ e ∈ es, NameOk e.1
  nd : (es.map (·.1)).Nodup
  sort : ∀ e ∈ es, e.2.1 ∈ (["pump", "ladder", "tanker"] : List Str)
  st : ∀ e ∈ es, e.2.2.1 ∈ st
  seats : ∀ e ∈ es, 1 ≤ e.2.2.2 ∧ e.2.2.2 ≤ 9
theorem NameOk.ok {x : Str} (h : NameOk x) : PyData.strOk x = true := by
  unfold PyData.strOk
  rw [← Array.all_toList, List.all_eq_true]
  intro c hc
  have := (h.2.2 c hc).2
  exact decide_eq_true (by omega)
theorem GOk.name {g : Gd} (h : GOk g) {x : Str} (hx : x ∈ g.names) : isV (.str x) = true := (h.nm x hx).ok
theorem GOk.rows {g : Gd} (h : GOk g) : ∀ r ∈ g.roads.map encR, r.all isV = true := fun r hr => by
  obtain ⟨q, hq, rfl⟩ := List.mem_map.mp hr
  obtain ⟨a, b, _⟩ := h.road q hq
  show (isV (.str q.1) && (isV (.str q.2.1) && true)) = true
  rw [h.name a, h.name b]; rfl
theorem GOk.prows {g : Gd} (h : GOk g) : ∀ r ∈ g.places.map encP, r.all isV = true := fun r hr => by
  obtain ⟨q, hq, rfl⟩ := List.mem_map.mp hr
  show (isV (.str q.1) && true) = true
  rw [h.name (List.mem_map_of_mem hq)]; rfl
/-! the making of roads -/
def DP (a b : Nat × Nat) : Prop := ¬ (a.1 = b.1 ∧ a.2 = b.2) ∧ ¬ (a.1 = b.2 ∧ a.2 = b.1)
structure RP (nm : List Str) (p : Nat × Nat) (r : Str × Str × Int × Int) : Prop where
  a : nm[p.1]? = some r.1
  b : nm[p.2]? = some r.2.1
  n : p.1 ≠ p.2
  t1 : 1 ≤ r.2.2.1
  t2 : r.2.2.1 ≤ 60
  s1 : 0 ≤ r.2.2.2
  s2 : r.2.2.2 ≤ 60
theorem nm_inj {nm : List Str} (nd : nm.Nodup) {i j : Nat} {x : Str} (h : nm[i]? = some x) (h' : nm[j]? = some x) : i = j := nd_ix nd h h'
theorem paired_mem {α β : Type} {F : α → β → Prop} {l : List α} {m : List β} (h : Paired F l m) {b : β} (hb : b ∈ m) : ∃ a ∈ l, F a b := by
  obtain ⟨i, hi⟩ := List.mem_iff_getElem?.mp hb
  obtain ⟨a, h1, h2⟩ := Paired.at h hi
  exact ⟨a, List.mem_of_getElem? h1, h2⟩
theorem road_pw {nm : List Str} (nd : nm.Nodup) : ∀ {ps : List (Nat × Nat)} {rs : List (Str × Str × Int × Int)}, Paired (RP nm) ps rs → ps.Pairwise DP → rs.Pairwise DR
  | _, _, .nil, _ => List.Pairwise.nil
  | _, _, .cons f r, h => by
    obtain ⟨h1, h2⟩ := List.pairwise_cons.mp h
    refine List.pairwise_cons.mpr ⟨fun s hs => ?_, road_pw nd r h2⟩
    obtain ⟨q, hq, g⟩ := paired_mem r hs
    obtain ⟨d1, d2⟩ := h1 q hq
    have fa := f.a; have fb := f.b; have ga := g.a; have gb := g.b
    refine ⟨fun e => d1 ⟨?_, ?_⟩, fun e => d2 ⟨?_, ?_⟩⟩
    · rw [e.1] at fa; exact nm_inj nd fa ga
    · rw [e.2] at fb; exact nm_inj nd fb gb
    · rw [e.1] at fa; exact nm_inj nd fa gb
    · rw [e.2] at fb; exact nm_inj nd fb ga
theorem road_ok {nm : List Str} (nd : nm.Nodup) {ps : List (Nat × Nat)} {rs : List (Str × Str × Int × Int)} (h : Paired (RP nm) ps rs) {r : Str × Str × Int × Int} (hr : r ∈ rs) :
    r.1 ∈ nm ∧ r.2.1 ∈ nm ∧ r.1 ≠ r.2.1 ∧ 1 ≤ r.2.2.1 ∧ r.2.2.1 ≤ 60 ∧ 0 ≤ r.2.2.2 ∧ r.2.2.2 ≤ 60 := by
  obtain ⟨p, _, f⟩ := paired_mem h hr
  refine ⟨List.mem_of_getElem? f.a, List.mem_of_getElem? f.b, fun e => f.n ?_, f.t1, f.t2, f.s1, f.s2⟩
  have fa := f.a
  rw [e] at fa
  exact nm_inj nd fa f.b
def encPr (p : Nat × Nat) : List V := [.int p.1, .int p.2]
theorem encPr_inj {p q : Nat × Nat} (h : encPr p = encPr q) : p = q := by
  obtain ⟨a, b⟩ := p
  obtain ⟨c, d⟩ := q
  unfold encPr at h
  simp only [List.cons.injEq, V.int.injEq, and_true] at h
  have h1 : a = c := by omega
  have h2 : b = d := by omega
  rw [h1, h2]
theorem encPr_is (p : Nat × Nat) : (encPr p).all isV = true := rfl
theorem encPr_all {ps : List (Nat × Nat)} : ∀ r ∈ ps.map encPr, r.all isV = true := fun r hr => by
  obtain ⟨p, _, rfl⟩ := List.mem_map.mp hr
  rfl
theorem mem_encPr {ps : List (Nat × Nat)} {p : Nat × Nat} : encPr p ∈ ps.map encPr ↔ p ∈ ps := ⟨fun h => by
  obtain ⟨q, hq, e⟩ := List.mem_map.mp h
  rw [← encPr_inj e]; exact hq, fun h => List.mem_map.mpr ⟨p, h, rfl⟩⟩
theorem pw_snoc {α : Type} {R : α → α → Prop} {l : List α} {x : α} (h : l.Pairwise R) (hx : ∀ y ∈ l, R y x) : (l ++ [x]).Pairwise R := by
  rw [List.pairwise_append]
  exact ⟨h, List.pairwise_singleton _ _, fun a ha b hb => by rw [List.mem_singleton.mp hb]; exact hx a ha⟩
theorem nodup_snoc {α : Type} {l : List α} {x : α} (h : l.Nodup) (hx : x ∉ l) : (l ++ [x]).Nodup := by
  refine List.nodup_append.mpr ⟨h, List.nodup_cons.mpr ⟨by simp, List.nodup_nil⟩, fun a ha b hb e => hx ?_⟩
  rw [List.mem_singleton.mp hb] at e
  rw [← e]; exact ha
/-- flat items: in -/
theorem inV_str {x : Str} : ∀ {xs : List Str}, inV (V.str x) (xs.map V.str) = decide (x ∈ xs)
  | [] => (decide_eq_false (by simp)).symm
  | y :: ys => by
    have ih := inV_str (x := x) (xs := ys)
    unfold inV at ih ⊢
    rw [List.map_cons, List.any_cons, ih]
    have e : eqV (V.str y) (V.str x) = decide (y = x) := by
      unfold eqV
      first | rfl | (by_cases c : y = x <;> simp [c])
    rw [e]
    by_cases c : y = x
    · subst c; simp
    · have : ¬ x = y := fun q => c q.symm
      by_cases c2 : x ∈ ys <;> simp [c, c2, this]
theorem flat_strs (xs : List Str) : (xs.map V.str).all flatV = true := by
  rw [List.all_map, List.all_eq_true]
  intro x _; rfl
end K36
/-! text KPure -/
/-! the room as plain data: deeds, states, rows -/
namespace K36
open PySem L2
section
variable {α β : Type} [DecidableEq α]
def getA (l : List (α × β)) (k : α) : Option β := (l.find? fun q => decide (q.1 = k)).map (·.2)
def putA (l : List (α × β)) (k : α) (v : β) : List (α × β) := if (l.any fun q => decide (q.1 = k)) = true then l.map (fun q => if q.1 = k then (q.1, v) else q) else l ++ [(k, v)]
theorem getA_nil {k : α} : getA ([] : List (α × β)) k = none := rfl
theorem getA_pos {p : α × β} {r : List (α × β)} {k : α} (e : p.1 = k) : getA (p :: r) k = some p.2 := by simp [getA, List.find?_cons, e]
theorem getA_neg {p : α × β} {r : List (α × β)} {k : α} (e : ¬ p.1 = k) : getA (p :: r) k = getA r k := by simp [getA, List.find?_cons, e]
theorem getA_mem {l : List (α × β)} {k : α} {v : β} (h : getA l k = some v) : (k, v) ∈ l := by
  unfold getA at h
  cases e : l.find? fun q => decide (q.1 = k) with
  | none => rw [e] at h; cases h
  | some q =>
    rw [e] at h
    have e1 : q.2 = v := Option.some.inj h
    have e2 : q.1 = k := of_decide_eq_true (List.find?_some (p := fun q : α × β => decide (q.1 = k)) e)
    have e3 := List.mem_of_find?_eq_some e
    rw [← e1, ← e2]; exact e3
theorem getA_in {l : List (α × β)} {k : α} (h : k ∈ l.map (·.1)) : ∃ v, getA l k = some v := by
  induction l with
  | nil => simp at h
  | cons p r ih =>
    by_cases c : p.1 = k
    · exact ⟨_, getA_pos c⟩
    · rw [getA_neg c]
      refine ih ?_
      rcases List.mem_cons.mp (show k ∈ p.1 :: r.map (·.1) from h) with z | z
      · exact absurd z.symm c
      · exact z
theorem putA_keys {l : List (α × β)} {k : α} {v : β} (h : k ∈ l.map (·.1)) : (putA l k v).map (·.1) = l.map (·.1) := by
  unfold putA
  have e : (l.any fun q => decide (q.1 = k)) = true := by
    obtain ⟨q, hq, e⟩ := List.mem_map.mp h
    exact List.any_eq_true.mpr ⟨q, hq, decide_eq_true e⟩
  rw [if_pos e, List.map_map]
  refine List.map_congr_left fun q _ => ?_
  show (if q.1 = k then (q.1, v) else q).1 = q.1
  split <;> rfl
theorem putA_mem {l : List (α × β)} {k : α} {v : β} {p : α × β} (h : p ∈ putA l k v) : p = (k, v) ∨ p ∈ l := by
  unfold putA at h
  split at h
  · obtain ⟨q, hq, e⟩ := List.mem_map.mp h
    split at e
    · rename_i c
      exact .inl (by rw [← e, c])
    · exact .inr (by rw [← e]; exact hq)
  · rcases List.mem_append.mp h with z | z
    · exact .inr z
    · exact .inl (List.mem_singleton.mp z)
theorem putA_len {l : List (α × β)} {k : α} {v : β} : (putA l k v).length ≤ l.length + 1 := by
  unfold putA
  split
  · rw [List.length_map]; omega
  · rw [List.length_append]; exact Nat.le_refl _
theorem getA_put {l : List (α × β)} {k j : α} {v : β} (h : (getA l j).isSome = true) : (getA (putA l k v) j).isSome = true := by
  unfold putA
  split
  · induction l with
    | nil => simp [getA_nil] at h
    | cons p r ih =>
      rw [List.map_cons]
      have e : (if p.1 = k then (p.1, v) else p).1 = p.1 := by split <;> rfl
      by_cases c : p.1 = j
      · rw [getA_pos (e.trans c)]; rfl
      · rw [getA_neg (fun z => c (e.symm.trans z))]
        rw [getA_neg c] at h
        rename_i hh
        by_cases hr : (r.any fun q => decide (q.1 = k)) = true
        · exact ih h hr
        · -- the key stands only ahead
          have : r.map (fun q => if q.1 = k then (q.1, v) else q) = r := by
            refine (List.map_congr_left fun q hq => ?_).trans (List.map_id r)
            have : ¬ q.1 = k := fun z => hr (List.any_eq_true.mpr ⟨q, hq, decide_eq_true z⟩)
            rw [if_neg this]; rfl
          rw [this]; exact h
  · induction l with
    | nil => simp [getA_nil] at h
    | cons p r ih =>
      rw [List.cons_append]
      by_cases c : p.1 = j
      · rw [getA_pos c]; rfl
      · rw [getA_neg c]
        rw [getA_neg c] at h
        rename_i hh
        refine ih h fun z => hh ?_
        rw [List.any_cons, z, Bool.or_true]
theorem getA_put_same {l : List (α × β)} {k : α} {v : β} : (getA (putA l k v) k).isSome = true := by
  have : k ∈ (putA l k v).map (·.1) := by
    unfold putA
    split
    · rename_i h
      obtain ⟨q, hq, e⟩ := List.any_eq_true.mp h
      exact List.mem_map.mpr ⟨(q.1, v), List.mem_map.mpr ⟨q, hq, by rw [if_pos (of_decide_eq_true e)]⟩, of_decide_eq_true e⟩
    · rw [List.map_append]; exact List.mem_append_right _ (by simp)
  obtain ⟨x, hx⟩ := getA_in this
  rw [hx]; rfl
end
inductive Deed where
  | call (p k : Str) | again (c : Int) | make (c p : Int) | stop (c : Int) | send (e : Str) (c : Int)
  | there (e : Str) | back (e : Str) | home (e : Str) | off (e : Str) | on (e : Str)
  | stand (e s : Str) | lend (e s : Str) | shut (r : Int) | clear (r : Int) | nothing
def Deed.vs : Deed → List V
  | .call p k => [.str "call", .str p, .str k]
  | .again c => [.str "again", .int c]
  | .make c p => [.str "make", .int c, .int p]
  | .stop c => [.str "stop", .int c]
  | .send e c => [.str "send", .str e, .int c]
  | .there e => [.str "there", .str e]
  | .back e => [.str "back", .str e]
  | .home e => [.str "home", .str e]
  | .off e => [.str "off", .str e]
  | .on e => [.str "on", .str e]
  | .stand e s => [.str "stand", .str e, .str s]
  | .lend e s => [.str "lend", .str e, .str s]
  | .shut r => [.str "shut", .int r]
  | .clear r => [.str "clear", .int r]
  | .nothing => [.str "nothing"]
def kinds : List Str := ["house", "car", "chimney", "grass", "people", "works"]
def DOk (g : Gd) (es : List Eng) : Deed → Prop
  | .call p k => p ∈ g.names ∧ k ∈ kinds
  | .again c | .stop c => 1 ≤ c ∧ c ≤ 200
  | .make c p => (1 ≤ c ∧ c ≤ 200) ∧ 1 ≤ p ∧ p ≤ 20
  | .send e c => e ∈ es.map (·.1) ∧ 1 ≤ c ∧ c ≤ 200
  | .there e | .back e | .home e | .off e | .on e => e ∈ es.map (·.1)
  | .stand e s | .lend e s => e ∈ es.map (·.1) ∧ s ∈ g.stations
  | .shut r | .clear r => 0 ≤ r ∧ r < g.roads.length
  | .nothing => True
structure Stand where
  word : Str
  place : Str
  own : Str
  call : Int
def Stand.vs (s : Stand) : List V := [.str s.word, .str s.place, .str s.own, .int s.call]
structure CallD where
  place : Str
  kind : Str
  minute : Int
  pumps : Int
  opn : Bool
def CallD.vs (c : CallD) : List V := [.str c.place, .str c.kind, .int c.minute, .int c.pumps, .bl c.opn]
structure RS where
  stands : List (Str × Stand)
  told : List (Int × CallD)
  closed : List Int
def initS (es : List Eng) : RS := ⟨es.map fun e => (e.1, ⟨"home", e.2.2.1, e.2.2.1, 0⟩), [], []⟩
def RS.isOpen (s : RS) (c : Int) : Bool := match getA s.told c with
  | some x => x.opn
  | none => false
def RS.put (s : RS) (e word place : Str) (own : Str) (call : Int) : RS := { s with stands := putA s.stands e ⟨word, place, own, call⟩ }
def stopS (c : Int) (q : Str × Stand) : Str × Stand := if q.2.call = c then (q.1, ⟨"back", q.2.place, q.2.own, 0⟩) else q
def sortI (l : List Int) : List Int := l.mergeSort fun a b => decide (a ≤ b)
def withE (s : RS) (e : Str) (f : Stand → Str × RS) : Str × RS := match getA s.stands e with
  | some x => f x
  | none => ("", s)
/-- a deed done: why not, the state behind it -/
def doneP (s : RS) (d : Deed) (n m : Int) : Str × RS := match d with
  | .call p k => ("", { s with told := putA s.told n ⟨p, k, m, 0, true⟩ })
  | .again c => (if s.isOpen c = true then "" else "call", s)
  | .make c p => match getA s.told c with
    | some x => if x.opn = true then ("", { s with told := putA s.told c { x with pumps := p } }) else ("call", s)
    | none => ("call", s)
  | .stop c => match getA s.told c with
    | some x => if x.opn = true then ("", { s with stands := s.stands.map (stopS c), told := putA s.told c { x with opn := false } }) else ("call", s)
    | none => ("call", s)
  | .send e c => withE s e fun x => if s.isOpen c = true then (if x.word = "home" ∨ x.word = "back" then ("", s.put e "sent" x.place x.own c) else ("engine", s)) else ("call", s)
  | .there e => withE s e fun x => if x.word = "sent" then (match getA s.told x.call with
    | some y => ("", s.put e "there" y.place x.own x.call)
    | none => ("", s)) else ("engine", s)
  | .back e => withE s e fun x => if x.word = "sent" ∨ x.word = "there" then ("", s.put e "back" x.place x.own 0) else ("engine", s)
  | .home e => withE s e fun x => if x.word = "back" then ("", s.put e "home" x.own x.own 0) else ("engine", s)
  | .off e => withE s e fun x => if x.word = "home" then ("", s.put e "off" x.place x.own 0) else ("engine", s)
  | .on e => withE s e fun x => if x.word = "off" then ("", s.put e "home" x.place x.own 0) else ("engine", s)
  | .stand e st => withE s e fun x => if x.word = "home" then (if x.place = st then ("station", s) else ("", s.put e "home" st x.own 0)) else ("engine", s)
  | .lend e st => withE s e fun x => if x.word = "home" ∧ x.place = x.own then (if x.place = st then ("station", s) else ("", s.put e "home" st st 0)) else ("engine", s)
  | .shut r => if r ∈ s.closed then ("road", s) else ("", { s with closed := sortI (s.closed ++ [r]) })
  | .clear r => if r ∈ s.closed then ("", { s with closed := s.closed.filter fun q => decide (q ≠ r) }) else ("road", s)
  | .nothing => ("", s)
def whys : List Str := ["call", "engine", "station", "road"]
theorem done_why (s : RS) (d : Deed) (n m : Int) : (doneP s d n m).1 = "" ∨ (doneP s d n m).1 ∈ whys := by
  have w1 : ∀ (e : Str) (f : Stand → Str × RS), (∀ x, (f x).1 = "" ∨ (f x).1 ∈ whys) → (withE s e f).1 = "" ∨ (withE s e f).1 ∈ whys := fun e f h => by
    unfold withE
    split
    · exact h _
    · exact .inl rfl
  have c1 : ("call" : Str) ∈ whys := by simp [whys]
  have c2 : ("engine" : Str) ∈ whys := by simp [whys]
  have c3 : ("station" : Str) ∈ whys := by simp [whys]
  have c4 : ("road" : Str) ∈ whys := by simp [whys]
  cases d with
  | call p k => exact .inl rfl
  | nothing => exact .inl rfl
  | again c => unfold doneP; dsimp only; split; exact .inl rfl; exact .inr c1
  | make c p => unfold doneP; dsimp only; split; split; exact .inl rfl; exact .inr c1; exact .inr c1
  | stop c => unfold doneP; dsimp only; split; split; exact .inl rfl; exact .inr c1; exact .inr c1
  | shut r => unfold doneP; dsimp only; split; exact .inr c4; exact .inl rfl
  | clear r => unfold doneP; dsimp only; split; exact .inl rfl; exact .inr c4
  | send e c => refine w1 _ _ fun x => ?_; split; split; exact .inl rfl; exact .inr c2; exact .inr c1
  | there e => refine w1 _ _ fun x => ?_; split; split; exact .inl rfl; exact .inl rfl; exact .inr c2
  | back e => refine w1 _ _ fun x => ?_; split; exact .inl rfl; exact .inr c2
  | home e => refine w1 _ _ fun x => ?_; split; exact .inl rfl; exact .inr c2
  | off e => refine w1 _ _ fun x => ?_; split; exact .inl rfl; exact .inr c2
  | on e => refine w1 _ _ fun x => ?_; split; exact .inl rfl; exact .inr c2
  | stand e st => refine w1 _ _ fun x => ?_; split; split; exact .inr c3; exact .inl rfl; exact .inr c2
  | lend e st => refine w1 _ _ fun x => ?_; split; split; exact .inr c3; exact .inl rfl; exact .inr c2
/-- what holds of a state: the engines' names, a call told for each that is sent, sizes -/
structure RSOk (es : List Eng) (n : Nat) (s : RS) : Prop where
  keys : s.stands.map (·.1) = es.map (·.1)
  sent : ∀ q ∈ s.stands, q.2.word = "sent" → (getA s.told q.2.call).isSome = true
  tl : s.told.length ≤ n
  cl : s.closed.length ≤ n
theorem RSOk.init (es : List Eng) : RSOk es 0 (initS es) := ⟨by unfold initS; rw [List.map_map]; rfl, fun q hq h => by
  obtain ⟨e, _, rfl⟩ := List.mem_map.mp hq
  have z : ("home" : Str) = "sent" := h
  exact absurd z (by decide +kernel), Nat.le_refl _, Nat.le_refl _⟩
theorem RSOk.mono {es : List Eng} {n m : Nat} {s : RS} (h : RSOk es n s) (k : n ≤ m) : RSOk es m s := ⟨h.keys, h.sent, Nat.le_trans h.tl k, Nat.le_trans h.cl k⟩
theorem RSOk.told {es : List Eng} {n : Nat} {s : RS} (h : RSOk es n s) (k : Int) (v : CallD) : RSOk es (n + 1) { s with told := putA s.told k v } :=
  ⟨h.keys, fun q hq e => getA_put (h.sent q hq e), Nat.le_trans putA_len (Nat.succ_le_succ h.tl), Nat.le_succ_of_le h.cl⟩
theorem RSOk.put {es : List Eng} {n : Nat} {s : RS} (h : RSOk es n s) {e word place own : Str} {call : Int} (he : e ∈ es.map (·.1)) (hw : word = "sent" → (getA s.told call).isSome = true) : RSOk es (n + 1) (s.put e word place own call) :=
  ⟨(putA_keys (by rw [h.keys]; exact he)).trans h.keys, fun q hq z => by
    rcases putA_mem hq with y | y
    · rw [y] at z ⊢; exact hw z
    · exact h.sent q y z, Nat.le_succ_of_le h.tl, Nat.le_succ_of_le h.cl⟩
theorem isOpen_some {s : RS} {c : Int} (h : s.isOpen c = true) : (getA s.told c).isSome = true := by
  unfold RS.isOpen at h
  split at h
  · rename_i e; rw [e]; rfl
  · cases h
theorem done_ok {g : Gd} {es : List Eng} {k : Nat} {s : RS} {d : Deed} {n m : Int} (h : RSOk es k s) (hd : DOk g es d) : RSOk es (k + 1) (doneP s d n m).2 := by
  have h1 := h.mono (Nat.le_succ k)
  have w1 : ∀ (e : Str) (f : Stand → Str × RS), (∀ x, RSOk es (k + 1) (f x).2) → RSOk es (k + 1) (withE s e f).2 := fun e f z => by
    unfold withE
    split
    · exact z _
    · exact h1
  have n1 : ∀ {w : Str} {c : Int}, ¬ w = "sent" → w = "sent" → (getA s.told c).isSome = true := fun a b => absurd b a
  cases d with
  | call p kd => exact h.told _ _
  | nothing => exact h1
  | again c => exact h1
  | make c p =>
    unfold doneP; dsimp only
    split
    · split
      · exact h.told _ _
      · exact h1
    · exact h1
  | stop c =>
    unfold doneP; dsimp only
    split
    · split
      · refine ⟨?_, fun q hq e => ?_, Nat.le_trans putA_len (Nat.succ_le_succ h.tl), Nat.le_succ_of_le h.cl⟩
        · show (s.stands.map (stopS c)).map (·.1) = _
          rw [List.map_map, ← h.keys]
          refine List.map_congr_left fun q _ => ?_
          show (stopS c q).1 = q.1
          unfold stopS; split <;> rfl
        · obtain ⟨p, hp, rfl⟩ := List.mem_map.mp (show q ∈ s.stands.map (stopS c) from hq)
          unfold stopS at e ⊢
          split at e
          · exact absurd (show ("back" : Str) = "sent" from e) (by decide +kernel)
          · rename_i z
            rw [if_neg z]
            exact getA_put (h.sent p hp e)
      · exact h1
    · exact h1
  | shut r =>
    unfold doneP; dsimp only
    split
    · exact h1
    · refine ⟨h.keys, h.sent, Nat.le_succ_of_le h.tl, ?_⟩
      show (sortI (s.closed ++ [r])).length ≤ _
      unfold sortI
      rw [List.length_mergeSort, List.length_append]
      exact Nat.succ_le_succ h.cl
  | clear r =>
    unfold doneP; dsimp only
    split
    · exact ⟨h.keys, h.sent, Nat.le_succ_of_le h.tl, Nat.le_trans (List.length_filter_le _ _) (Nat.le_succ_of_le h.cl)⟩
    · exact h1
  | send e c =>
    refine w1 _ _ fun x => ?_
    split
    · rename_i o
      split
      · exact h.put hd.1 fun _ => isOpen_some o
      · exact h1
    · exact h1
  | there e =>
    refine w1 _ _ fun x => ?_
    split
    · split
      · exact h.put hd (n1 (by decide +kernel))
      · exact h1
    · exact h1
  | back e => refine w1 _ _ fun x => ?_; split; exact h.put hd (n1 (by decide +kernel)); exact h1
  | home e => refine w1 _ _ fun x => ?_; split; exact h.put hd (n1 (by decide +kernel)); exact h1
  | off e => refine w1 _ _ fun x => ?_; split; exact h.put hd (n1 (by decide +kernel)); exact h1
  | on e => refine w1 _ _ fun x => ?_; split; exact h.put hd (n1 (by decide +kernel)); exact h1
  | stand e st => refine w1 _ _ fun x => ?_; split; split; exact h1; exact h.put hd.1 (n1 (by decide +kernel)); exact h1
  | lend e st => refine w1 _ _ fun x => ?_; split; split; exact h1; exact h.put hd.1 (n1 (by decide +kernel)); exact h1
end K36
/-! text KRoom -/
/-! rows and rooms as plain data -/
namespace K36
open PySem L2
theorem i_gn {x : V} {i : Nat} {σ : L2.St} {H : Hp} {N : L2.St → Hp → Prop} (h : N (σ.set i (some x)) H) : gName i x σ H N := h
structure RowD where
  n : Int
  written : Int
  at_ : Int
  deed : Deed
  dA : Addr
  right : Int
def RowD.enc (r : RowD) : List V := [.int r.n, .int r.written, .int r.at_, .ref r.dA, .int r.right]
def deadOf (rows : List RowD) : List Int := (rows.map (·.right)).filter fun x => decide (0 < x)
/-- what the law asks of a book (and that its deeds may be) -/
structure RowOk (g : Gd) (es : List Eng) (pre : List RowD) (r : RowD) : Prop where
  n : r.n = (pre.length : Int) + 1
  at0 : 0 ≤ r.at_
  at1 : r.at_ ≤ r.written
  w : r.written ≤ 9999
  last : ∀ q ∈ pre, q.written ≤ r.written
  r0 : 0 ≤ r.right
  r1 : r.right ≤ pre.length
  rd : r.right ∉ deadOf pre
  deed : DOk g es r.deed
inductive Book (g : Gd) (es : List Eng) : List RowD → Prop
  | nil : Book g es []
  | snoc {pre : List RowD} {r : RowD} : Book g es pre → RowOk g es pre r → Book g es (pre ++ [r])
theorem Book.at {g : Gd} {es : List Eng} {rows : List RowD} (h : Book g es rows) : ∀ (i : Nat) r, rows[i]? = some r → RowOk g es (rows.take i) r := by
  induction h with
  | nil => intro i r h; simp at h
  | @snoc pre x hp hx ih =>
    intro i r hi
    by_cases c : i < pre.length
    · rw [List.getElem?_append_left c] at hi
      rw [List.take_append_of_le_length (Nat.le_of_lt c)]
      exact ih i r hi
    · have e : i = pre.length := by
        have := (List.getElem?_eq_some_iff.mp hi).1
        rw [List.length_append] at this
        have : i < pre.length + 1 := this
        omega
      subst e
      rw [List.getElem?_append_right (Nat.le_refl _), Nat.sub_self] at hi
      have e : x = r := by simpa using hi
      rw [← e, List.take_left]
      exact hx
theorem Book.num {g : Gd} {es : List Eng} {rows : List RowD} (h : Book g es rows) {i : Nat} {r : RowD} (hr : rows[i]? = some r) : r.n = (i : Int) + 1 := by
  have := (h.at i r hr).n
  have l := (List.getElem?_eq_some_iff.mp hr).1
  rw [List.length_take] at this
  omega
theorem mem_dead {rows : List RowD} {x : Int} : x ∈ deadOf rows ↔ 0 < x ∧ ∃ r ∈ rows, r.right = x := by
  unfold deadOf
  rw [List.mem_filter, List.mem_map, decide_eq_true_eq]
  exact and_comm
theorem dead_snoc (pre : List RowD) (r : RowD) : deadOf (pre ++ [r]) = if 0 < r.right then deadOf pre ++ [r.right] else deadOf pre := by
  unfold deadOf
  rw [List.map_append, List.filter_append]
  split
  · rename_i h
    show _ ++ List.filter _ [r.right] = _
    rw [List.filter_cons, if_pos (decide_eq_true h)]; rfl
  · rename_i h
    show _ ++ List.filter _ [r.right] = _
    rw [List.filter_cons, if_neg (by simpa using h)]
    simp
theorem inV_int {x : Int} : ∀ {xs : List Int}, inV (V.int x) (xs.map V.int) = decide (x ∈ xs)
  | [] => (decide_eq_false (by simp)).symm
  | y :: ys => by
    have ih := inV_int (x := x) (xs := ys)
    unfold inV at ih ⊢
    rw [List.map_cons, List.any_cons, ih]
    have e : eqV (V.int y) (V.int x) = decide (y = x) := by
      unfold eqV
      first | rfl | (by_cases c : y = x <;> simp [c])
    rw [e]
    by_cases c : y = x
    · subst c; simp
    · have : ¬ x = y := fun q => c q.symm
      by_cases c2 : x ∈ ys <;> simp [c, c2, this]
theorem flat_ints (xs : List Int) : (xs.map V.int).all flatV = true := by
  rw [List.all_map, List.all_eq_true]
  intro x _; rfl
theorem isV_ints (xs : List Int) : (xs.map V.int).all isV = true := by
  rw [List.all_map, List.all_eq_true]
  intro x _; rfl
theorem shaped_ints (xs : List Int) : SeqAt.shaped (.list ((xs.map V.int).map dV)) = true := by
  unfold SeqAt.shaped
  rw [show PyData.canLay0 (.list ((xs.map V.int).map dV)) = true from lay_v (isV_ints xs), Bool.true_and]
  refine decide_eq_true ?_
  show PyData.depthAll ((xs.map V.int).map dV) + 1 ≤ 64
  rw [depth_v (isV_ints xs)]; decide
/-- a list of a book's rows as the law keeps it -/
structure RowsL (K : PySem.W.Frag) (H : Hp) (l : Addr) (tR : List Addr) (rows : List RowD) : Prop where
  l : H l = some (.lst (tR.map V.ref))
  ts : Rows K H tR (rows.map RowD.enc)
  ds : ∀ r ∈ rows, SqT K H r.dA r.deed.vs
theorem RowsL.tm {K : PySem.W.Frag} {H H' : Hp} {l : Addr} {tR : List Addr} {rows : List RowD} (h : RowsL K H l tR rows) (t : TM K H H') (hl : H' l = some (.lst (tR.map V.ref))) : RowsL K H' l tR rows :=
  ⟨hl, h.ts.tm t, fun r hr => t _ _ (h.ds r hr)⟩
theorem RowsL.ext {K : PySem.W.Frag} {H H' : Hp} {l : Addr} {tR : List Addr} {rows : List RowD} (h : RowsL K H l tR rows) (e : Ext H H') : RowsL K H' l tR rows :=
  h.tm (fun _ _ q => SqT.ext q e) (e _ _ h.l)
theorem RowsL.bag {K : PySem.W.Frag} {H H' : Hp} {b l : Addr} {tR : List Addr} {rows : List RowD} (h : RowsL K H l tR rows) (x : BagEx b H H') (n : l ≠ b) : RowsL K H' l tR rows :=
  h.tm x.tm (x.keep _ _ n h.l)
theorem RowsL.len {K : PySem.W.Frag} {H : Hp} {l : Addr} {tR : List Addr} {rows : List RowD} (h : RowsL K H l tR rows) : tR.length = rows.length := by
  have := h.ts.length; rwa [List.length_map] at this
theorem RowsL.at {K : PySem.W.Frag} {H H' : Hp} {l : Addr} {tR : List Addr} {rows : List RowD} (h : RowsL K H l tR rows) (e : Ext H H') {i : Nat} {t : Addr} (ht : tR[i]? = some t) : ∃ r, rows[i]? = some r ∧ SqT K H' t r.enc := by
  obtain ⟨row, hrow, hT⟩ := Paired.at' h.ts ht
  rw [List.getElem?_map] at hrow
  cases q : rows[i]? with
  | none => rw [q] at hrow; cases hrow
  | some z =>
    rw [q] at hrow
    exact ⟨z, rfl, by rw [show z.enc = row from Option.some.inj hrow]; exact SqT.ext hT e⟩
theorem RowsL.at1 {K : PySem.W.Frag} {H : Hp} {l : Addr} {tR : List Addr} {rows : List RowD} (h : RowsL K H l tR rows) {i : Nat} {r : RowD} (hr : rows[i]? = some r) : ∃ t, tR[i]? = some t ∧ SqT K H t r.enc :=
  Paired.at h.ts (i := i) (b := r.enc) (by rw [List.getElem?_map, hr]; rfl)
end K36
/-! text KDictL -/
/-! written dicts: their keys as a list -/
namespace K36
open PySem PySem.Spec PyProof.Rows L2
def keyStr : Value → Option Str
  | .str x _ => some x
  | _ => none
def dictKeys (K : PySem.W.Frag) (d : Addr) : Option (List (Option Str)) := match K.lookup d with
  | some ⟨_, _, .dict es _, _⟩ => some (es.toList.map fun e => keyStr e.key)
  | _ => none
theorem keyStr_rel {v : Value} {x : Str} (h : keyStr v = some x) : RelV (.str x) v := by
  unfold keyStr at h
  split at h
  · cases h; exact ⟨_, rfl⟩
  · cases h
def rListK (K : PySem.W.Frag) (w : World) : List V → Hp → VK → Prop := fun xs H Q => ∃ (d : Addr) (ks : List Str) (es : Array DictEntry) (n : Nat), xs = [V.ref d] ∧ KDict K w d es n ∧ dictKeys K d = some (ks.map some) ∧ ks.length ≤ 1000 ∧ ∀ p, H p = none → Q (.ref p) (upd H p (.lst (ks.map V.str)))
theorem call_listK {X : Cx} (hc : X.calm = true) : CallR X (.type "list") (rListK X.K X.w) := by
  intro pins s σ H xs us Q I r h
  obtain ⟨d, ks, es, n, rfl, D, hk, hl, q⟩ := h
  obtain ⟨u, rfl, rx⟩ := r.one
  cases rx
  have ho := I.kIn _ _ D.at_
  have e1 : es.toList.map (fun e => keyStr e.key) = ks.map some := by
    unfold dictKeys at hk
    rw [D.at_] at hk
    exact Option.some.inj hk
  have l1 : es.size = ks.length := by
    have := congrArg List.length e1
    rwa [List.length_map, List.length_map, Array.length_toList] at this
  refine PySem.W.kdl_call (kdl_raw D.low ⟨rfl, rfl, rfl⟩ rfl) (I.ok.hd hc) ho (by rw [l1, sizeLine_eq]; omega) fun h' tk acc' c' kp e it => ?_
  have rv : Vals (ks.map V.str) acc'.toList := by
    refine vals_of_at (by rw [List.length_map, ← l1, ← it.1, Array.length_toList]) fun j x w h1 h2 => ?_
    obtain ⟨en, hen, rfl⟩ := it.2 j w (by rw [← Array.getElem?_toList]; exact h2)
    have e2 := congrArg (fun l => l[j]?) e1
    simp only [List.getElem?_map, Array.getElem?_toList] at e2
    rw [hen] at e2
    rw [List.getElem?_map] at h1
    cases hj : ks[j]? with
    | none => rw [hj] at h1; cases h1
    | some z =>
      rw [hj] at h1 e2
      cases h1
      exact keyStr_rel (Option.some.inj e2)
  refine ⟨.ref s.heap.objs.size, _, I.laid (t' := tk) (o := .lst (ks.map V.str)) kp (Nat.le_refl _) ?_, rfl, q _ (I.hok.fresh (Nat.le_refl _))⟩
  exact ⟨by rw [List.length_map, sizeLine_eq]; omega, acc'.toList, c', rv, by rw [Array.toArray_toList]; exact e⟩
/-- facts to be read off the frozen part -/
def tupOk (K : PySem.W.Frag) (a : Addr) (xs : List Str) : Bool := match K.lookup a with
  | some ⟨.type "tuple", _, .seq its _, _⟩ => decide (its.toList.map keyStr = xs.map some) && decide (its.size ≤ 100)
  | _ => false
theorem tupOk_sq {K : PySem.W.Frag} {a : Addr} {xs : List Str} {H : Hp} (h : tupOk K a xs = true) : SqT K H a (xs.map V.str) := by
  unfold tupOk at h
  split at h
  · rename_i d its n sl e
    rw [Bool.and_eq_true, decide_eq_true_eq, decide_eq_true_eq] at h
    refine .inr ⟨_, its, n, e, rfl, rfl, by rw [sizeLine_eq]; omega, vals_of_at (by have := congrArg List.length h.1; rw [List.length_map, List.length_map] at this; rw [List.length_map, this]) fun j x u h1 h2 => ?_⟩
    have e2 := congrArg (fun l => l[j]?) h.1
    simp only [List.getElem?_map] at e2
    rw [h2] at e2
    rw [List.getElem?_map] at h1
    cases hj : xs[j]? with
    | none => rw [hj] at h1; cases h1
    | some z =>
      rw [hj] at h1 e2
      cases h1
      exact keyStr_rel (Option.some.inj e2)
  · cases h
def formOk (K : PySem.W.Frag) (d : Addr) (k : Str) (xs : List Str) : Bool := match PySem.W.nsIn K d k with
  | some (some (.ref a)) => tupOk K a xs
  | _ => false
theorem formOk_sq {K : PySem.W.Frag} {w : World} {d : Addr} {k : Str} {xs : List Str} {es : Array DictEntry} {n : Nat} (D : KDict K w d es n) (h : formOk K d k xs = true) : ∃ a, KDct K w d k (.ref a) ∧ ∀ H, SqT K H a (xs.map V.str) := by
  unfold formOk at h
  split at h
  · rename_i a e
    exact ⟨a, ⟨es, n, _, D.at_, D.lit, e, rfl⟩, fun H => tupOk_sq h⟩
  · cases h
def doOk (K : PySem.W.Frag) (d : Addr) (k : Str) (f : Addr) : Bool := match PySem.W.nsIn K d k with
  | some (some (.ref a)) => a == f
  | _ => false
theorem doOk_k {K : PySem.W.Frag} {w : World} {d f : Addr} {k : Str} {es : Array DictEntry} {n : Nat} (D : KDict K w d es n) (h : doOk K d k f = true) : KDct K w d k (.ref f) := by
  unfold doOk at h
  split at h
  · rename_i a e
    exact ⟨es, n, _, D.at_, D.lit, e, by rw [eq_of_beq h]; rfl⟩
  · cases h
def dueK : List Str := ["car", "chimney", "grass", "house", "people", "works"]
def formsK : List Str := ["call", "again", "make", "stop", "send", "there", "back", "home", "off", "on", "stand", "lend", "shut", "clear", "nothing"]
/-- the module's written tables -/
structure Ty (K : PySem.W.Frag) : Prop where
  due : (decide (dictKeys K (He.ga K "DUE") = some (dueK.map some))) = true
  forms : (decide (dictKeys K (He.ga K "FORMS") = some (formsK.map some))) = true
  sorts : (tupOk K (He.ga K "SORTS") ["pump", "ladder", "tanker"]) = true
  f_call : (formOk K (He.ga K "FORMS") "call" ["place", "kind"]) = true
  f_again : (formOk K (He.ga K "FORMS") "again" ["call"]) = true
  f_make : (formOk K (He.ga K "FORMS") "make" ["call", "pumps"]) = true
  f_stop : (formOk K (He.ga K "FORMS") "stop" ["call"]) = true
  f_send : (formOk K (He.ga K "FORMS") "send" ["engine", "call"]) = true
  f_there : (formOk K (He.ga K "FORMS") "there" ["engine"]) = true
  f_back : (formOk K (He.ga K "FORMS") "back" ["engine"]) = true
  f_home : (formOk K (He.ga K "FORMS") "home" ["engine"]) = true
  f_off : (formOk K (He.ga K "FORMS") "off" ["engine"]) = true
  f_on : (formOk K (He.ga K "FORMS") "on" ["engine"]) = true
  f_stand : (formOk K (He.ga K "FORMS") "stand" ["engine", "station"]) = true
  f_lend : (formOk K (He.ga K "FORMS") "lend" ["engine", "station"]) = true
  f_shut : (formOk K (He.ga K "FORMS") "shut" ["road"]) = true
  f_clear : (formOk K (He.ga K "FORMS") "clear" ["road"]) = true
  f_nothing : (formOk K (He.ga K "FORMS") "nothing" []) = true
  d_call : (doOk K (He.ga K "DOING") "call" (He.ga K "do_call")) = true
  d_again : (doOk K (He.ga K "DOING") "again" (He.ga K "do_again")) = true
  d_make : (doOk K (He.ga K "DOING") "make" (He.ga K "do_make")) = true
  d_stop : (doOk K (He.ga K "DOING") "stop" (He.ga K "do_stop")) = true
  d_send : (doOk K (He.ga K "DOING") "send" (He.ga K "do_send")) = true
  d_there : (doOk K (He.ga K "DOING") "there" (He.ga K "do_there")) = true
  d_back : (doOk K (He.ga K "DOING") "back" (He.ga K "do_back")) = true
  d_home : (doOk K (He.ga K "DOING") "home" (He.ga K "do_home")) = true
  d_off : (doOk K (He.ga K "DOING") "off" (He.ga K "do_off")) = true
  d_on : (doOk K (He.ga K "DOING") "on" (He.ga K "do_off")) = true
  d_stand : (doOk K (He.ga K "DOING") "stand" (He.ga K "do_stand")) = true
  d_lend : (doOk K (He.ga K "DOING") "lend" (He.ga K "do_lend")) = true
  d_shut : (doOk K (He.ga K "DOING") "shut" (He.ga K "do_shut")) = true
  d_clear : (doOk K (He.ga K "DOING") "clear" (He.ga K "do_shut")) = true
  d_nothing : (doOk K (He.ga K "DOING") "nothing" (He.ga K "do_nothing")) = true
end K36
/-! text KSort -/
/-! sorted(xs) of data, xs a list or a tuple -/
namespace K36
open PySem PySem.Spec PyProof.Rows L2
section
variable {prog : Program} {w : World} {A : Around} {E : Value → Shared → Prop} {s : Shared}
theorem sorted_seq {β : Type} {enc : β → PyData} {R : Value → β → Prop} {l : Addr} {T : String} {o : Obj} {n : Nat} {vs : List Value} {bs : List β} {Q : Value → Shared → Prop} (hT : T = "list" ∨ T = "tuple")
    (ho : s.heap.get? l = some o) (hc : o.cls = .type T) (hd : o.data = .seq vs.toArray n) (e : W.EachIs R vs bs) (er : W.EachIs (fun v b => ∃ as, Reads s.heap v (enc b) as) vs bs) (hal : W.AllAlike (bs.map enc)) (hk : W.Sortable (bs.map enc)) (hL : vs.length ≤ sizeLine)
    (hu : ∀ b, b ∈ bs → A.units + 2 + (enc b).depth < cLine)
    (h : ∀ (h1 h' : Heap) (c : Nat) (out : List Value), (∀ b o, s.heap.get? b = some o → h1.get? b = some o) → (∀ b o, h1.get? b = some o → h'.get? b = some o) → h'.get? h1.objs.size = some (seqObj "list" (List.toArray out) c) → out.length = vs.length → W.EachIs R out (bs.mergeSort (W.dataLe false enc)) → Q (.ref h1.objs.size) { s with heap := h' }) :
    wpAny (model prog w) A (call (.builtin "sorted") [.ref l]) Q E s := by
  refine call_function_entry_kw kind_sorted plain_sorted entry_sorted (args_sorted1 _) ?_
  unfold Builtin.«sorted»
  refine wpAny_bind (m := checkCount "sorted" 1 1 _) (wpAny_pure ?_)
  refine wpAny_bind (wpAny_collect_seq l hT ho hc hd (fun h' k1 => ?_) (by simpa using hL))
  refine wpAny_bind (wpAny_newList ?_ (by simpa using hL))
  have ha : (h'.push (seqObj "list" vs.toArray 0)).get? h'.objs.size = some (seqObj "list" vs.toArray 0) := Heap.get?_push_size _ rfl
  refine wpAny_bind (wpAny_holding (wpAny_call_entry_kw slot_list_sort ⟨_, ha, rfl⟩ entry_list_sort ?body (args_list_sort _)))
  case body =>
    have er' : W.EachIs (fun v b => ∃ as, Reads (W.sortingHeap (h'.push (seqObj "list" vs.toArray 0)) h'.objs.size vs) v (enc b) as) vs bs := er.mono fun _ _ ⟨as, r⟩ => ⟨as, PyProof.Rows.Reads.keeps (fun b o q => W.sortingHeap_old (Nat.ne_of_lt (Heap.lt_size (k1 b o q))) (Heap.get?_push_of_some _ (k1 b o q))) r⟩
    refine wpAny_mono (W.list_sort_vals (s := { s with heap := h'.push (seqObj "list" vs.toArray 0) }) (P := fun f s' => f = .done (.ret .none) ∧ Q (.ref h'.objs.size) s') ha
      (W.SortsAt.data (s := { s with heap := W.sortingHeap (h'.push (seqObj "list" vs.toArray 0)) h'.objs.size vs }) (W.each_map (R := fun v d => ∃ as, Reads (W.sortingHeap (h'.push (seqObj "list" vs.toArray 0)) h'.objs.size vs) v d as) enc er') hal hk (W.bound_map hu)) hL ⟨rfl, ?_⟩) (fun f s' hf => ?_) fun _ _ e => e
    · obtain ⟨c, hc'⟩ := sortedHeap_at (out := (W.sortVals (W.dataKind (W.sortingHeap (h'.push (seqObj "list" vs.toArray 0)) h'.objs.size vs) (bs.map enc)) false vs vs).toArray) ha
      refine h h' _ c _ k1 (fun b o q => ?_) hc' (W.sortVals_length false rfl) (W.sortVals_data false e er' hal)
      have hlt := Heap.lt_size q
      rw [sortedHeap_old (Nat.ne_of_lt hlt) (by rw [size_push']; exact Nat.lt_succ_of_lt hlt)]
      exact Heap.get?_push_of_some _ q
    · obtain ⟨rfl, hq⟩ := hf
      exact ⟨_, rfl, wpAny_pure ⟨_, rfl, hq⟩⟩
end
/-- the values vs read as the data -/
structure rSortD (K : PySem.W.Frag) (vs : List V) (H : Hp) (Q : VK) : Prop where
  ex : ∃ (a : Addr) (bs : List (V × PyData)), vs = [V.ref a] ∧ (SqL K H a (bs.map (·.1)) ∨ SqT K H a (bs.map (·.1))) ∧ (∀ b ∈ bs, Dp K H b.1 b.2) ∧ W.AllAlike (bs.map (·.2)) ∧ W.Sortable (bs.map (·.2)) ∧ bs.length ≤ 1000 ∧ (∀ b ∈ bs, b.2.depth ≤ 60) ∧
  ∀ p, H p = none → Q (.ref p) (upd H p (.lst ((bs.mergeSort (W.dataLe false (·.2))).map (·.1))))
theorem each_vals {bs : List (V × PyData)} : ∀ {us : List Value}, Vals (bs.map (·.1)) us → W.EachIs (fun u b => RelV b.1 u) us bs := by
  induction bs with
  | nil => intro us h; cases h; exact .nil
  | cons b bs ih =>
    intro us h
    cases h with
    | cons r t => exact .cons r (ih t)
theorem vals_each {bs : List (V × PyData)} : ∀ {us : List Value}, W.EachIs (fun u b => RelV b.1 u) us bs → Vals (bs.map (·.1)) us := by
  induction bs with
  | nil => intro us h; cases h; exact .nil
  | cons b bs ih =>
    intro us h
    cases h with
    | cons r t => exact .cons r (ih t)
section
variable {X : Cx}
theorem each_reads {pins : List (Addr × Obj)} {σ : L2.St} {H : Hp} {s : Shared} (I : Inv X pins σ H s) : ∀ {bs : List (V × PyData)} {us : List Value}, Vals (bs.map (·.1)) us → (∀ b ∈ bs, Dp X.K H b.1 b.2) → W.EachIs (fun u b => ∃ as, Reads s.heap u b.2 as) us bs := by
  intro bs
  induction bs with
  | nil => intro us h _; cases h; exact .nil
  | cons b bs ih =>
    intro us h d
    cases h with
    | cons r t => exact .cons (Dp.reads I _ _ _ (d b (List.mem_cons_self ..)) r) (ih t fun x hx => d x (List.mem_cons_of_mem _ hx))
theorem cr_sortD (hu : X.A.units + 65 < cLine) : CallR X (.builtin "sorted") (rSortD X.K) := by
  intro pins s σ H xs us Q I r h
  obtain ⟨a, bs, rfl, hs, hd, hal, hk, hL, hdep, q⟩ := h.ex
  rw [Vals.ref1 r]
  have main : ∀ (T : String) (its : List Value) (o : Obj) (n : Nat), (T = "list" ∨ T = "tuple") → s.heap.get? a = some o → o.cls = .type T → o.data = .seq its.toArray n → Vals (bs.map (·.1)) its →
      wpAny (model X.prog X.w) X.A (call (.builtin "sorted") [.ref a]) (EP X pins σ Q) X.xe s := fun T its o n hT ho hc hdt rv => by
    have hlen : its.length = bs.length := by rw [← rv.length, List.length_map]
    refine sorted_seq (enc := fun b : V × PyData => b.2) (R := fun u b => RelV b.1 u) hT ho hc hdt (each_vals rv) (each_reads I rv hd) hal hk (by rw [hlen, sizeLine_eq]; omega) (fun b hb => ?_) fun h1 h' c out k1 k2 hD hol ho2 => ?_
    · have := hdep b hb; omega
    have I1 : Inv X pins σ H { s with heap := h1 } := I.kept (t' := s.toks) k1
    refine ⟨.ref h1.objs.size, upd H h1.objs.size (.lst ((bs.mergeSort (W.dataLe false (·.2))).map (·.1))), I1.laid (t' := s.toks) k2 (Nat.le_refl _) ⟨?_, out, c, vals_each ho2, hD⟩, rfl, q _ (I1.hok.fresh (Nat.le_refl _))⟩
    rw [List.length_map, (List.mergeSort_perm _ _).length_eq, sizeLine_eq]; omega
  rcases hs with hs | hs
  · obtain ⟨its, rv, pl, hz⟩ := I.list hs
    obtain ⟨o, ho, hc, n, hdt⟩ := pl.isList
    exact main "list" its o n (.inl rfl) ho hc (by simpa using hdt) rv
  · obtain ⟨its, rv, ⟨o, ho, hc, n, hdt⟩, hz⟩ := I.tuple hs
    exact main "tuple" its o n (.inr rfl) ho hc (by simpa using hdt) rv
end
/-! the laws of it -/
theorem sort_enc {α : Type} (f : α → V) (g : α → PyData) {le : α → α → Bool} (l : List α) (hle : ∀ x ∈ l, ∀ y ∈ l, W.dataLe false g x y = le x y) :
    ((l.map fun x => (f x, g x)).mergeSort (W.dataLe false (·.2))).map (·.1) = (l.mergeSort le).map f := by
  rw [← List.map_mergeSort (r := le) (f := fun x => (f x, g x)) (fun a ha b hb => by rw [← hle a ha b hb]; rfl), List.map_map]
  rfl
def leS (x y : Str) : Bool := decide (x.cps.toList ≤ y.cps.toList)
def leI (x y : Int) : Bool := decide (x ≤ y)
theorem sort_strs (l : List Str) : ((l.map fun x => (V.str x, PyData.str x)).mergeSort (W.dataLe false (·.2))).map (·.1) = (l.mergeSort leS).map V.str :=
  sort_enc V.str PyData.str l fun x _ y _ => congrFun (congrFun (W.dataLe_str (fun x : Str => x)) x) y
theorem sort_ints (l : List Int) : ((l.map fun x => (V.int x, PyData.int x)).mergeSort (W.dataLe false (·.2))).map (·.1) = (l.mergeSort leI).map V.int :=
  sort_enc V.int PyData.int l fun x _ y _ => congrFun (congrFun (W.dataLe_int (fun x : Int => x)) x) y
theorem alike_strs (l : List Str) : W.AllAlike ((l.map fun x => (V.str x, PyData.str x)).map (·.2)) := fun d hd d' hd' => by
  rw [List.map_map] at hd hd'
  obtain ⟨x, _, rfl⟩ := List.mem_map.mp hd
  obtain ⟨y, _, rfl⟩ := List.mem_map.mp hd'
  rfl
theorem sortable_strs (l : List Str) : W.Sortable ((l.map fun x => (V.str x, PyData.str x)).map (·.2)) := .inr fun d hd => by
  rw [List.map_map] at hd
  obtain ⟨x, _, rfl⟩ := List.mem_map.mp hd
  exact ⟨fun z => PyData.noConfusion z, fun _ z => PyData.noConfusion z⟩
theorem alike_ints' (l : List Int) : W.AllAlike ((l.map fun x => (V.int x, PyData.int x)).map (·.2)) := fun d hd d' hd' => by
  rw [List.map_map] at hd hd'
  obtain ⟨x, _, rfl⟩ := List.mem_map.mp hd
  obtain ⟨y, _, rfl⟩ := List.mem_map.mp hd'
  rfl
theorem sortable_ints (l : List Int) : W.Sortable ((l.map fun x => (V.int x, PyData.int x)).map (·.2)) := .inr fun d hd => by
  rw [List.map_map] at hd
  obtain ⟨x, _, rfl⟩ := List.mem_map.mp hd
  exact ⟨fun z => PyData.noConfusion z, fun _ z => PyData.noConfusion z⟩
/-- sorted(xs) of texts -/
theorem r_sortS {K : PySem.W.Frag} {H : Hp} {Q : VK} {a : Addr} (l : List Str) (hs : SqL K H a (l.map V.str) ∨ SqT K H a (l.map V.str)) (hl : l.length ≤ 1000) (k : ∀ p, H p = none → Q (.ref p) (upd H p (.lst ((l.mergeSort leS).map V.str)))) : rSortD K [V.ref a] H Q := by
  have e : (l.map fun x => (V.str x, PyData.str x)).map (·.1) = l.map V.str := by rw [List.map_map]; rfl
  refine ⟨⟨a, l.map fun x => (V.str x, PyData.str x), rfl, by rw [e]; exact hs, fun b hb => ?_, alike_strs l, sortable_strs l, by rw [List.length_map]; exact hl, fun b hb => ?_, fun p hp => ?_⟩⟩
  · obtain ⟨x, _, rfl⟩ := List.mem_map.mp hb; exact .str x
  · obtain ⟨x, _, rfl⟩ := List.mem_map.mp hb; exact Nat.zero_le _
  · rw [sort_strs]; exact k p hp
theorem r_sortI {K : PySem.W.Frag} {H : Hp} {Q : VK} {a : Addr} (l : List Int) (hs : SqL K H a (l.map V.int) ∨ SqT K H a (l.map V.int)) (hl : l.length ≤ 1000) (k : ∀ p, H p = none → Q (.ref p) (upd H p (.lst ((l.mergeSort leI).map V.int)))) : rSortD K [V.ref a] H Q := by
  have e : (l.map fun x => (V.int x, PyData.int x)).map (·.1) = l.map V.int := by rw [List.map_map]; rfl
  refine ⟨⟨a, l.map fun x => (V.int x, PyData.int x), rfl, by rw [e]; exact hs, fun b hb => ?_, alike_ints' l, sortable_ints l, by rw [List.length_map]; exact hl, fun b hb => ?_, fun p hp => ?_⟩⟩
  · obtain ⟨x, _, rfl⟩ := List.mem_map.mp hb; exact .int x
  · obtain ⟨x, _, rfl⟩ := List.mem_map.mp hb; exact Nat.zero_le _
  · rw [sort_ints]; exact k p hp
theorem sort_two (a b : Str) : [a, b].mergeSort leS = if leS a b = true then [a, b] else [b, a] := by
  simp [List.mergeSort, List.MergeSort.Internal.splitInTwo, List.merge]
/-- the key of a road -/
def rk (a b : Str) : List Key := if leS a b = true then [.inr a, .inr b] else [.inr b, .inr a]
theorem rk_vs (a b : Str) : ([a, b].mergeSort leS).map V.str = (rk a b).map kV := by
  rw [sort_two]; unfold rk; split <;> rfl
theorem rk_eq {a b c d : Str} (h : rk a b = rk c d) : (a = c ∧ b = d) ∨ (a = d ∧ b = c) := by
  unfold rk at h
  split at h <;> split at h <;> simp only [List.cons.injEq, Sum.inr.injEq, and_true] at h
  · exact .inl h
  · exact .inr h
  · exact .inr ⟨h.2, h.1⟩
  · exact .inl ⟨h.2, h.1⟩
section
variable {X : Cx} (K : PySem.W.Frag)
theorem cr_sortDK (hu : X.A.units + 65 < cLine) (h : X.K = K := by rfl) : CallR X (.builtin "sorted") (rSortD K) := by subst h; exact cr_sortD hu
theorem call_tuple_ofK (h : X.K = K := by rfl) : CallR X (.type "tuple") (fun xs H Q => ∃ p ys, xs = [.ref p] ∧ ((SqL K H p ys ∧ ∀ l, H l = none → Q (.ref l) (upd H l (.tup ys))) ∨ (SqT K H p ys ∧ Q (.ref p) H))) := by subst h; exact call_tuple_of
theorem op_catAK (h : X.K = K := by rfl) : OpR X (binaryOp .Add) (rCatA K) := by subst h; exact op_catA
end
end K36
/-! text KState -/
/-! the state at a minute as an object -/
namespace K36
open PySem PySem.Spec PyProof.Rows L2
section
variable {α β : Type} [DecidableEq α] {f : α → Key} {R : V → β → Prop}
/-- a dict's pairs stand for the pairs l -/
def DRel (f : α → Key) (R : V → β → Prop) (kvs : List (Key × V)) (l : List (α × β)) : Prop := Paired (fun p q => p.1 = f q.1 ∧ R p.2 q.2) kvs l
theorem DRel.some (hf : ∀ a b, f a = f b → a = b) : ∀ {kvs : List (Key × V)} {l : List (α × β)}, DRel f R kvs l → ∀ {k : α} {b : β}, getA l k = some b → ∃ v, valV kvs (f k) = some v ∧ R v b
  | _, _, .nil, k, b, h => by cases h
  | p :: _, q :: _, .cons c r, k, b, h => by
    by_cases e : q.1 = k
    · rw [getA_pos e] at h
      cases h
      exact ⟨p.2, valV_pos (by rw [c.1, e]), c.2⟩
    · rw [getA_neg e] at h
      obtain ⟨v, h1, h2⟩ := DRel.some hf r h
      exact ⟨v, by rw [valV_neg (by rw [c.1]; exact fun z => e (hf _ _ z))]; exact h1, h2⟩
theorem DRel.none (hf : ∀ a b, f a = f b → a = b) : ∀ {kvs : List (Key × V)} {l : List (α × β)}, DRel f R kvs l → ∀ {k : α}, getA l k = none → valV kvs (f k) = none
  | _, _, .nil, k, h => rfl
  | p :: _, q :: _, .cons c r, k, h => by
    by_cases e : q.1 = k
    · rw [getA_pos e] at h; cases h
    · rw [getA_neg e] at h
      rw [valV_neg (by rw [c.1]; exact fun z => e (hf _ _ z))]
      exact DRel.none hf r h
theorem DRel.isSome (hf : ∀ a b, f a = f b → a = b) {kvs : List (Key × V)} {l : List (α × β)} (h : DRel f R kvs l) (k : α) : (valV kvs (f k)).isSome = (getA l k).isSome := by
  cases e : getA l k with
  | none => rw [h.none hf e]; rfl
  | some b =>
    obtain ⟨v, h1, _⟩ := h.some hf e
    rw [h1]; rfl
theorem getA_any {l : List (α × β)} {k : α} : (l.any fun q => decide (q.1 = k)) = (getA l k).isSome := by
  induction l with
  | nil => rfl
  | cons p r ih =>
    rw [List.any_cons]
    by_cases e : p.1 = k
    · rw [getA_pos e, decide_eq_true e]; rfl
    · rw [getA_neg e, decide_eq_false e, Bool.false_or, ih]
theorem DRel.map (hf : ∀ a b, f a = f b → a = b) {k : α} {v : V} {b : β} (hv : R v b) : ∀ {kvs : List (Key × V)} {l : List (α × β)}, DRel f R kvs l → DRel f R (kvs.map fun p => if p.1 = f k then (p.1, v) else p) (l.map fun q => if q.1 = k then (q.1, b) else q)
  | _, _, .nil => .nil
  | p :: _, q :: _, .cons c r => by
    refine .cons ?_ (DRel.map hf hv r)
    show (if p.1 = f k then (p.1, v) else p).1 = f (if q.1 = k then (q.1, b) else q).1 ∧ R (if p.1 = f k then (p.1, v) else p).2 (if q.1 = k then (q.1, b) else q).2
    by_cases e : q.1 = k
    · rw [if_pos e, if_pos (by rw [c.1, e])]
      exact ⟨c.1, hv⟩
    · rw [if_neg e, if_neg (by rw [c.1]; exact fun z => e (hf _ _ z))]
      exact c
theorem DRel.snoc {k : α} {v : V} {b : β} (hv : R v b) : ∀ {kvs : List (Key × V)} {l : List (α × β)}, DRel f R kvs l → DRel f R (kvs ++ [(f k, v)]) (l ++ [(k, b)])
  | _, _, .nil => .cons ⟨rfl, hv⟩ .nil
  | _, _, .cons c r => .cons c (DRel.snoc hv r)
theorem DRel.put (hf : ∀ a b, f a = f b → a = b) {kvs : List (Key × V)} {l : List (α × β)} (h : DRel f R kvs l) {k : α} {v : V} {b : β} (hv : R v b) : DRel f R (putK kvs (f k) v) (putA l k b) := by
  unfold putK putA
  rw [valV_any, getA_any, h.isSome hf]
  split
  · exact h.map hf hv
  · exact h.snoc hv
theorem DRel.mono {S : V → β → Prop} {kvs : List (Key × V)} {l : List (α × β)} (h : DRel f R kvs l) (hm : ∀ v b, R v b → S v b) : DRel f S kvs l := Paired.mapP h fun _ _ c => ⟨c.1, hm _ _ c.2⟩
theorem DRel.length {kvs : List (Key × V)} {l : List (α × β)} (h : DRel f R kvs l) : kvs.length = l.length := Paired.length h
end
theorem inr_inj : ∀ a b : Str, (Sum.inr a : Key) = .inr b → a = b := fun _ _ h => Sum.inr.inj h
theorem inl_inj : ∀ a b : Int, (Sum.inl a : Key) = .inl b → a = b := fun _ _ h => Sum.inl.inj h
section
variable {K : PySem.W.Frag}
def StdR (K : PySem.W.Frag) (H : Hp) (v : V) (s : Stand) : Prop := ∃ t, v = .ref t ∧ SqT K H t s.vs
def TolR (K : PySem.W.Frag) (H : Hp) (v : V) (c : CallD) : Prop := ∃ t, v = .ref t ∧ SqT K H t c.vs
abbrev fN : Str → Key := Sum.inr
abbrev fI : Int → Key := Sum.inl
def stF (sA tA cA : Addr) : List (Str × V) := [("stands", .ref sA), ("told", .ref tA), ("closed", .ref cA)]
/-- the state's object at x with its two dicts and its list, new since H0; all of H0 stays -/
structure StAt (K : PySem.W.Frag) (H0 H : Hp) (x dx sA tA cA : Addr) (sk tk : List (Key × V)) (s : RS) : Prop where
  ext : Ext H0 H
  x0 : H0 x = none
  s0 : H0 sA = none
  t0 : H0 tA = none
  c0 : H0 cA = none
  x : H x = some (.ins (He.ga K "State") dx (stF sA tA cA))
  st : H sA = some (.dK sk)
  td : H tA = some (.dK tk)
  cl : H cA = some (.lst (s.closed.map V.int))
  ne : sA ≠ tA
  sr : DRel fN (StdR K H) sk s.stands
  tr : DRel fI (TolR K H) tk s.told
variable {H0 H : Hp} {x dx sA tA cA : Addr} {sk tk : List (Key × V)} {s : RS}
theorem StAt.grow {H' : Hp} (h : StAt K H0 H x dx sA tA cA sk tk s) (e : Ext H H') : StAt K H0 H' x dx sA tA cA sk tk s :=
  ⟨h.ext.trans e, h.x0, h.s0, h.t0, h.c0, e _ _ h.x, e _ _ h.st, e _ _ h.td, e _ _ h.cl, h.ne, h.sr.mono fun _ _ ⟨t, a, b⟩ => ⟨t, a, SqT.ext b e⟩, h.tr.mono fun _ _ ⟨t, a, b⟩ => ⟨t, a, SqT.ext b e⟩⟩
theorem ext_cell {H1 : Hp} {a : Addr} {u : HO} (e : Ext H0 H1) (h : H0 a = none) : Ext H0 (upd H1 a u) := updE e h
/-- a stand is written -/
theorem StAt.setS (h : StAt K H0 H x dx sA tA cA sk tk s) {e : Str} {t : Addr} {st : Stand} (ht : SqT K H t st.vs) : StAt K H0 (upd H sA (.dK (putK sk (fN e) (.ref t)))) x dx sA tA cA (putK sk (fN e) (.ref t)) tk { s with stands := putA s.stands e st } := by
  have tm : TM K H (upd H sA (.dK (putK sk (fN e) (.ref t)))) := tm_upd h.st (fun _ z => by cases z) (fun _ _ z => by cases z)
  have nx : x ≠ sA := fun z => by have := h.x; rw [z, h.st] at this; cases this
  have nc : cA ≠ sA := fun z => by have := h.cl; rw [z, h.st] at this; cases this
  exact ⟨updE h.ext h.s0, h.x0, h.s0, h.t0, h.c0, (upd_ne nx).trans h.x, upd_same, (upd_ne h.ne.symm).trans h.td, (upd_ne nc).trans h.cl, h.ne, (h.sr.mono fun _ _ ⟨t, a, b⟩ => ⟨t, a, tm _ _ b⟩).put inr_inj ⟨t, rfl, tm _ _ ht⟩, h.tr.mono fun _ _ ⟨t, a, b⟩ => ⟨t, a, tm _ _ b⟩⟩
theorem StAt.setT (h : StAt K H0 H x dx sA tA cA sk tk s) {c : Int} {t : Addr} {cd : CallD} (ht : SqT K H t cd.vs) : StAt K H0 (upd H tA (.dK (putK tk (fI c) (.ref t)))) x dx sA tA cA sk (putK tk (fI c) (.ref t)) { s with told := putA s.told c cd } := by
  have tm : TM K H (upd H tA (.dK (putK tk (fI c) (.ref t)))) := tm_upd h.td (fun _ z => by cases z) (fun _ _ z => by cases z)
  have nx : x ≠ tA := fun z => by have := h.x; rw [z, h.td] at this; cases this
  have nc : cA ≠ tA := fun z => by have := h.cl; rw [z, h.td] at this; cases this
  exact ⟨updE h.ext h.t0, h.x0, h.s0, h.t0, h.c0, (upd_ne nx).trans h.x, (upd_ne h.ne).trans h.st, upd_same, (upd_ne nc).trans h.cl, h.ne, h.sr.mono fun _ _ ⟨t, a, b⟩ => ⟨t, a, tm _ _ b⟩, (h.tr.mono fun _ _ ⟨t, a, b⟩ => ⟨t, a, tm _ _ b⟩).put inl_inj ⟨t, rfl, tm _ _ ht⟩⟩
theorem StAt.setC (h : StAt K H0 H x dx sA tA cA sk tk s) {c : Addr} {xs : List Int} (hc : H c = some (.lst (xs.map V.int))) (hc0 : H0 c = none) : StAt K H0 (upd H x (.ins (He.ga K "State") dx (stF sA tA c))) x dx sA tA c sk tk { s with closed := xs } := by
  have tm : TM K H (upd H x (.ins (He.ga K "State") dx (stF sA tA c))) := tm_upd h.x (fun _ z => by cases z) (fun _ _ z => by cases z)
  have ns : sA ≠ x := fun z => by have := h.st; rw [z, h.x] at this; cases this
  have nt : tA ≠ x := fun z => by have := h.td; rw [z, h.x] at this; cases this
  have nc : c ≠ x := fun z => by rw [z, h.x] at hc; cases hc
  exact ⟨updE h.ext h.x0, h.x0, h.s0, h.t0, hc0, upd_same, (upd_ne ns).trans h.st, (upd_ne nt).trans h.td, (upd_ne nc).trans hc, h.ne, h.sr.mono fun _ _ ⟨t, a, b⟩ => ⟨t, a, tm _ _ b⟩, h.tr.mono fun _ _ ⟨t, a, b⟩ => ⟨t, a, tm _ _ b⟩⟩
theorem StAt.getS (h : StAt K H0 H x dx sA tA cA sk tk s) {e : Str} {st : Stand} (g : getA s.stands e = some st) : ∃ t, valV sk (fN e) = some (.ref t) ∧ SqT K H t st.vs := by
  obtain ⟨v, h1, t, rfl, h2⟩ := h.sr.some inr_inj g
  exact ⟨t, h1, h2⟩
theorem StAt.getT (h : StAt K H0 H x dx sA tA cA sk tk s) {c : Int} {cd : CallD} (g : getA s.told c = some cd) : ∃ t, valV tk (fI c) = some (.ref t) ∧ SqT K H t cd.vs := by
  obtain ⟨v, h1, t, rfl, h2⟩ := h.tr.some inl_inj g
  exact ⟨t, h1, h2⟩
theorem StAt.new {a : Addr} (h : StAt K H0 H x dx sA tA cA sk tk s) (ha : H a = none) : H0 a = none := by
  cases q : H0 a with
  | none => rfl
  | some o => rw [h.ext _ _ q] at ha; cases ha
/-- some state like that -/
def StX (K : PySem.W.Frag) (H0 H : Hp) (x : Addr) (s : RS) : Prop := ∃ dx sA tA cA sk tk, StAt K H0 H x dx sA tA cA sk tk s
end
end K36
/-! text KLamb -/
/-! a lambda held by a name; sorted(xs, key=it) -/
namespace K36
open PySem PySem.Spec PyProof.Rows L2
open NdefX (NScope NF ncx inv_startN startF)
open LamX (Tabs TabS TabB ExtN CodeO)
/-- the object at f is the lambda -/
def LamO (f : Addr) (qual : Str) (params : Arguments) (body : Expr) (scope : Scope) (cl : List (Str × Addr)) (c' : Addr) : HO := .ext fun h => ∃ (pm ctv : Value), h.get? f = some (PySem.W.kla_obj "<lambda>" qual params body scope cl pm c' ctv)
theorem lamO_new {P : Program} {w : World} {H : Hp} {h : Heap} {f c' : Addr} {qual : Str} {params : Arguments} {body : Expr} {scope : Scope} {cl : List (Str × Addr)} {pm ctv : Value} (e : h.get? f = some (PySem.W.kla_obj "<lambda>" qual params body scope cl pm c' ctv)) : ObjOk P w H h f (LamO f qual params body scope cl c') :=
  ⟨⟨pm, ctv, e⟩, ⟨_, e⟩, fun h1 h2 ⟨pm, ctv, e⟩ k => ⟨pm, ctv, k _ e⟩⟩
theorem codeO_ne' {c : Addr} {q : Str} (ps : Array Value) : CodeO c q ≠ .tbl ps := fun z => by
  unfold LamX.CodeO at z
  cases z
/-- a lambda as a value -/
def tLamV (T : List (Addr × Str)) (qual : Str) (params : Arguments) (body : Expr) (scope : Scope) (cl : List (Str × Addr)) : TE := fun _ H Q => Tabs T H ∧ ∀ H1 f c', ExtN H H1 → Tabs T H1 → H f = none → H1 f = some (LamO f qual params body scope cl c') → H1 c' = some (CodeO c' qual) → Q (.ref f) H1
section
variable {X : Cx} {pins : List (Addr × Obj)} {σ : L2.St} {H : Hp} {s : Shared}
theorem tabs_new {T : List (Addr × Str)} {H : Hp} {a : Addr} {o : HO} (t : Tabs T H) (h : H a = none) : Tabs T (upd H a o) := t.ext fun b u e => by rw [upd_ne (ne_of_none e h)]; exact e
theorem pe_lamV {T : List (Addr × Str)} {c P : Addr} {params : Arguments} {body : Expr} {scope : Scope} {pos : Pos} (TB : TabB X.base X.mg c P) (hcode : X.env.code = .ref c)
    (hm : (P, X.env.qual ++ "<lambda>") ∈ T) (hu : ∀ p ∈ T, p.1 = P → p.2 = X.env.qual ++ "<lambda>") (hdef : defaultsOf params X.env = ([], [])) (hfree : ∀ y ∈ scope.names, y.2 = .free → ∃ c, X.env.cells.lookup y.1 = some c) :
    PE X (.Lambda params body scope pos) (tLamV T (X.env.qual ++ "<lambda>") params body scope (cloFrom X.env.cells scope.names [])) := by
  refine ⟨fun pins s σ H Q I h0 => ?_⟩
  obtain ⟨hT, h⟩ := h0
  obtain ⟨ps, hP, ht, ha⟩ := hT _ hm
  refine PySem.W.kla_eval hdef ?_
  have bP : s.heap.BuiltinsAt X.mg P := TB.bm.keeps I.bk
  have hP' : s.heap.get? P = some { cls := .none, data := .fields ps } := I.hok P _ hP
  cases hc : codeAmong pos ps.toList with
  | none =>
    refine PySem.W.kla_makeFunction (mg := X.mg) (c := c) (P := P) (ps := ps) (closure_ok hfree) I.ok.glob (I.mod.glob.keeps I.bk) hcode (TB.code.keeps I.bk) hP' ht hc TB.gP bP fun c' ctv h' tk hx hge hlt hrec htb => ?_
    obtain ⟨c2, oc, vs, t, e2, hoc, hd, hv⟩ := hrec
    cases e2
    have hsz : s.heap.objs.size ≤ h'.objs.size := Nat.le_trans hge (Nat.le_of_lt hlt)
    have nC : H c' = none := I.hok.fresh hge
    have I1 := LamX.inv_table (t' := tk) (more := #[rawInt pos.line, rawInt pos.col, .ref c']) (h' := h') I hP (fun b o hb e => hx b o hb e) htb hge ⟨oc, vs, t, hoc, hd, hv⟩
    have hE : ExtN H (upd (upd H P (.tbl (ps ++ #[rawInt pos.line, rawInt pos.col, .ref c']))) c' (CodeO c' (X.env.qual ++ "<lambda>"))) := fun b o e n => by
      rw [upd_ne (ne_of_none e nC), upd_ne (fun z => n ps (Option.some.inj (e.symm.trans (by rw [z]; exact hP))))]
      exact e
    have eL : (ps ++ #[rawInt pos.line, rawInt pos.col, .ref c']).toList = ps.toList ++ [rawInt pos.line, rawInt pos.col, .ref c'] := by simp
    have T1 : Tabs T (upd (upd H P (.tbl (ps ++ #[rawInt pos.line, rawInt pos.col, .ref c']))) c' (CodeO c' (X.env.qual ++ "<lambda>"))) := fun p hp => by
      by_cases hb : p.1 = P
      · rw [hu p hp hb, hb]
        refine ⟨_, by rw [upd_ne (ne_of_none hP nC), upd_same], by rw [eL]; exact PySem.TriplesOk_snoc _ _ _ _ ht, fun p' cv hcv => ?_⟩
        rw [eL] at hcv
        rcases LamX.among_app _ ht hcv with z | z
        · obtain ⟨c0, e1, e2⟩ := ha p' cv z
          exact ⟨c0, e1, hE _ _ e2 codeO_ne'⟩
        · exact ⟨c', z, upd_same⟩
      · obtain ⟨ps', a1, a2, a3⟩ := hT p hp
        refine ⟨ps', by rw [upd_ne (ne_of_none a1 nC), upd_ne hb]; exact a1, a2, fun p' cv hcv => ?_⟩
        obtain ⟨c0, e1, e2⟩ := a3 p' cv hcv
        exact ⟨c0, e1, hE _ _ e2 codeO_ne'⟩
    have nf : upd (upd H P (.tbl (ps ++ #[rawInt pos.line, rawInt pos.col, .ref c']))) c' (CodeO c' (X.env.qual ++ "<lambda>")) h'.objs.size = none := I1.hok.fresh (Nat.le_refl _)
    have nHf : H h'.objs.size = none := I.hok.fresh hsz
    refine ⟨.ref h'.objs.size, _, I1.laid (t' := tk) (o := LamO h'.objs.size (X.env.qual ++ "<lambda>") params body scope (cloFrom X.env.cells scope.names []) c') (fun b u e => Heap.get?_push_of_some _ e) (Nat.le_refl _) (lamO_new (Heap.get?_push_size _ rfl)), rfl, h _ _ c' (fun b o e n => ?_) (tabs_new T1 nf) nHf upd_same ?_⟩
    · rw [upd_ne (ne_of_none (hE b o e n) nf)]; exact hE b o e n
    · rw [upd_ne (ne_of_none upd_same nf)]; exact upd_same
  | some cv =>
    obtain ⟨c', e, hco⟩ := ha pos cv hc
    subst e
    refine PySem.W.kla_makeFunctionHit (mg := X.mg) (c := c) (P := P) (ps := ps) (closure_ok hfree) I.ok.glob (I.mod.glob.keeps I.bk) hcode (TB.code.keeps I.bk) hP' ht hc bP fun ctv h' tk hx hsz => ?_
    have I0 : Inv X pins σ H { s with heap := h', toks := tk } := I.kept hx
    have nf : H h'.objs.size = none := I.hok.fresh hsz
    refine ⟨.ref h'.objs.size, _, I0.laid (t' := tk) (o := LamO h'.objs.size (X.env.qual ++ "<lambda>") params body scope (cloFrom X.env.cells scope.names []) c') (fun b u e => Heap.get?_push_of_some _ e) (Nat.le_refl _) (lamO_new (Heap.get?_push_size _ rfl)), rfl, h _ _ c' (fun b o e n => ?_) (tabs_new hT nf) nf upd_same ?_⟩
    · rw [upd_ne (ne_of_none e nf)]; exact e
    · rw [upd_ne (ne_of_none hco nf)]; exact hco
end
/-- sorted(xs, key=the lambda): xs instances, the key two of their fields -/
structure rSortKey (K : PySem.W.Frag) (q : Str) (params : Arguments) (body : Expr) (scope : Scope) (f1 f2 : Str) (vs zs : List V) (H : Hp) (Q : VK) : Prop where
  ex : ∃ (a f c' C : Addr) (bs : List (Addr × Int × Int)), vs = [V.ref a] ∧ zs = [V.ref f] ∧ SqL K H a (bs.map fun b => V.ref b.1) ∧ H f = some (LamO f q params body scope [] c') ∧ H c' = some (CodeO c' q) ∧ Cls K C ∧ NoAttr K C f1 ∧ NoAttr K C f2 ∧ bs.length ≤ 1000 ∧
    (∀ b ∈ bs, ∃ dx fs, H b.1 = some (.ins C dx fs) ∧ fs.lookup f1 = some (.int b.2.1) ∧ fs.lookup f2 = some (.int b.2.2)) ∧
    ∀ p, H p = none → Q (.ref p) (upd H p (.lst ((bs.mergeSort fun x y => decide (x.2.1 < y.2.1 ∨ (x.2.1 = y.2.1 ∧ x.2.2 ≤ y.2.2))).map fun b => V.ref b.1)))
theorem each_refs {bs : List (Addr × Int × Int)} : ∀ {us : List Value}, Vals (bs.map fun b => V.ref b.1) us → W.EachIs (fun u b => u = Value.ref b.1) us bs := by
  induction bs with
  | nil => intro us h; cases h; exact .nil
  | cons b bs ih =>
    intro us h
    cases h with
    | cons r t => exact .cons r (ih t)
theorem refs_each {bs : List (Addr × Int × Int)} : ∀ {us : List Value}, W.EachIs (fun u b => u = Value.ref b.1) us bs → Vals (bs.map fun b => V.ref b.1) us := by
  induction bs with
  | nil => intro us h; cases h; exact .nil
  | cons b bs ih =>
    intro us h
    cases h with
    | cons r t => exact .cons r (ih t)
section
variable {X : Cx} {pins : List (Addr × Obj)} {σ : L2.St} {H : Hp} {s : Shared}
/-- the key of one instance -/
theorem key_turn {k : Nat} {A : Around} {f c' a C : Addr} {q x f1 f2 : Str} {params : Arguments} {scope : Scope} {p1 p2 p3 p4 p5 : Pos} {j : Nat} {dx : Addr} {fs : List (Str × V)} {i1 i2 : Int} {h : Heap} {tk : Nat} (hr : Room (k + 1) A) (I : Inv X pins σ H s) (e0 : Env0 X.prog X.w X.K X.mg X.base A X.stack s H) (kp : ∀ b o, s.heap.get? b = some o → h.get? b = some o)
    (S : NScope [x] [x] [] scope) (hb : ∀ (pm cv ctv : Value) (u : Value), bindArgs (PySem.W.kla_fn "<lambda>" q params (.Tuple [.Attribute (.Name x p1) f1 p2, .Attribute (.Name x p3) f2 p4] j p5) scope [] pm cv ctv) ⟨[u], []⟩ = pure [(x, u)])
    (hd1 : (x == ("__debug__" : Str)) = false) (hb1 : ∀ env, attributeBase (.Name x p1) f1 env (eval (.Name x p1) env) = eval (.Name x p1) env) (hb2 : ∀ env, attributeBase (.Name x p3) f2 env (eval (.Name x p3) env) = eval (.Name x p3) env)
    (hf : H f = some (LamO f q params (.Tuple [.Attribute (.Name x p1) f1 p2, .Attribute (.Name x p3) f2 p4] j p5) scope [] c')) (hc : H c' = some (CodeO c' q)) (cl : Cls X.K C) (n1 : NoAttr X.K C f1) (n2 : NoAttr X.K C f2)
    (ha : H a = some (.ins C dx fs)) (l1 : fs.lookup f1 = some (.int i1)) (l2 : fs.lookup f2 = some (.int i2)) :
    wpAny (model X.prog X.w) A (call (.ref f) [.ref a]) (W.KeyPure (.tuple [.int i1, .int i2]) { s with heap := h, toks := tk }) (fun _ _ => False) { s with heap := h, toks := tk } := by
  have I0 : Inv X pins σ H { s with heap := h, toks := tk } := I.kept kp
  obtain ⟨⟨pm, ctv, ho⟩, _⟩ := I0.hok f _ hf
  obtain ⟨⟨oc, cvs, t, hoc, hdc, hvc⟩, _, _⟩ := I0.hok c' _ hc
  have e1 : Env0 X.prog X.w X.K X.mg X.base A X.stack { s with heap := h, toks := tk } H := ⟨e0.frames, I0.env0.mod, I0.env0.bs, I0.env0.bsz, I0.env0.funs, I0.env0.frf, I0.env0.hok, I0.env0.bare⟩
  let F : NF := ⟨"<lambda>", q, params, [], scope, [], c'⟩
  refine wpAny_call (PySem.W.kla_callFunE hr.depth ho rfl S.co S.gen rfl ⟨c', oc, cvs, t, rfl, hoc, hdc, hvc⟩ ?_)
  rw [hb]
  refine wpAny_pure (wpAny_newFunctionEnv S.nocell (fun y hy => ?_) (fun h₁ hns hsb => ⟨I0.nolimit.fresh _ hsb, ?_⟩) S.kind)
  · rw [List.mem_singleton.mp hy]; exact S.par x (by simp)
  have kp1 : ∀ b o, h.get? b = some o → h₁.get? b = some o := fun b o e => hsb.extBut b o (Nat.ne_of_lt (Heap.lt_size e)) (Heap.get?_push_of_some _ e)
  have J : Inv (ncx C8.CX0 X.prog X.w X.K X.mg X.base [x] F f A X.stack { s with heap := h, toks := tk } H C8.E0) [] (startF [x] [V.ref a] []) H { s with heap := h₁, toks := tk + ([(x, Value.ref a)] : List (Str × Value)).length } :=
    inv_startN (F := F) (f := f) (us := [.ref a]) S hr.hd e1 rfl (.cons rfl .nil) ⟨rfl, fun y c e => (by cases e), fun y z c e _ => (by cases e), fun i y e => (by simp at e)⟩ hns kp1
  refine PySem.W.kla_codeExpr ?_
  obtain ⟨mA, O, r, _⟩ := ins_get J.hok ha
  obtain ⟨u1, hu1, ru1⟩ := RelO.some_of (v := .int i1) (o := mA f1) (by rw [← l1]; exact r f1)
  obtain ⟨u2, hu2, ru2⟩ := RelO.some_of (v := .int i2) (o := mA f2) (by rw [← l2]; exact r f2)
  have hkind : (PySem.W.envX q scope h.objs.size f (.ref c') []).kindOf x = some .local := S.par x (by simp)
  have hval : ([(x, Value.ref a)] : List (Str × Value)).reverse.lookup x = some (.ref a) := by simp
  have main : ∀ (E' : Value → Shared → Prop), wpAny (model X.prog X.w) (A.deeper (PySem.W.envX q scope h.objs.size f (.ref c') [])) (eval (.Tuple [.Attribute (.Name x p1) f1 p2, .Attribute (.Name x p3) f2 p4] j p5) (PySem.W.envX q scope h.objs.size f (.ref c') []))
      (W.KeyPure (.tuple [.int i1, .int i2]) { s with heap := h, toks := tk }) E' { s with heap := h₁, toks := tk + ([(x, Value.ref a)] : List (Str × Value)).length } := fun E' => by
    refine wpAny_Tuple_spliced (PyProof.Rows.args_cons (attr_of (hb1 _) (wpAny_Name (wpAny_loadName_local S.kind hkind hns hval ?_) hd1)) rfl)
    refine get_map J.kIn O (cl.get f1) cl.hd n1 hu1 (handed_of ru1) ?_
    refine PyProof.Rows.args_cons (attr_of (hb2 _) (wpAny_Name (wpAny_loadName_local S.kind hkind hns hval ?_) hd1)) rfl
    refine get_map J.kIn O (cl.get f2) cl.hd n2 hu2 (handed_of ru2) ?_
    refine PyProof.Rows.args_nil ⟨by rw [sizeLine_eq]; show 2 ≤ 16777216; decide, ?_⟩
    obtain ⟨t1, rfl⟩ := ru1
    obtain ⟨t2, rfl⟩ := ru2
    exact ⟨_, _, rfl, fun b o e => Heap.get?_push_of_some _ (kp1 b o e), Reads.tuple (as := []) (Heap.get?_push_size _ rfl) rfl rfl (ReadsAll.cons (as := []) (bs := []) (Reads.int _ _) (ReadsAll.cons (as := []) (bs := []) (Reads.int _ _) ReadsAll.nil))⟩
  refine wpAny_mono (main _) (fun v s' hk => ?_) fun _ _ e => e
  exact hk
theorem cr_sortKey {X : Cx} {k : Nat} {q x f1 f2 : Str} {params : Arguments} {scope : Scope} {p1 p2 p3 p4 p5 : Pos} {j : Nat} (hr : Room (k + 3) X.A)
    (S : NScope [x] [x] [] scope) (hb : ∀ (pm cv ctv : Value) (u : Value), bindArgs (PySem.W.kla_fn "<lambda>" q params (.Tuple [.Attribute (.Name x p1) f1 p2, .Attribute (.Name x p3) f2 p4] j p5) scope [] pm cv ctv) ⟨[u], []⟩ = pure [(x, u)])
    (hd1 : (x == ("__debug__" : Str)) = false) (hb1 : ∀ env, attributeBase (.Name x p1) f1 env (eval (.Name x p1) env) = eval (.Name x p1) env) (hb2 : ∀ env, attributeBase (.Name x p3) f2 env (eval (.Name x p3) env) = eval (.Name x p3) env) :
    CallRK X (.builtin "sorted") [Str.ofString "key"] (rSortKey X.K q params (.Tuple [.Attribute (.Name x p1) f1 p2, .Attribute (.Name x p3) f2 p4] j p5) scope f1 f2) := by
  intro pins s σ H xs zs us ws Q I r rz h
  obtain ⟨a, f, c', C, bs, rfl, rfl, hs, hf, hc, cl, n1, n2, hL, hall, hq⟩ := h.ex
  rw [Vals.ref1 r]
  cases rz with
  | cons r1 rr =>
    cases rr
    cases r1
    obtain ⟨its, rv, pl, hz⟩ := I.list hs
    have hlen : its.length = bs.length := by rw [← rv.length, List.length_map]
    have un := hr.un
    refine W.sorted_key_data (b := false) (R := fun u b => u = Value.ref b.1) (fun b : Addr × Int × Int => .tuple [.int b.2.1, .int b.2.2]) pl.isList (each_refs rv) (fun d hd d' hd' => ?_) (.inl fun d hd => ?_) (by rw [sizeLine_eq]; omega) (fun b _ => ?_) (ksk_s1 _ _) (fun _ => ksk_l1 _ _) (fun _ => ksk_t1 _ _)
      (fun v b hv hb' h tk kp => ?_) fun out c h' tk kp _ hD hol eo => ?_
    · obtain ⟨x, _, rfl⟩ := List.mem_map.mp hd
      obtain ⟨y, _, rfl⟩ := List.mem_map.mp hd'
      rfl
    · obtain ⟨x, _, rfl⟩ := List.mem_map.mp hd
      exact ⟨_, _, rfl⟩
    · show X.A.units + 2 + 1 < cLine
      omega
    · subst hv
      obtain ⟨dx, fs, h1, h2, h3⟩ := hall b hb'
      exact key_turn (k := k) (A := X.A.in1.in1) hr.in1.in1 I I.env0.in1.in1 kp S hb hd1 hb1 hb2 hf hc cl n1 n2 h1 h2 h3
    · rw [W.dataLe_ii (β := Addr × Int × Int) (fun b => b.2.1) (fun b => b.2.2)] at eo
      refine ⟨.ref (s.heap.objs.size + 1), upd H (s.heap.objs.size + 1) (.lst ((bs.mergeSort fun x y => decide (x.2.1 < y.2.1 ∨ (x.2.1 = y.2.1 ∧ x.2.2 ≤ y.2.2))).map fun b => V.ref b.1)), I.laid (t' := tk) kp (Nat.le_succ _) ⟨?_, out, c, refs_each eo, hD⟩, rfl, hq _ (I.hok.fresh (Nat.le_succ _))⟩
      rw [List.length_map, (List.mergeSort_perm _ _).length_eq, sizeLine_eq]; omega
end
end K36
/-! text KLibM -/
/-! defs with defaults, methods called with keywords -/
namespace K36
open PySem PySem.Spec PyProof.Rows L2
section
variable {P : Program} {w : World} {K : PySem.W.Frag} {mg : Str → Option Value} {base : Heap}
/-- a method by positional values and keywords -/
structure MetN (P : Program) (w : World) (K : PySem.W.Frag) (mg : Str → Option Value) (base : Heap) (k : Nat) (C : Addr) (m : Str) (sp : Sp) (n : Nat) (ks : List Str) (gV : List V → List V → List V) : Prop where
  ex : ∃ (f : Addr) (fd : FuncData) (ps : List Str) (g : List Value → List Value → List Value), Cls K C ∧ Meth K C m f ∧ FnOk P w K mg base C8.CX0 k f fd ps sp ∧ KBn K fd ps n ks g gV
structure MakN (P : Program) (w : World) (K : PySem.W.Frag) (mg : Str → Option Value) (base : Heap) (k : Nat) (x : Str) (C : Addr) (sp : Sp) (n : Nat) (ks : List Str) (gV : List V → List V → List V) : Prop where
  ex : ∃ (f : Addr) (fd : FuncData) (ps : List Str) (g : List Value → List Value → List Value), Mk K C f ∧ FnOk P w K mg base C8.CX0 k f fd ps sp ∧ mg x = some (.ref C) ∧ KBn K fd ps (n + 1) ks g gV
theorem fn_mk {m qual : Str} {pa : Arguments} {bd : List Stmt} {sc : Scope} {dvs : List V} {f : Addr} {fd : FuncData} {N ps : List Str} {k : Nat} {sp : Sp} (F : FunD K m qual pa bd sc dvs [] f fd) (S : FnScope N ps sc) (len : ∀ vs H Q E, sp vs H Q E → vs.length = ps.length)
    (hbody : ∀ (cdv : Value) (A : Around) (outer : List Env) (s : Shared) (H : Hp) (vs : List V) (Q : VK) (E : XK), Room k (A.deeper (envOfC qual sc s.heap.objs.size f cdv)) → sp vs H Q E →
      ∃ t, PSs (cxOf C8.CX0 P w K mg base N qual sc f cdv A outer s H E).nox bd t ∧ t { nx := fun _ H' => Q .non H', rt := Q } (start N vs) H) : FnOk P w K mg base C8.CX0 (k + 1) f fd ps sp := by
  refine F.ok S len fun cdv A outer s H vs Q E hr h => ?_
  obtain ⟨t, a, b⟩ := hbody cdv A outer s H vs Q E hr h
  exact ⟨t, a.nox, b⟩
/-- the promise of a method with defaults, ahead of how it is called -/
structure FnM (P : Program) (w : World) (K : PySem.W.Frag) (mg : Str → Option Value) (base : Heap) (k : Nat) (m qual : Str) (pa : Arguments) (bd : List Stmt) (sc : Scope) (dvs : List V) (f : Addr) (ps : List Str) (sp : Sp) : Prop where
  ex : ∃ fd, FunD K m qual pa bd sc dvs [] f fd ∧ FnOk P w K mg base C8.CX0 k f fd ps sp
variable {m qual : Str} {pa : Arguments} {bd : List Stmt} {sc : Scope} {dvs : List V} {f C : Addr} {N ps : List Str} {k : Nat} {sp : Sp}
theorem fnM_mk (F : ∃ fd, FunD K m qual pa bd sc dvs [] f fd) (S : FnScope N ps sc) (len : ∀ vs H Q E, sp vs H Q E → vs.length = ps.length)
    (hbody : ∀ (cdv : Value) (A : Around) (outer : List Env) (s : Shared) (H : Hp) (vs : List V) (Q : VK) (E : XK), Room k (A.deeper (envOfC qual sc s.heap.objs.size f cdv)) → sp vs H Q E →
      ∃ t, PSs (cxOf C8.CX0 P w K mg base N qual sc f cdv A outer s H E).nox bd t ∧ t { nx := fun _ H' => Q .non H', rt := Q } (start N vs) H) : FnM P w K mg base (k + 1) m qual pa bd sc dvs f ps sp := by
  obtain ⟨fd, F⟩ := F
  exact ⟨fd, F, fn_mk F S len hbody⟩
/-- called with n positional values, the defaults behind the first j fill up -/
theorem FnM.met (M : FnM P w K mg base k m qual pa bd sc dvs f ps sp) (c : Cls K C) (me : Meth K C m f) (n j : Nat) (hd : dvs ≠ []) (hn : n + (dvs.length - j) = ps.length)
    (h : ∀ (T : Addr) (kV doc pm : Value) (an : Option Addr) (cdv ct : Value) (us its : List Value), us.length = n → its.length = dvs.length →
      ∃ k, bindArgs (PySem.W.fnOf m qual pa bd sc (.ref T) kV doc pm an cdv ct) ⟨us, []⟩ = seqItems? (.ref T) >>= k ∧ k (some its.toArray) = pure (ps.zip (us ++ its.drop j))) : C8.Met P w K mg base k C m sp (dvs.drop j) := by
  obtain ⟨fd, F, O⟩ := M.ex
  obtain ⟨ds, v, b⟩ := F.binds1 n j hd hn h
  exact ⟨f, fd, ps, ds, c, me, O, b, v⟩
/-- called with n positional values and the keywords ks that fill the last parameters -/
theorem FnM.metN (M : FnM P w K mg base k m qual pa bd sc dvs f ps sp) (c : Cls K C) (me : Meth K C m f) (n : Nat) (ks : List Str) (hd : dvs ≠ [])
    (h : ∀ (T : Addr) (kV doc pm : Value) (an : Option Addr) (cdv ct : Value) (us its ws : List Value), us.length = n → its.length = dvs.length → ws.length = ks.length →
      ∃ k, bindArgs (PySem.W.fnOf m qual pa bd sc (.ref T) kV doc pm an cdv ct) ⟨us, ks.zip ws⟩ = seqItems? (.ref T) >>= k ∧ k (some its.toArray) = pure (ps.zip (us ++ ws))) : MetN P w K mg base k C m sp n ks (fun vs zs => vs ++ zs) := by
  obtain ⟨fd, F, O⟩ := M.ex
  obtain ⟨its, b⟩ := F.kbindsD n ks (fun vs _ zs => vs ++ zs) hd (fun r _ z => r.append z) h
  exact ⟨f, fd, ps, _, c, me, O, b⟩
theorem FnM.makN {x : Str} (M : FnM P w K mg base k m qual pa bd sc dvs f ps sp) (mk : Mk K C f) (hm : mg x = some (.ref C)) (n : Nat) (ks : List Str) (hd : dvs ≠ [])
    (h : ∀ (T : Addr) (kV doc pm : Value) (an : Option Addr) (cdv ct : Value) (us its ws : List Value), us.length = n + 1 → its.length = dvs.length → ws.length = ks.length →
      ∃ k, bindArgs (PySem.W.fnOf m qual pa bd sc (.ref T) kV doc pm an cdv ct) ⟨us, ks.zip ws⟩ = seqItems? (.ref T) >>= k ∧ k (some its.toArray) = pure (ps.zip (us ++ ws))) : MakN P w K mg base k x C sp n ks (fun vs zs => vs ++ zs) := by
  obtain ⟨fd, F, O⟩ := M.ex
  obtain ⟨its, b⟩ := F.kbindsD (n + 1) ks (fun vs _ zs => vs ++ zs) hd (fun r _ z => r.append z) h
  exact ⟨f, fd, ps, _, mk, O, hm, b⟩
end
def tMethN (C : Addr) (m : Str) (n l : Nat) (sp : Sp) (gV : List V → List V → List V) (E : XK) (ta : TE) (t tk : TA) : TE := fun σ H Q => ta σ H fun x H1 => ∃ a dx fs, x = .ref a ∧ H1 a = some (.ins C dx fs) ∧ fs.lookup m = none ∧
  t σ H1 fun vs H2 => tk σ H2 fun zs H3 => (x :: vs).length = n ∧ zs.length = l ∧ sp (gV (x :: vs) zs) H3 Q E
section
variable {X : Cx} {o e : Expr} {es : List Expr} {m : Str} {pos apos p : Pos} {ta : TE} {t tk : TA} {k n j : Nat} {C : Addr} {sp : Sp} {ks : List Str} {gV : List V → List V → List V} {kws : List Keyword} {x : Str}
theorem pe_mtN {pl : Sem Bool} (c : MetN X.prog X.w X.K X.mg X.base k C m sp n ks gV) (hr : Room j X.A) (hk : k ≤ j) (he : PE X o ta) (ha : PA X (e :: es) t) (hkw : PK X kws tk)
    (hall : (backToKw pos (keywordEach kws X.env)).all (·.1.isSome) = true := by rfl) (hks : (backToKw pos (keywordEach kws X.env)).filterMap (·.1) = ks := by rfl)
    (hst : starEach (e :: es) X.env = (false, eval e X.env) :: starEach es X.env := by rfl) (hpl : ((backTo pos (starEach (e :: es) X.env)).any (·.1) || (backToKw pos (keywordEach kws X.env)).any (·.1.isNone)) = false := by rfl)
    (ht : eval (.Call (.Attribute o m apos) (e :: es) kws pos) X.env = (do
      let ov ← eval o X.env
      standAt apos.atName
      let (f, first) ← holding [ov] (getMethod ov m pl)
      callWith pos f first (backTo pos (starEach (e :: es) X.env)) (backToKw pos (keywordEach kws X.env))) := by rfl) :
    PE X (.Call (.Attribute o m apos) (e :: es) kws pos) (tMethN C m n ks.length sp gV C8.E0 ta t tk) := by
  obtain ⟨f, fd, ps, g, cl, hm, F, hb⟩ := c.ex
  refine ⟨fun pins s σ H Q I h => ?_⟩
  refine PySem.W.methodCall_KW (pl := pl) (thn (he.run pins s σ H _ I h) fun u s1 ⟨x, H1, I1, rx, a, dx, fs, ex, ea, l, q⟩ => ?_) ht
  subst ex
  obtain rfl : u = Value.ref a := rx
  refine getmeth_ok I1 ea cl hm l ?_
  refine PySem.W.callWith_KW (first := [.ref a]) (h₀ := X.base) I.ok.mod.kin hm.kp hall (thn (ha.run pos pins s1 σ H1 _ I1 q) fun us s2 ⟨vs, H2, I2, r, q2⟩ => ?_) hpl hst
  refine thn (hkw.run pos pins s2 σ H2 _ I2 q2) fun ws s3 ⟨zs, H3, I3, rz, l1, l2, q3⟩ => ⟨I3.kIn, ?_⟩
  rw [hks]
  exact run_fnN (us := .ref a :: us) (vs := .ref a :: vs) F (hr.mono hk) hb C8.pass0 I3 (.cons rfl r) rz l1 l2 q3
theorem pe_mkN (c : MakN X.prog X.w X.K X.mg X.base k x C sp n ks gV) (hr : Room j X.A) (hk : k + 1 ≤ j) (hg : Gl X x) (ha : PA X (e :: es) t) (hkw : PK X kws tk)
    (hall : (backToKw pos (keywordEach kws X.env)).all (·.1.isSome) = true := by rfl) (hks : (backToKw pos (keywordEach kws X.env)).filterMap (·.1) = ks := by rfl)
    (hdb : (x == ("__debug__" : Str)) = false := by decide) (he : starEach (e :: es) X.env = (false, eval e X.env) :: starEach es X.env := by rfl)
    (hpl : ((backTo pos (starEach (e :: es) X.env)).any (·.1) || (backToKw pos (keywordEach kws X.env)).any (·.1.isNone)) = false := by rfl) :
    PE X (.Call (.Name x p) (e :: es) kws pos) (tMakeN C n ks.length sp gV C8.E0 t tk) := by
  obtain ⟨f, fd, ps, g, M, F, hm, hb⟩ := c.ex
  exact pe_makeN M F (hr.mono hk) hg hm hb C8.pass0 ha hkw hall hks hdb he hpl
end
end K36
/-! text KSort2 -/
/-! sorted(xs) of tuples -/
namespace K36
open PySem PySem.Spec PyProof.Rows L2
def leR (a b : List V) : Bool := W.dataLe false (fun r : List V => dR r) a b
theorem zip_fst {α β : Type} : ∀ {l : List α} {m : List β}, l.length = m.length → (l.zip m).map (·.1) = l
  | [], [], _ => rfl
  | a :: l, b :: m, h => by rw [List.zip_cons_cons, List.map_cons, zip_fst (by simpa using h)]
  | [], _ :: _, h => by simp at h
  | _ :: _, [], h => by simp at h
theorem zip_snd {α β : Type} : ∀ {l : List α} {m : List β}, l.length = m.length → (l.zip m).map (·.2) = m
  | [], [], _ => rfl
  | a :: l, b :: m, h => by rw [List.zip_cons_cons, List.map_cons, zip_snd (by simpa using h)]
  | [], _ :: _, h => by simp at h
  | _ :: _, [], h => by simp at h
theorem zip_paired {α β : Type} {F : α → β → Prop} : ∀ {l : List α} {m : List β}, Paired F l m → ∀ z ∈ l.zip m, F z.1 z.2
  | _, _, .nil, z, hz => by simp at hz
  | _, _, .cons f r, z, hz => by
    rw [List.zip_cons_cons] at hz
    rcases List.mem_cons.mp hz with e | e
    · rw [e]; exact f
    · exact zip_paired r z e
theorem paired_zip {α β : Type} {F : α → β → Prop} : ∀ {zs : List (α × β)}, (∀ z ∈ zs, F z.1 z.2) → Paired F (zs.map (·.1)) (zs.map (·.2))
  | [], _ => .nil
  | z :: zs, h => .cons (h z (List.mem_cons_self ..)) (paired_zip fun y hy => h y (List.mem_cons_of_mem _ hy))
theorem r_sortR {K : PySem.W.Frag} {H : Hp} {Q : VK} {a : Addr} (ls : List Addr) (rows : List (List V)) (hs : SqL K H a (ls.map V.ref) ∨ SqT K H a (ls.map V.ref)) (hr : Rows K H ls rows) (hv : ∀ r ∈ rows, r.all isV = true) (hal : ∀ r ∈ rows, ∀ r' ∈ rows, W.alike (dR r) (dR r') = true) (hne : ∀ r ∈ rows, r ≠ []) (hl : rows.length ≤ 1000)
    (k : ∀ p ls', H p = none → Rows K H ls' (rows.mergeSort leR) → Q (.ref p) (upd H p (.lst (ls'.map V.ref)))) : rSortD K [V.ref a] H Q := by
  have hlen : ls.length = rows.length := hr.length
  have hz := zip_paired hr
  have em : ∀ z ∈ ls.zip rows, z.2 ∈ rows := fun z h => by
    have : z.2 ∈ (ls.zip rows).map (·.2) := List.mem_map_of_mem h
    rwa [zip_snd hlen] at this
  have e1 : ((ls.zip rows).map fun z => (V.ref z.1, dR z.2)).map (·.1) = ls.map V.ref := by
    rw [List.map_map, show ((fun b : V × PyData => b.1) ∘ fun z : Addr × List V => (V.ref z.1, dR z.2)) = V.ref ∘ (·.1) from rfl, ← List.map_map, zip_fst hlen]
  refine ⟨⟨a, (ls.zip rows).map fun z => (V.ref z.1, dR z.2), rfl, by rw [e1]; exact hs, fun b hb => ?_, fun d hd d' hd' => ?_, .inl fun d hd => ?_, ?_, fun b hb => ?_, fun p hp => ?_⟩⟩
  · obtain ⟨z, h, rfl⟩ := List.mem_map.mp hb
    exact dp_row (hz z h) (hv _ (em z h))
  · rw [List.map_map] at hd hd'
    obtain ⟨z, h, rfl⟩ := List.mem_map.mp hd
    obtain ⟨z', h', rfl⟩ := List.mem_map.mp hd'
    exact hal _ (em z h) _ (em z' h')
  · rw [List.map_map] at hd
    obtain ⟨z, h, rfl⟩ := List.mem_map.mp hd
    have := hne _ (em z h)
    show ∃ x r, PyData.tuple (z.2.map dV) = _
    cases e : z.2 with
    | nil => exact absurd e this
    | cons v r => exact ⟨_, _, rfl⟩
  · rw [List.length_map, List.length_zip]; omega
  · obtain ⟨z, h, rfl⟩ := List.mem_map.mp hb
    show PyData.depthAll (z.2.map dV) + 1 ≤ 60
    rw [depth_v (hv _ (em z h))]; decide
  · rw [sort_enc (fun z : Addr × List V => V.ref z.1) (fun z => dR z.2) (le := fun z z' => leR z.2 z'.2) _ (fun _ _ _ _ => rfl)]
    have e2 : ((ls.zip rows).mergeSort fun z z' => leR z.2 z'.2).map (·.2) = rows.mergeSort leR := by
      rw [List.map_mergeSort (s := leR) (f := fun z : Addr × List V => z.2) (fun _ _ _ _ => rfl), zip_snd hlen]
    have e3 := k p (((ls.zip rows).mergeSort fun z z' => leR z.2 z'.2).map (·.1)) hp (by
      rw [← e2]
      exact paired_zip fun z h => hz z ((List.mergeSort_perm _ _).mem_iff.mp h))
    rw [List.map_map] at e3
    exact e3
end K36
/-! text KRoom2 -/
/-! a room as plain data and as an object -/
namespace K36
open PySem PySem.Spec PyProof.Rows L2
open LamX (Tabs TabS TabB ExtN CodeO)
abbrev RR := RowD × Int
def rws (rr : List RR) : List RowD := rr.map (·.1)
def livingR (rr : List RR) (wo : Int) : List RR := rr.filter fun q => !decide (q.1.n ∈ deadOf (rws rr)) && decide (q.1.n ≠ wo)
def uptoR (l : List RR) (at_ : Int) : List RR := l.filter fun q => decide (q.1.at_ ≤ at_)
def leQ (x y : RR) : Bool := decide (x.1.at_ < y.1.at_ ∨ (x.1.at_ = y.1.at_ ∧ x.1.n ≤ y.1.n))
def stepR (acc : RS × List (Int × Str)) (q : RR) : RS × List (Int × Str) :=
  ((doneP acc.1 q.1.deed q.2 q.1.at_).2, if (doneP acc.1 q.1.deed q.2 q.1.at_).1 = "" then acc.2 else acc.2 ++ [(q.1.n, (doneP acc.1 q.1.deed q.2 q.1.at_).1)])
def playR (es : List Eng) (l : List RR) : RS × List (Int × Str) := l.foldl stepR (initS es, [])
def orderR (rr : List RR) (at_ wo : Int) : List RR := (uptoR (livingR rr wo) at_).mergeSort leQ
def replayP (es : List Eng) (rr : List RR) (at_ wo : Int) : RS × List (Int × Str) := playR es (orderR rr at_ wo)
def rwF (r : RowD) : List (Str × V) := [("number", .int r.n), ("written", .int r.written), ("at", .int r.at_), ("deed", .ref r.dA), ("right", .int r.right)]
def rmF (go E kA fA dA : Addr) : List (Str × V) := [("ground", .ref go), ("engines", .ref E), ("kept", .ref kA), ("first", .ref fA), ("dead", .ref dA)]
def RowO (K : PySem.W.Frag) (H : Hp) (p : Addr) (r : RowD) : Prop := (∃ dx, H p = some (.ins (He.ga K "Row") dx (rwF r))) ∧ SqT K H r.dA r.deed.vs
/-- the pairs of the dict that tells a row's first number -/
def fstK (rr : List RR) : List (Key × V) := rr.map fun q => (.inl q.1.n, .int q.2)
def dedK (rr : List RR) : List (Key × V) := (deadOf (rws rr)).map fun x => (.inl x, .bl true)
structure RoomC where
  ro : Addr
  dx : Addr
  kA : Addr
  fA : Addr
  dA : Addr
  go : Addr
  D : Addr
structure RoomAt (K : PySem.W.Frag) (T : List (Addr × Str)) (H : Hp) (c : RoomC) (A : Adr) (g : Gd) (es : List Eng) (ps : List Addr) (rr : List RR) : Prop where
  x : H c.ro = some (.ins (He.ga K "Room") c.dx (rmF c.go A.E c.kA c.fA c.dA))
  kept : H c.kA = some (.lst (ps.map V.ref))
  rows : Paired (RowO K H) ps (rws rr)
  first : H c.fA = some (.dK (fstK rr))
  dead : H c.dA = some (.dK (dedK rr))
  ne : c.fA ≠ c.dA
  gobj : ∃ dx, H c.go = some (.ins (He.ga K "Ground") dx [("risks", .ref c.D), ("places", .ref A.P), ("roads", .ref A.R), ("stations", .ref A.S)])
  ga : GAt K H A g
  ea : EAt K H A es
  tabs : Tabs T H
/-- what is so of a room's rows -/
structure RoomP (g : Gd) (es : List Eng) (rr : List RR) : Prop where
  gk : GOk g
  ek : EOk g.stations es
  bk : Book g es (rws rr)
  len : rr.length ≤ 60
theorem tbl_ne_ins {C dx : Addr} {fs : List (Str × V)} (ps : Array Value) : HO.ins C dx fs ≠ .tbl ps := fun z => by cases z
theorem ExtN.t {K : PySem.W.Frag} {H H' : Hp} {a : Addr} {xs : List V} (e : ExtN H H') (h : SqT K H a xs) : SqT K H' a xs := by
  rcases h with (h | ⟨o, h⟩) | h
  · exact .inl (.inl (e _ _ h fun _ z => by cases z))
  · exact .inl (.inr ⟨o, e _ _ h fun _ z => by cases z⟩)
  · exact .inr h
theorem ExtN.tm {K : PySem.W.Frag} {H H' : Hp} (e : ExtN H H') : TM K H H' := fun _ _ h => ExtN.t e h
theorem RowO.en {K : PySem.W.Frag} {H H' : Hp} {p : Addr} {r : RowD} (h : RowO K H p r) (e : ExtN H H') : RowO K H' p r :=
  ⟨let ⟨dx, q⟩ := h.1; ⟨dx, e _ _ q fun _ z => by cases z⟩, ExtN.t e h.2⟩
theorem extN_of {H H' : Hp} (e : Ext H H') : ExtN H H' := fun b o h _ => e b o h
theorem RoomAt.grow {K : PySem.W.Frag} {T : List (Addr × Str)} {H H' : Hp} {c : RoomC} {A : Adr} {g : Gd} {es : List Eng} {ps : List Addr} {rr : List RR} (h : RoomAt K T H c A g es ps rr) (e : ExtN H H') (t : Tabs T H') : RoomAt K T H' c A g es ps rr :=
  ⟨e _ _ h.x fun _ z => (by cases z), e _ _ h.kept fun _ z => (by cases z), Paired.mapP h.rows fun _ _ q => q.en e, e _ _ h.first fun _ z => (by cases z), e _ _ h.dead fun _ z => (by cases z), h.ne, let ⟨dx, q⟩ := h.gobj; ⟨dx, e _ _ q fun _ z => by cases z⟩, h.ga.tm (ExtN.tm e), h.ea.tm (ExtN.tm e), t⟩
theorem RoomAt.ext {K : PySem.W.Frag} {T : List (Addr × Str)} {H H' : Hp} {c : RoomC} {A : Adr} {g : Gd} {es : List Eng} {ps : List Addr} {rr : List RR} (h : RoomAt K T H c A g es ps rr) (e : Ext H H') : RoomAt K T H' c A g es ps rr :=
  h.grow (extN_of e) (h.tabs.ext e)
theorem rws_len (rr : List RR) : (rws rr).length = rr.length := List.length_map ..
theorem RoomAt.at {K : PySem.W.Frag} {T : List (Addr × Str)} {H : Hp} {c : RoomC} {A : Adr} {g : Gd} {es : List Eng} {ps : List Addr} {rr : List RR} (h : RoomAt K T H c A g es ps rr) {i : Nat} {p : Addr} (hp : ps[i]? = some p) : ∃ q, rr[i]? = some q ∧ RowO K H p q.1 := by
  obtain ⟨r, hr, hT⟩ := Paired.at' h.rows hp
  unfold rws at hr
  rw [List.getElem?_map] at hr
  cases e : rr[i]? with
  | none => rw [e] at hr; cases hr
  | some q => rw [e] at hr; cases hr; exact ⟨q, rfl, hT⟩
theorem RoomAt.plen {K : PySem.W.Frag} {T : List (Addr × Str)} {H : Hp} {c : RoomC} {A : Adr} {g : Gd} {es : List Eng} {ps : List Addr} {rr : List RR} (h : RoomAt K T H c A g es ps rr) : ps.length = rr.length := by
  have := Paired.length h.rows
  rwa [rws_len] at this
/-- the code object's address of the def at f -/
def codeRef : Value → Option Addr
  | .ref c => some c
  | _ => none
def fcode (K : PySem.W.Frag) (f : Addr) : Option Addr := match K.lookup f with
  | some ⟨_, _, .func fd, _⟩ => codeRef fd.code
  | _ => none
/-- what the making of lambdas in the def at f asks -/
structure LamF (K : PySem.W.Frag) (mg : Str → Option Value) (base : Heap) (T : List (Addr × Str)) (f : Addr) (lq : Str) : Prop where
  ex : ∃ c P, fcode K f = some c ∧ TabB base mg c P ∧ (P, lq) ∈ T ∧ ∀ p ∈ T, p.1 = P → p.2 = lq
theorem fnM_mkC {P : Program} {w : World} {K : PySem.W.Frag} {mg : Str → Option Value} {base : Heap} {m qual : Str} {pa : Arguments} {bd : List Stmt} {sc : Scope} {dvs : List V} {f c : Addr} {N ps : List Str} {k : Nat} {sp : Sp} (F : ∃ fd, FunD K m qual pa bd sc dvs [] f fd) (hc : fcode K f = some c) (S : FnScope N ps sc) (len : ∀ vs H Q E, sp vs H Q E → vs.length = ps.length)
    (hbody : ∀ (A : Around) (outer : List Env) (s : Shared) (H : Hp) (vs : List V) (Q : VK) (E : XK), Room k (A.deeper (envOfC qual sc s.heap.objs.size f (.ref c))) → sp vs H Q E →
      ∃ t, PSs (cxOf C8.CX0 P w K mg base N qual sc f (.ref c) A outer s H E).nox bd t ∧ t { nx := fun _ H' => Q .non H', rt := Q } (start N vs) H) : FnM P w K mg base (k + 1) m qual pa bd sc dvs f ps sp := by
  obtain ⟨fd, F⟩ := F
  refine ⟨fd, F, ?_⟩
  obtain ⟨oc, od, dV, kV, doc, pm, an, cdv, ct, osl, rfl, lk, hcd, _, _⟩ := F.ex
  have e : cdv = .ref c := by
    unfold fcode at hc
    rw [lk] at hc
    have hc : codeRef cdv = some c := hc
    unfold codeRef at hc
    split at hc
    · cases hc; rfl
    · cases hc
  subst e
  refine fn_of lk hcd S len fun A outer s H vs Q E hr hsp => ?_
  obtain ⟨t, a, b⟩ := hbody A outer s H vs Q E hr hsp
  exact ⟨t, a.nox, b⟩
end K36
/-! text KHeadA -/
namespace K36
open PySem L2
def d_is_whole : He.DefD := ⟨("is_whole", none), "is_whole", "is_whole", defArgs s_is_whole, defBody s_is_whole, defScope s_is_whole, [], []⟩
def d_is_name : He.DefD := ⟨("is_name", none), "is_name", "is_name", defArgs s_is_name, defBody s_is_name, defScope s_is_name, [], []⟩
def d_is_one_of : He.DefD := ⟨("is_one_of", none), "is_one_of", "is_one_of", defArgs s_is_one_of, defBody s_is_one_of, defScope s_is_one_of, [], []⟩
def d_is_tuple_of : He.DefD := ⟨("is_tuple_of", none), "is_tuple_of", "is_tuple_of", defArgs s_is_tuple_of, defBody s_is_tuple_of, defScope s_is_tuple_of, [], []⟩
def d_NotDone_init : He.DefD := ⟨("NotDone", some "__init__"), "__init__", "NotDone.__init__", defArgs s_NotDone_init, defBody s_NotDone_init, defScope s_NotDone_init, [], []⟩
def d_are_unlike : He.DefD := ⟨("are_unlike", none), "are_unlike", "are_unlike", defArgs s_are_unlike, defBody s_are_unlike, defScope s_are_unlike, [], []⟩
def d_is_engine : He.DefD := ⟨("is_engine", none), "is_engine", "is_engine", defArgs s_is_engine, defBody s_is_engine, defScope s_is_engine, [], []⟩
def d_are_engines : He.DefD := ⟨("are_engines", none), "are_engines", "are_engines", defArgs s_are_engines, defBody s_are_engines, defScope s_are_engines, [], []⟩
def d_is_kind : He.DefD := ⟨("is_kind", none), "is_kind", "is_kind", defArgs s_is_kind, defBody s_is_kind, defScope s_is_kind, [], []⟩
def d_is_place : He.DefD := ⟨("is_place", none), "is_place", "is_place", defArgs s_is_place, defBody s_is_place, defScope s_is_place, [], []⟩
def d_places_fault : He.DefD := ⟨("places_fault", none), "places_fault", "places_fault", defArgs s_places_fault, defBody s_places_fault, defScope s_places_fault, [], []⟩
def d_is_road : He.DefD := ⟨("is_road", none), "is_road", "is_road", defArgs s_is_road, defBody s_is_road, defScope s_is_road, [], []⟩
def d_roads_fault : He.DefD := ⟨("roads_fault", none), "roads_fault", "roads_fault", defArgs s_roads_fault, defBody s_roads_fault, defScope s_roads_fault, [], []⟩
def d_stations_fault : He.DefD := ⟨("stations_fault", none), "stations_fault", "stations_fault", defArgs s_stations_fault, defBody s_stations_fault, defScope s_stations_fault, [], []⟩
def d_need : He.DefD := ⟨("need", none), "need", "need", defArgs s_need, defBody s_need, defScope s_need, [], []⟩
def d_plain_roads : He.DefD := ⟨("plain_roads", none), "plain_roads", "plain_roads", defArgs s_plain_roads, defBody s_plain_roads, defScope s_plain_roads, [], []⟩
def d_Ground_init : He.DefD := ⟨("Ground", some "__init__"), "__init__", "Ground.__init__", defArgs s_Ground_init, defBody s_Ground_init, defScope s_Ground_init, [], []⟩
def d_Ground_eq : He.DefD := ⟨("Ground", some "__eq__"), "__eq__", "Ground.__eq__", defArgs s_Ground_eq, defBody s_Ground_eq, defScope s_Ground_eq, [], []⟩
def d_is_sort : He.DefD := ⟨("is_sort", none), "is_sort", "is_sort", defArgs s_is_sort, defBody s_is_sort, defScope s_is_sort, [], []⟩
def d_fault : He.DefD := ⟨("fault", none), "fault", "fault", defArgs s_fault, defBody s_fault, defScope s_fault, [], []⟩
def d_shown : He.DefD := ⟨("shown", none), "shown", "shown", defArgs s_shown, defBody s_shown, defScope s_shown, [], []⟩
def d_text_of : He.DefD := ⟨("text_of", none), "text_of", "text_of", defArgs s_text_of, defBody s_text_of, defScope s_text_of, [], []⟩
def d_Row_init : He.DefD := ⟨("Row", some "__init__"), "__init__", "Row.__init__", defArgs s_Row_init, defBody s_Row_init, defScope s_Row_init, [.int 0], []⟩
def d_Row_five : He.DefD := ⟨("Row", some "five"), "five", "Row.five", defArgs s_Row_five, defBody s_Row_five, defScope s_Row_five, [], []⟩
def d_Row_eq : He.DefD := ⟨("Row", some "__eq__"), "__eq__", "Row.__eq__", defArgs s_Row_eq, defBody s_Row_eq, defScope s_Row_eq, [], []⟩
def d_Row_str : He.DefD := ⟨("Row", some "__str__"), "__str__", "Row.__str__", defArgs s_Row_str, defBody s_Row_str, defScope s_Row_str, [], []⟩
def d_State_init : He.DefD := ⟨("State", some "__init__"), "__init__", "State.__init__", defArgs s_State_init, defBody s_State_init, defScope s_State_init, [], []⟩
def d_State_is_open : He.DefD := ⟨("State", some "is_open"), "is_open", "State.is_open", defArgs s_State_is_open, defBody s_State_is_open, defScope s_State_is_open, [], []⟩
def d_State_under : He.DefD := ⟨("State", some "under"), "under", "State.under", defArgs s_State_under, defBody s_State_under, defScope s_State_under, [], []⟩
def d_State_put : He.DefD := ⟨("State", some "put"), "put", "State.put", defArgs s_State_put, defBody s_State_put, defScope s_State_put, [.int 0], []⟩
def d_do_call : He.DefD := ⟨("do_call", none), "do_call", "do_call", defArgs s_do_call, defBody s_do_call, defScope s_do_call, [], []⟩
def d_do_again : He.DefD := ⟨("do_again", none), "do_again", "do_again", defArgs s_do_again, defBody s_do_again, defScope s_do_again, [], []⟩
def d_do_make : He.DefD := ⟨("do_make", none), "do_make", "do_make", defArgs s_do_make, defBody s_do_make, defScope s_do_make, [], []⟩
def d_do_stop : He.DefD := ⟨("do_stop", none), "do_stop", "do_stop", defArgs s_do_stop, defBody s_do_stop, defScope s_do_stop, [], []⟩
def d_do_send : He.DefD := ⟨("do_send", none), "do_send", "do_send", defArgs s_do_send, defBody s_do_send, defScope s_do_send, [], []⟩
def d_do_there : He.DefD := ⟨("do_there", none), "do_there", "do_there", defArgs s_do_there, defBody s_do_there, defScope s_do_there, [], []⟩
def d_do_back : He.DefD := ⟨("do_back", none), "do_back", "do_back", defArgs s_do_back, defBody s_do_back, defScope s_do_back, [], []⟩
def d_do_home : He.DefD := ⟨("do_home", none), "do_home", "do_home", defArgs s_do_home, defBody s_do_home, defScope s_do_home, [], []⟩
def d_do_off : He.DefD := ⟨("do_off", none), "do_off", "do_off", defArgs s_do_off, defBody s_do_off, defScope s_do_off, [], []⟩
def d_do_stand : He.DefD := ⟨("do_stand", none), "do_stand", "do_stand", defArgs s_do_stand, defBody s_do_stand, defScope s_do_stand, [], []⟩
def d_do_lend : He.DefD := ⟨("do_lend", none), "do_lend", "do_lend", defArgs s_do_lend, defBody s_do_lend, defScope s_do_lend, [], []⟩
def d_do_shut : He.DefD := ⟨("do_shut", none), "do_shut", "do_shut", defArgs s_do_shut, defBody s_do_shut, defScope s_do_shut, [], []⟩
def d_do_nothing : He.DefD := ⟨("do_nothing", none), "do_nothing", "do_nothing", defArgs s_do_nothing, defBody s_do_nothing, defScope s_do_nothing, [], []⟩
def d_done : He.DefD := ⟨("done", none), "done", "done", defArgs s_done, defBody s_done, defScope s_done, [], []⟩
def d_Room_init : He.DefD := ⟨("Room", some "__init__"), "__init__", "Room.__init__", defArgs s_Room_init, defBody s_Room_init, defScope s_Room_init, [], []⟩
def d_Room_eq : He.DefD := ⟨("Room", some "__eq__"), "__eq__", "Room.__eq__", defArgs s_Room_eq, defBody s_Room_eq, defScope s_Room_eq, [], []⟩
def d_Room_replay : He.DefD := ⟨("Room", some "replay"), "replay", "Room.replay", defArgs s_Room_replay, defBody s_Room_replay, defScope s_Room_replay, [.int 0], []⟩
def d_Room_state : He.DefD := ⟨("Room", some "state"), "state", "Room.state", defArgs s_Room_state, defBody s_Room_state, defScope s_Room_state, [], []⟩
def d_Room_look_minutes : He.DefD := ⟨("Room", some "look_minutes"), "look_minutes", "Room.look_minutes", defArgs s_Room_look_minutes, defBody s_Room_look_minutes, defScope s_Room_look_minutes, [], []⟩
def d_Room_look_right : He.DefD := ⟨("Room", some "look_right"), "look_right", "Room.look_right", defArgs s_Room_look_right, defBody s_Room_look_right, defScope s_Room_look_right, [], []⟩
def d_Room_write : He.DefD := ⟨("Room", some "write"), "write", "Room.write", defArgs s_Room_write, defBody s_Room_write, defScope s_Room_write, [.int 0], []⟩
def d_Room_rows : He.DefD := ⟨("Room", some "rows"), "rows", "Room.rows", defArgs s_Room_rows, defBody s_Room_rows, defScope s_Room_rows, [], []⟩
def d_Room_void : He.DefD := ⟨("Room", some "void"), "void", "Room.void", defArgs s_Room_void, defBody s_Room_void, defScope s_Room_void, [], []⟩
def d_Room_engine : He.DefD := ⟨("Room", some "engine"), "engine", "Room.engine", defArgs s_Room_engine, defBody s_Room_engine, defScope s_Room_engine, [.non], []⟩
def d_Room_calls : He.DefD := ⟨("Room", some "calls"), "calls", "Room.calls", defArgs s_Room_calls, defBody s_Room_calls, defScope s_Room_calls, [.non], []⟩
def d_law_bag : He.DefD := ⟨("_law_bag", none), "_law_bag", "_law_bag", defArgs s_law_bag, defBody s_law_bag, defScope s_law_bag, [], []⟩
def d_law_take : He.DefD := ⟨("_law_take", none), "_law_take", "_law_take", defArgs s_law_take, defBody s_law_take, defScope s_law_take, [], []⟩
def d_law_names : He.DefD := ⟨("_law_names", none), "_law_names", "_law_names", defArgs s_law_names, defBody s_law_names, defScope s_law_names, [], []⟩
def d_law_ground : He.DefD := ⟨("_law_ground", none), "_law_ground", "_law_ground", defArgs s_law_ground, defBody s_law_ground, defScope s_law_ground, [], []⟩
def d_law_engines : He.DefD := ⟨("_law_engines", none), "_law_engines", "_law_engines", defArgs s_law_engines, defBody s_law_engines, defScope s_law_engines, [], []⟩
def d_law_house : He.DefD := ⟨("_law_house", none), "_law_house", "_law_house", defArgs s_law_house, defBody s_law_house, defScope s_law_house, [], []⟩
def d_law_deed : He.DefD := ⟨("_law_deed", none), "_law_deed", "_law_deed", defArgs s_law_deed, defBody s_law_deed, defScope s_law_deed, [], []⟩
def d_law_kind : He.DefD := ⟨("_law_kind", none), "_law_kind", "_law_kind", defArgs s_law_kind, defBody s_law_kind, defScope s_law_kind, [], []⟩
def d_law_calls_of : He.DefD := ⟨("_law_calls_of", none), "_law_calls_of", "_law_calls_of", defArgs s_law_calls_of, defBody s_law_calls_of, defScope s_law_calls_of, [], []⟩
def d_law_next : He.DefD := ⟨("_law_next", none), "_law_next", "_law_next", defArgs s_law_next, defBody s_law_next, defScope s_law_next, [], []⟩
def d_law_try : He.DefD := ⟨("_law_try", none), "_law_try", "_law_try", defArgs s_law_try, defBody s_law_try, defScope s_law_try, [], []⟩
def d_law_is_book : He.DefD := ⟨("_law_is_book", none), "_law_is_book", "_law_is_book", defArgs s_law_is_book, defBody s_law_is_book, defScope s_law_is_book, [], []⟩
def d_law_void_holds : He.DefD := ⟨("_law_void_holds", none), "_law_void_holds", "_law_void_holds", defArgs s_law_void_holds, defBody s_law_void_holds, defScope s_law_void_holds, [], []⟩
def d_law : He.DefD := ⟨("law", none), "law", "law", defArgs s_law, defBody s_law, defScope s_law, [], []⟩
def fn : List He.DefD := [d_is_whole, d_is_name, d_is_one_of, d_is_tuple_of, d_NotDone_init, d_are_unlike, d_is_engine, d_are_engines, d_is_kind, d_is_place, d_places_fault, d_is_road, d_roads_fault, d_stations_fault, d_need, d_plain_roads, d_Ground_init, d_Ground_eq, d_is_sort, d_fault, d_shown, d_text_of, d_Row_init, d_Row_five, d_Row_eq, d_Row_str, d_State_init, d_State_is_open, d_State_under, d_State_put, d_do_call, d_do_again, d_do_make, d_do_stop, d_do_send, d_do_there, d_do_back, d_do_home, d_do_off, d_do_stand, d_do_lend, d_do_shut, d_do_nothing, d_done, d_Room_init, d_Room_eq, d_Room_replay, d_Room_state, d_Room_look_minutes, d_Room_look_right, d_Room_write, d_Room_rows, d_Room_void, d_Room_engine, d_Room_calls, d_law_bag, d_law_take, d_law_names, d_law_ground, d_law_engines, d_law_house, d_law_deed, d_law_kind, d_law_calls_of, d_law_next, d_law_try, d_law_is_book, d_law_void_holds, d_law]
def fa0 : List He.Fa := [.glo "is_whole", .glo "is_name", .glo "is_one_of", .glo "is_tuple_of", .glo "are_unlike", .glo "is_engine", .glo "are_engines", .glo "is_kind", .glo "is_place", .glo "places_fault", .glo "is_road", .glo "roads_fault", .glo "stations_fault", .glo "need", .glo "plain_roads", .glo "is_sort", .glo "fault", .glo "shown", .glo "text_of", .glo "do_call", .glo "do_again", .glo "do_make", .glo "do_stop", .glo "do_send", .glo "do_there", .glo "do_back", .glo "do_home", .glo "do_off", .glo "do_stand", .glo "do_lend"]
def fa1 : List He.Fa := [.glo "do_shut", .glo "do_nothing", .glo "done", .glo "_law_bag", .glo "_law_take", .glo "_law_names", .glo "_law_ground", .glo "_law_engines", .glo "_law_house", .glo "_law_deed", .glo "_law_kind", .glo "_law_calls_of", .glo "_law_next", .glo "_law_try", .glo "_law_is_book", .glo "_law_void_holds", .glo "law", .glo "Ground", .glo "Row", .glo "State", .glo "Room", .glo "NotDone", .glo "NoDeed", .glo "BadTime", .glo "NoRow", .glo "TooMany", .glo "NoEngine", .glo "NoCall", .glo "NoBook", .glo "SORTS"]
def fa2 : List He.Fa := [.glo "DUE", .glo "FORMS", .glo "DOING", .free "len", .free "isinstance", .free "int", .free "bool", .free "str", .free "tuple", .free "list", .free "all", .free "any", .free "range", .free "max", .free "min", .free "sorted", .free "abs", .free "set", .free "dict", .free "frozenset", .free "enumerate", .free "divmod", .free "KeyError", .free "ValueError", .free "IndexError", .free "OverflowError", .free "RuntimeError", .free "LookupError", .int "MOST_LETTERS" 8, .int "MOST_ENGINES" 24]
def fa3 : List He.Fa := [.int "MOST_SEATS" 9, .int "MOST_PUMPS" 20, .int "MOST_PLACES" 40, .int "MOST_ROADS" 80, .int "MOST_STATIONS" 12, .int "MOST_RISK" 4, .int "MOST_MINUTES" 60, .int "MOST_CALLS" 200, .int "DAY" 1440, .int "HOUR" 60, .int "LAST_MINUTE" 9999, .int "MOST_ROWS" 200, .str "LETTERS" "abcdefghijklmnopqrstuvwxyz", .cls "Ground", .mkr "Ground", .noat "Ground" "places", .noat "Ground" "roads", .noat "Ground" "stations", .noat "Ground" "risks", .meth "Ground" "__eq__", .cls "Row", .mkr "Row", .noat "Row" "number", .noat "Row" "written", .noat "Row" "at", .noat "Row" "deed", .noat "Row" "right", .meth "Row" "five", .meth "Row" "__eq__", .meth "Row" "__str__"]
def fa4 : List He.Fa := [.cls "State", .mkr "State", .noat "State" "stands", .noat "State" "told", .noat "State" "closed", .meth "State" "is_open", .meth "State" "under", .meth "State" "put", .cls "Room", .mkr "Room", .noat "Room" "ground", .noat "Room" "engines", .noat "Room" "kept", .noat "Room" "first", .noat "Room" "dead", .meth "Room" "__eq__", .meth "Room" "replay", .meth "Room" "state", .meth "Room" "look_minutes", .meth "Room" "look_right", .meth "Room" "write", .meth "Room" "rows", .meth "Room" "void", .meth "Room" "engine", .meth "Room" "calls", .exm "NotDone" "NoDeed" false, .exm "NotDone" "BadTime" false, .exm "NotDone" "NoRow" false, .exm "NotDone" "TooMany" false, .exm "NotDone" "NotDone" true]
def fa : List He.Fa := fa0 ++ fa1 ++ fa2 ++ fa3 ++ fa4
def loose0 : List PySem.Str := ["_wall", "MOST_LETTERS", "LETTERS", "is_whole", "is_name", "is_one_of", "is_tuple_of", "BadTime", "NoGround", "NoPlace", "NoDeed", "NoRow", "TooMany", "NotDone", "NoBook", "NoCall", "NoEngine", "NoEngines", "SORTS", "MOST_ENGINES", "MOST_SEATS", "are_unlike", "is_engine", "are_engines", "DUE", "MOST_PUMPS", "is_kind", "MOST_PLACES", "MOST_ROADS", "MOST_STATIONS"]
def loose1 : List PySem.Str := ["MOST_RISK", "MOST_MINUTES", "SLOW_HOURS", "is_place", "places_fault", "is_road", "roads_fault", "stations_fault", "need", "plain_roads", "rows_of", "Ground", "MOST_CALLS", "FORMS", "is_sort", "fault", "DAY", "HOUR", "shown", "text_of", "Row", "LAST_MINUTE", "MOST_ROWS", "State", "do_call", "do_again", "do_make", "do_stop", "do_send", "do_there"]
def loose2 : List PySem.Str := ["do_back", "do_home", "do_off", "do_stand", "do_lend", "do_shut", "do_nothing", "DOING", "done", "Room", "_law_bag", "_law_take", "_law_names", "_law_ground", "_law_engines", "_law_house", "_law_deed", "_law_kind", "_law_calls_of", "_law_next", "_law_try", "_law_is_book", "_law_void_holds"]
def loose : List PySem.Str := loose0 ++ loose1 ++ loose2
def ts : List He.Tab := [(fun K => He.ga K "DUE", ["car", "chimney", "grass", "house", "people", "works"]), (fun K => He.ga K "FORMS", ["call", "again", "make", "stop", "send", "there", "back", "home", "off", "on", "stand", "lend", "shut", "clear", "nothing"]), (fun K => He.ga K "DOING", ["call", "again", "make", "stop", "send", "there", "back", "home", "off", "on", "stand", "lend", "shut", "clear", "nothing"])]
def tf : List He.Defn := [("law", none), ("Room", some "replay")]
/-- the class at C is an exception over RuntimeError, its record as KExc wants it -/
def reB (K : PySem.W.Frag) (C : Addr) : Bool := match K.lookup C with
  | some ⟨.type t, _, .cls cd, sl⟩ => decide (t = "type") && (decide (cd.mro = .ref C :: [.type "RuntimeError", .type "Exception", .type "BaseException", .type "object"]) && (cd.hasDict && (!cd.hasDel && (match sl.toList with
    | [_, _, _, _, some (.builtin n), _] => decide (n = "RuntimeError.__new__")
    | _ => false))))
  | _ => false

def exs0 : List (PySem.W.Frag → Bool) := [(fun K => decide (dictKeys K (He.ga K "DUE") = some (dueK.map some))), (fun K => decide (dictKeys K (He.ga K "FORMS") = some (formsK.map some))), (fun K => tupOk K (He.ga K "SORTS") ["pump", "ladder", "tanker"]), (fun K => formOk K (He.ga K "FORMS") "call" ["place", "kind"]), (fun K => formOk K (He.ga K "FORMS") "again" ["call"]), (fun K => formOk K (He.ga K "FORMS") "make" ["call", "pumps"]), (fun K => formOk K (He.ga K "FORMS") "stop" ["call"]), (fun K => formOk K (He.ga K "FORMS") "send" ["engine", "call"]), (fun K => formOk K (He.ga K "FORMS") "there" ["engine"]), (fun K => formOk K (He.ga K "FORMS") "back" ["engine"]), (fun K => formOk K (He.ga K "FORMS") "home" ["engine"]), (fun K => formOk K (He.ga K "FORMS") "off" ["engine"]), (fun K => formOk K (He.ga K "FORMS") "on" ["engine"]), (fun K => formOk K (He.ga K "FORMS") "stand" ["engine", "station"]), (fun K => formOk K (He.ga K "FORMS") "lend" ["engine", "station"]), (fun K => formOk K (He.ga K "FORMS") "shut" ["road"]), (fun K => formOk K (He.ga K "FORMS") "clear" ["road"]), (fun K => formOk K (He.ga K "FORMS") "nothing" []), (fun K => doOk K (He.ga K "DOING") "call" (He.ga K "do_call")), (fun K => doOk K (He.ga K "DOING") "again" (He.ga K "do_again")), (fun K => doOk K (He.ga K "DOING") "make" (He.ga K "do_make")), (fun K => doOk K (He.ga K "DOING") "stop" (He.ga K "do_stop")), (fun K => doOk K (He.ga K "DOING") "send" (He.ga K "do_send")), (fun K => doOk K (He.ga K "DOING") "there" (He.ga K "do_there")), (fun K => doOk K (He.ga K "DOING") "back" (He.ga K "do_back")), (fun K => doOk K (He.ga K "DOING") "home" (He.ga K "do_home")), (fun K => doOk K (He.ga K "DOING") "off" (He.ga K "do_off")), (fun K => doOk K (He.ga K "DOING") "on" (He.ga K "do_off")), (fun K => doOk K (He.ga K "DOING") "stand" (He.ga K "do_stand")), (fun K => doOk K (He.ga K "DOING") "lend" (He.ga K "do_lend"))]
def exs1 : List (PySem.W.Frag → Bool) := [(fun K => doOk K (He.ga K "DOING") "shut" (He.ga K "do_shut")), (fun K => doOk K (He.ga K "DOING") "clear" (He.ga K "do_shut")), (fun K => doOk K (He.ga K "DOING") "nothing" (He.ga K "do_nothing")), (fun K => decide (fcode K (He.ga K "law") = some (He.cT K ("law", none)).1)), (fun K => decide (fcode K (He.ma K (He.ga K "Room") "replay") = some (He.cT K ("Room", some "replay")).1)), (fun K => decide ((He.cT K ("law", none)).2 ≠ (He.cT K ("Room", some "replay")).2)), (fun K => He.eqO (PySem.W.specialIn K (.builtin "object.__class__") "__get__") (some (some (.builtin "getset_descriptor.__get__")))), (fun K => decide (PySem.W.takesIn K (.builtin "object.__class__") = some true)), (fun K => He.eqO (PySem.W.findIn K (.ref (He.ga K "Row")) "__class__") (some (some (.builtin "object.__class__")))), (fun K => decide (PySem.W.mroIn K (He.ga K "Row") (.type "object") = some true)), (fun K => decide (PySem.W.kitOne K (.ref (He.ga K "Row")) (.ref (He.ga K "Row")) = some true)), (fun K => He.eqO (PySem.W.findIn K (.ref (He.ga K "Room")) "__class__") (some (some (.builtin "object.__class__")))), (fun K => decide (PySem.W.mroIn K (He.ga K "Room") (.type "object") = some true)), (fun K => decide (PySem.W.kitOne K (.ref (He.ga K "Room")) (.ref (He.ga K "Room")) = some true)), (fun K => He.eqO (PySem.W.findIn K (.ref (He.ga K "Ground")) "__class__") (some (some (.builtin "object.__class__")))), (fun K => decide (PySem.W.mroIn K (He.ga K "Ground") (.type "object") = some true)), (fun K => decide (PySem.W.kitOne K (.ref (He.ga K "Ground")) (.ref (He.ga K "Ground")) = some true)), (fun K => He.eqO (PySem.W.findIn K (.ref (He.ga K "Row")) "__ne__") (some (some (.builtin "object.__ne__")))), (fun K => He.eqO (PySem.W.findIn K (.ref (He.ga K "Ground")) "__ne__") (some (some (.builtin "object.__ne__")))), (fun K => decide (PySem.W.kitOne K (.ref (He.ga K "Row")) (.type "tuple") = some false)), (fun K => He.eqO (PySem.W.nsIn K mainGlobals "RuntimeError") (some none)), (fun K => reB K (He.ga K "NotDone")), (fun K => He.eqO (PySem.W.findIn K (.ref (He.ga K "NotDone")) "__setattr__") (some (some (.builtin "object.__setattr__")))), (fun K => decide (PySem.W.subIn K (.ref (He.ga K "NotDone")) (.type "BaseException") = some true)), (fun K => decide (PySem.W.typeIn K (.ref (He.ga K "NotDone")) = some (.type "type"))), (fun K => PySem.W.keepIn K (.ref (He.ga K "NotDone"))), (fun K => He.eqO (PySem.W.findIn K (.ref (He.ga K "NotDone")) "__init__") (some (some (.ref (He.ma K (He.ga K "NotDone") "__init__"))))), (fun K => decide (PySem.W.typeIn K (.ref (He.ma K (He.ga K "NotDone") "__init__")) = some (.type "function"))), (fun K => He.eqO (PySem.W.findIn K (.ref (He.ga K "NotDone")) "why") (some none)), (fun K => xfB K (He.ga K "NotDone"))]
def exs2 : List (PySem.W.Frag → Bool) := [(fun K => He.eqO (PySem.W.findIn K (.ref (He.ga K "NotDone")) "__class__") (some (some (.builtin "object.__class__")))), (fun K => decide (PySem.W.mroIn K (He.ga K "NotDone") (.type "object") = some true)), (fun K => decide (PySem.W.kitOne K (.ref (He.ga K "NotDone")) (.type "RuntimeError") = some true))]
def exs : List (PySem.W.Frag → Bool) := exs0 ++ exs1 ++ exs2
def ex (K : PySem.W.Frag) : Bool := exs.all fun f => f K
def lawAt : Nat := 93
section
variable {w : World} {h : Heap}
/-! ### the hook: every object of the heap is looked at -/
def asN (n : Nat) : List Addr := mainGlobals :: (List.range n).reverse
def obsK (g : Addr → Option Obj) (K : PySem.W.Frag) : He.AlX := (He.obsT fa fn ts K, ex K && He.tabsB g tf K)
def obsN (g : Addr → Option Obj) (n : Nat) : He.AlX := obsK g (He.frT g (asN n))
theorem saysN_of {as : List Addr} (e : obsK h.get? (He.frT h.get? as) = He.valX fn ts w) : He.SaysX fa fn ts tf ex w h (He.frT h.get? as) := by
  have e1 : He.obsT fa fn ts (He.frT h.get? as) = He.valT fn ts w := congrArg (fun z : He.AlX => z.1) e
  have e2 : (ex (He.frT h.get? as) && He.tabsB h.get? tf (He.frT h.get? as)) = true := congrArg (fun z : He.AlX => z.2) e
  obtain ⟨h1, h2⟩ := He.ba e2
  have key : ∀ p ∈ tf, PySem.W.codeHdIn (He.frT h.get? as) (He.cT (He.frT h.get? as) p).1 (He.cT (He.frT h.get? as) p).2 = true ∧ ∃ o, h.get? (He.cT (He.frT h.get? as) p).2 = some o ∧ He.emptyTab o = true := fun p hp => by
    obtain ⟨h3, h4⟩ := He.ba (List.all_eq_true.mp h2 p hp)
    refine ⟨h3, ?_⟩
    cases q : h.get? (He.cT (He.frT h.get? as) p).2 with
    | none =>
      rw [q] at h4
      cases h4
    | some o =>
      rw [q] at h4
      exact ⟨o, rfl, h4⟩
  exact ⟨e1, h1, fun p hp => (key p hp).1, fun p hp => by
    obtain ⟨_, o, q, z⟩ := key p hp
    exact He.frT_none q z, fun p hp => by
    obtain ⟨_, o, q, z⟩ := key p hp
    rw [q, He.emptyTab_eq z]⟩
def hookN : PySem.W.Hook where
  α := He.AlX
  obs := fun s => obsN s.heap.get? s.heap.objs.size
  val := fun w => He.valX fn ts w
  says := fun w h => ∃ K : PySem.W.Frag, K.In h ∧ He.SaysX fa fn ts tf ex w h K
  of := fun _ _ e => ⟨_, He.frT_in, saysN_of e⟩
  keeps := fun _ _ _ ⟨K, hK, c⟩ k => ⟨K, PySem.W.Frag.In.keeps hK k, ⟨c.t, c.more, c.hd, c.out, fun p hp => k _ _ (c.empty p hp)⟩⟩
def ob (s : PySem.W.SharedT) : He.AlX := obsN (HandSHeadRun.getT s) s.n
theorem ob_eq (s : PySem.W.SharedT) : ob s = hookN.obs s.abs := by
  have e : HandSHeadRun.getT s = s.abs.heap.get? := funext (HandSHeadRun.getT_eq s)
  have n : s.abs.heap.objs.size = s.n := PySem.W.absHeap_size _ _ _
  show obsN (HandSHeadRun.getT s) s.n = obsN s.abs.heap.get? s.abs.heap.objs.size
  rw [e, n]
abbrev rowR : PySem.W.OpenRow := PySem.W.OpenLaw.row PySem.Challenge.rw_whistleboard_k36_whole_rows_stay
abbrev qv : Program := PySem.W.view rowR.prog [lawAt]
end

end K36
/-! text KRunF -/
namespace K36
open PySem PySem.W PySem.Calls PyProof.Rows
theorem runF (w : World) : HandSHeadRun.RunEq rowR qv hookN ob 7000 loose (w.withFollow "special-get-raises" false) := by
  intro os
  kernel_rfl
end K36
/-! text KRunT -/
namespace K36
open PySem PySem.W PySem.Calls PyProof.Rows
theorem runT (w : World) : HandSHeadRun.RunEq rowR qv hookN ob 7000 loose (w.withFollow "special-get-raises" true) := by
  intro os
  kernel_rfl
end K36
/-! text KRoom3 -/
/-! laws of the rooms' relation -/
namespace K36
open PySem PySem.Spec PyProof.Rows L2
theorem valV_mem {kvs : List (Key × V)} (nd : (kvs.map (·.1)).Nodup) {k : Key} {v : V} (h : (k, v) ∈ kvs) : valV kvs k = some v := by
  induction kvs with
  | nil => simp at h
  | cons p r ih =>
    rw [List.map_cons, List.nodup_cons] at nd
    rcases List.mem_cons.mp h with e | e
    · rw [← e]; exact valV_pos rfl
    · rw [valV_neg (fun z => nd.1 (by rw [z]; exact List.mem_map_of_mem (f := (·.1)) e))]
      exact ih nd.2 e
theorem valV_keys {xs : List Int} {w : V} (n : Int) : (valV (xs.map fun x => ((.inl x : Key), w)) (.inl n)).isSome = decide (n ∈ xs) := by
  induction xs with
  | nil => rfl
  | cons x r ih =>
    rw [List.map_cons]
    by_cases e : x = n
    · rw [valV_pos (by rw [e]), decide_eq_true (by rw [e]; exact List.mem_cons_self ..)]; rfl
    · rw [valV_neg (fun z => e (Sum.inl.inj z)), ih]
      refine decide_eq_decide.mpr ⟨fun h => List.mem_cons_of_mem _ h, fun h => ?_⟩
      rcases List.mem_cons.mp h with z | z
      · exact absurd z.symm e
      · exact z
theorem book_nd {g : Gd} {es : List Eng} {rows : List RowD} (h : Book g es rows) : (rows.map (·.n)).Nodup := by
  refine List.pairwise_iff_getElem.mpr fun i j hi hj hij e => ?_
  rw [List.length_map] at hi hj
  rw [List.getElem_map, List.getElem_map] at e
  have e1 := h.num (List.getElem?_eq_getElem hi)
  have e2 := h.num (List.getElem?_eq_getElem hj)
  omega
theorem fst_at {g : Gd} {es : List Eng} {rr : List RR} (h : Book g es (rws rr)) {q : RR} (hq : q ∈ rr) : valV (fstK rr) (.inl q.1.n) = some (.int q.2) := by
  refine valV_mem ?_ (List.mem_map.mpr ⟨q, hq, rfl⟩)
  have : (fstK rr).map (·.1) = ((rws rr).map (·.n)).map fun n => (.inl n : Key) := by
    unfold fstK rws
    rw [List.map_map, List.map_map, List.map_map]; rfl
  rw [this]
  exact List.Pairwise.map _ (fun _ _ z e => z (Sum.inl.inj e)) (book_nd h)
theorem fst_no {rr : List RR} {n : Int} (h : ∀ q ∈ rr, q.1.n ≠ n) : valV (fstK rr) (.inl n) = none := by
  unfold valV
  rw [List.find?_eq_none.mpr fun p hp => by
    obtain ⟨q, hq, rfl⟩ := List.mem_map.mp hp
    simpa using fun z => h q hq z]
  rfl
section
variable {K : PySem.W.Frag} {Hb H : Hp} {x dx sA tA cA vl : Addr} {sk tk : List (Key × V)} {s : RS}
/-- a list that stays is written -/
theorem StAt.relist {o1 : HO} {xs ys : List V} (h : StAt K (upd Hb vl o1) H x dx sA tA cA sk tk s) (hv : H vl = some (.lst xs)) : StAt K (upd Hb vl (.lst ys)) (upd H vl (.lst ys)) x dx sA tA cA sk tk s := by
  have key : ∀ {a : Addr}, upd Hb vl o1 a = none → a ≠ vl := fun {a} q z => by rw [z, upd_same] at q; cases q
  have nx := key h.x0
  have ns := key h.s0
  have nt := key h.t0
  have nc := key h.c0
  have tm : TM K H (upd H vl (.lst ys)) := tm_upd hv (fun _ z => by cases z) (fun _ _ z => by cases z)
  have e0 : ∀ {a : Addr}, a ≠ vl → upd Hb vl (.lst ys) a = upd Hb vl o1 a := fun {a} n => by rw [upd_ne n, upd_ne n]
  refine ⟨fun a o ha => ?_, (e0 nx).trans h.x0, (e0 ns).trans h.s0, (e0 nt).trans h.t0, (e0 nc).trans h.c0, (upd_ne nx).trans h.x, (upd_ne ns).trans h.st, (upd_ne nt).trans h.td, (upd_ne nc).trans h.cl, h.ne, h.sr.mono fun _ _ ⟨t, a, b⟩ => ⟨t, a, tm _ _ b⟩, h.tr.mono fun _ _ ⟨t, a, b⟩ => ⟨t, a, tm _ _ b⟩⟩
  by_cases z : a = vl
  · rw [z, upd_same] at ha; rw [z, upd_same]; exact ha
  · rw [e0 z] at ha; exact (upd_ne z).trans (h.ext a o ha)
end
/-- rows with their objects -/
theorem zip_filter {ps : List Addr} {rr : List RR} (h : ps.length = rr.length) (p : RR → Bool) : ((ps.zip rr).filter fun z => p z.2).map (·.2) = rr.filter p := by
  induction rr generalizing ps with
  | nil => simp
  | cons q r ih =>
    cases ps with
    | nil => simp at h
    | cons a ps =>
      rw [List.zip_cons_cons, List.filter_cons, List.filter_cons]
      have := ih (ps := ps) (by simpa using h)
      split
      · rw [List.map_cons, this]
      · exact this
theorem filter_snoc {α : Type} {p : α → Bool} {l : List α} {i : Nat} {x : α} (hx : l[i]? = some x) : (l.take (i + 1)).filter p = (l.take i).filter p ++ (if p x = true then [x] else []) := by
  rw [List.take_add_one, hx, List.filter_append]
  show _ ++ List.filter p [x] = _
  rw [List.filter_cons]
  split <;> rfl
theorem play_snoc {es : List Eng} {l : List RR} {i : Nat} {q : RR} (hq : l[i]? = some q) : playR es (l.take (i + 1)) = stepR (playR es (l.take i)) q := by
  unfold playR
  rw [List.take_add_one, hq, List.foldl_append]; rfl
theorem mem_order {rr : List RR} {at_ wo : Int} {q : RR} (h : q ∈ orderR rr at_ wo) : q ∈ rr := by
  unfold orderR at h
  rw [(List.mergeSort_perm _ _).mem_iff] at h
  exact (List.mem_filter.mp (List.mem_filter.mp h).1).1
theorem order_len (rr : List RR) (at_ wo : Int) : (orderR rr at_ wo).length ≤ rr.length := by
  unfold orderR
  rw [(List.mergeSort_perm _ _).length_eq]
  exact Nat.le_trans (List.length_filter_le _ _) (List.length_filter_le _ _)
end K36
/-! text K1 -/
namespace K36
open PySem PySem.Spec PyProof.Rows L2
section
variable {P : Program} {w : World} {K : PySem.W.Frag} {mg : Str → Option Value} {base : Heap}
abbrev N_law_take : List Str := ["_law_bag_here", "_law_many", "_law_digit"]
theorem sc_law_take : FnScope N_law_take ["_law_bag_here", "_law_many"] (defScope s_law_take) := ⟨rfl, rfl, rfl, by decide +kernel, rfl, by decide +kernel, by decide +kernel⟩
/-- a draw below m; the bag is another -/
def sp_take : Sp := fun vs H Q _ => ∃ (b : Addr) (m : Int), vs = [.ref b, .int m] ∧ 0 < m ∧ m < 1073741824 ∧ Bag H b ∧ ∀ d H', 0 ≤ d → d < m → BagEx b H H' → Q (.int d) H'
theorem ok_take (T : Tx w K mg) : C8.Cal P w K mg base 1 "_law_take" sp_take [] := by
  refine cal_mk T.F_law_take T.g_law_take sc_law_take (fun _ _ _ _ _ _ us hl => match us, hl with | [_, _], _ => rfl) (fun vs H Q E h => ?_) (fun cdv A outer s H vs Q E hr h => ?_)
  · obtain ⟨b, m, rfl, _⟩ := h
    rfl
  · obtain ⟨b, m, rfl, m0, m1, ⟨g, r, hb, g0, r0, r1⟩, k⟩ := h
    refine ⟨_, (pss_cons (ps_if (pt_cmpR op_gt (pe_ix ix_list (pv 0) pe_int (fun _ _ => rfl)) pe_int (nomark _))
      (pss_cons (ps_set (i := 2) sc_law_take.nd rfl (Or.inl rfl) (pe_op op_mod (pe_ix ix_list (pv 0) pe_int (fun _ _ => rfl)) (pv 1)))
        (pss_cons (ps_asg (pe_op op_fdiv (pe_ix ix_list (pv 0) pe_int (fun _ _ => rfl)) (pv 1)) (pg_sub (pv 0) pe_int set_list))
        (pss_one (ps_ret (pv 2)))))
      pss_nil)
    (pss_cons (ps_asg (pe_op op_mod (pe_op op_add (pe_op op_mul (pe_ix ix_list (pv 0) pe_int (fun _ _ => rfl)) pe_int) pe_int) pe_int) (pg_sub (pv 0) pe_int set_list))
    (pss_one (ps_ret (pe_op op_mod (pe_op op_mod (pe_op op_pow (pe_op op_fdiv (pe_ix ix_list (pv 0) pe_int (fun _ _ => rfl)) pe_int) pe_int) pe_int) (pv 1)))))), ?_⟩
    have two : ∀ x y : Int, BagEx b H (upd H b (.lst [.int x, .int y])) ∨ ¬ (0 ≤ x ∧ 0 ≤ y ∧ y < 2147483648) := fun x y => by
      by_cases q : 0 ≤ x ∧ 0 ≤ y ∧ y < 2147483648
      · exact .inl ⟨⟨g, r, hb, g0, r0, r1⟩, ⟨x, y, upd_same, q⟩, fun a o n e => (upd_ne n).trans e⟩
      · exact .inr q
    refine ⟨_, rfl, b, _, _, _, rfl, rfl, SqL.of hb, rfl, _, _, rfl, rfl, _, rfl, ?_⟩
    refine ite2 (fun _ => ?_) (fun _ => ?_)
    · refine ⟨_, rfl, b, _, _, _, rfl, rfl, SqL.of hb, rfl, _, rfl, _, _, rfl, rfl, m0, ?_⟩
      refine ⟨_, rfl, b, _, _, _, rfl, rfl, SqL.of hb, rfl, _, rfl, _, _, rfl, rfl, ⟨m0, m1⟩, _, rfl, b, _, _, 0, rfl, rfl, hb, rfl, ?_⟩
      refine ⟨_, rfl, k _ _ (Int.emod_nonneg _ (by omega)) (Int.emod_lt_of_pos _ m0) ?_⟩
      exact (two (g / m) r).resolve_right fun z => z ⟨Int.ediv_nonneg g0 (by omega), r0, r1⟩
    · have l1 : 0 ≤ (r * 48271 + 11) % 2147483647 := Int.emod_nonneg _ (by decide)
      have l2 : (r * 48271 + 11) % 2147483647 < 2147483647 := Int.emod_lt_of_pos _ (by decide)
      refine ⟨_, rfl, b, _, _, _, rfl, rfl, SqL.of hb, rfl, _, _, rfl, rfl, .inr ⟨by decide, by decide⟩, _, _, rfl, rfl, _, _, rfl, rfl, (by show (0 : Int) < 2147483647; decide), _, rfl, b, _, _, 1, rfl, rfl, hb, rfl, ?_⟩
      refine ⟨_, rfl, b, _, _, _, rfl, rfl, SqL.of upd_same, rfl, _, _, rfl, rfl, ⟨by decide, by decide⟩, _, _, rfl, rfl, ⟨by decide, by decide, by omega⟩, _, _, rfl, rfl, (by show (0 : Int) < 2147483629; decide), _, rfl, _, _, rfl, rfl, m0, ?_⟩
      exact k _ _ (Int.emod_nonneg _ (by omega)) (Int.emod_lt_of_pos _ m0) ((two g ((r * 48271 + 11) % 2147483647)).resolve_right fun z => z ⟨g0, l1, by omega⟩)
abbrev N_law_bag : List Str := ["_law_script", "_law_at", "_law_cell", "_law_great", "_law_primes"]
theorem sc_law_bag : FnScope N_law_bag ["_law_script", "_law_at"] (defScope s_law_bag) := ⟨rfl, rfl, rfl, by decide +kernel, rfl, by decide +kernel, by decide +kernel⟩
/-- a new bag -/
def sp_bag (K : PySem.W.Frag) : Sp := fun vs H Q _ => ∃ (a : Addr) (ns : List Int) (i : Nat), vs = [.ref a, .int i] ∧ SqL K H a (ns.map V.int) ∧ i ≤ 100 ∧ ∀ b H', H b = none → Ext H H' → Bag H' b → Q (.ref b) H'
theorem ok_bag (T : Tx w K mg) : C8.Cal P w K mg base 1 "_law_bag" (sp_bag K) [] := by
  refine cal_mk T.F_law_bag T.g_law_bag sc_law_bag (fun _ _ _ _ _ _ us hl => match us, hl with | [_, _], _ => rfl) (fun vs H Q E h => ?_) (fun cdv A outer s H vs Q E hr h => ?_)
  · obtain ⟨a, ns, i, rfl, _⟩ := h
    rfl
  · obtain ⟨a, ns, i, rfl, hS, hi, k⟩ := h
    refine ⟨_, (pss_cons (ps_set (i := 2) sc_law_bag.nd rfl (Or.inl rfl) pe_int)
    (C8.pss_cut (ps_if (pt_cmpR op_lt (pv 1) (pe_callB call_len_seq (by rfl) T.b_len (by decide +kernel) (pa_cons (pv 0) pa_nil)) (nomark _))
      (pss_one (ps_set (i := 2) sc_law_bag.nd rfl (Or.inl rfl) (pe_ix ix_list (pv 0) (pv 1) (fun _ _ => rfl))))
      pss_nil)
    (pss_cons (ps_set (i := 3) sc_law_bag.nd rfl (Or.inl rfl) pe_int)
    (C8.pss_cut (ps_if (pt_cmpR op_ge (pe_callB call_abs (by rfl) T.b_abs (by decide +kernel) (pa_cons (pv 2) pa_nil)) (pe_op op_pow pe_int pe_int) (nomark _))
      (pss_one (ps_set (i := 3) sc_law_bag.nd rfl (Or.inl rfl) (pe_callB call_abs (by rfl) T.b_abs (by decide +kernel) (pa_cons (pv 2) pa_nil))))
      pss_nil)
    (pss_cons (ps_set (i := 4) sc_law_bag.nd rfl (Or.inl rfl) (pe_lst (pa_cons pe_int (pa_cons pe_int (pa_cons pe_int (pa_cons pe_int (pa_cons pe_int (pa_cons pe_int (pa_cons pe_int (pa_cons pe_int pa_nil))))))))))
    (pss_one (ps_ret (pe_lst (pa_cons (pv 3) (pa_cons (pe_op op_mod (pe_op op_pow (pe_op op_add (pe_op op_add (pe_op op_mod (pv 2) pe_int) (pe_op op_mul pe_int (pv 1))) pe_int) pe_int) (pe_ix ix_list (pv 4) (pe_op op_mod (pv 1) pe_int) (fun _ _ => rfl))) pa_nil)))))))))), ?_⟩
    refine ⟨fun σ' H' => H = H' ∧ ∃ c : Int, σ' = [some (.ref a), some (.int i), some (.int c), none, none], ?_, ?_⟩
    · refine ⟨_, rfl, _, rfl, a, _, rfl, .inl hS, _, _, rfl, rfl, _, rfl, ?_⟩
      refine ite2 (fun hl => ?_) (fun _ => ⟨rfl, 0, rfl⟩)
      have hl' : i < ns.length := by
        have q := of_decide_eq_true hl
        rw [List.length_map] at q
        omega
      refine ⟨_, rfl, _, rfl, a, _, _, _, rfl, rfl, hS, atI_nat (by rw [List.getElem?_map, List.getElem?_eq_getElem hl']; rfl), rfl, _, rfl⟩
    · rintro _ _ ⟨rfl, c, rfl⟩
      refine ⟨fun σ' H' => H = H' ∧ ∃ g : Int, 0 ≤ g ∧ σ' = [some (.ref a), some (.int i), some (.int c), some (.int g), none], ?_, ?_⟩
      · refine ⟨_, rfl, c, rfl, _, _, rfl, rfl, ⟨by decide, by decide, by decide⟩, _, _, rfl, rfl, _, rfl, ?_⟩
        refine ite2 (fun hl => ?_) (fun _ => ⟨rfl, 0, Int.le_refl _, rfl⟩)
        refine ⟨_, rfl, c, rfl, rfl, (if c < 0 then -c else c), ?_, rfl⟩
        split <;> omega
      · rintro _ _ ⟨rfl, g, hg, rfl⟩
        refine ⟨sz rfl, fun p hp => ?_⟩
        generalize hg1 : upd H p _ = H1
        obtain ⟨e1, h1, _⟩ := newF hp hg1
        have c0 : 0 ≤ c % 2147483647 := Int.emod_nonneg _ (by decide)
        have c1 : c % 2147483647 < 2147483647 := Int.emod_lt_of_pos _ (by decide)
        refine ⟨_, rfl, _, rfl, _, _, rfl, rfl, (by show (0 : Int) < 2147483647; decide), _, rfl, _, _, rfl, rfl, .inl ⟨by decide, by decide⟩, _, _, rfl, rfl, _, _, rfl, rfl, _, _, rfl, rfl, ⟨by decide, by decide, by omega⟩, ?_⟩
        refine ⟨_, rfl, _, rfl, _, _, rfl, rfl, (by show (0 : Int) < 8; decide), ?_⟩
        have i0 : 0 ≤ (i : Int) % 8 := Int.emod_nonneg _ (by decide)
        have i1 : (i : Int) % 8 < 8 := Int.emod_lt_of_pos _ (by decide)
        have pr : ∀ j : Int, 0 ≤ j → j < 8 → ∃ q : Int, atI [V.int 2147483629, .int 2147483587, .int 2147483579, .int 2147483563, .int 2147483549, .int 2147483543, .int 2147483497, .int 2147483489] j = some (.int q) ∧ 0 < q ∧ q < 2147483648 := fun j h0 h1 => by
          have h : j = 0 ∨ j = 1 ∨ j = 2 ∨ j = 3 ∨ j = 4 ∨ j = 5 ∨ j = 6 ∨ j = 7 := by omega
          rcases h with rfl | rfl | rfl | rfl | rfl | rfl | rfl | rfl <;> exact ⟨_, rfl, by decide, by decide⟩
        obtain ⟨q, hq, q0, q1⟩ := pr _ i0 i1
        refine ⟨p, _, _, _, rfl, rfl, SqL.of h1, hq, _, _, rfl, rfl, q0, ?_⟩
        refine ⟨sz rfl, fun b hb => ?_⟩
        generalize hg2 : upd H1 b _ = H2
        obtain ⟨e2, h2, _⟩ := newF hb hg2
        exact k b H2 (Ext.free e1 hb) (e1.trans e2) ⟨g, _, h2, hg, Int.emod_nonneg _ (by omega), by have := Int.emod_lt_of_pos ((c % 2147483647 + 104729 * (i : Int) + 7) ^ (5 : Int).toNat) q0; omega⟩
end
end K36
/-! text K2 -/
namespace K36
open PySem PySem.Spec PyProof.Rows L2 SX
section
variable {P : Program} {w : World} {K : PySem.W.Frag} {mg : Str → Option Value} {base : Heap}
abbrev N_law_names : List Str := ["_law_bag_here", "_law_many", "_law_letters", "_law_found", "_law_k", "_law_size", "_law_stem", "_law_turn"]
theorem sc_law_names : FnScope N_law_names ["_law_bag_here", "_law_many"] (defScope s_law_names) := ⟨rfl, rfl, rfl, by decide +kernel, rfl, by decide +kernel, by decide +kernel⟩
/-- a new list of m unlike names -/
def sp_names : Sp := fun vs H Q _ => ∃ (b : Addr) (m : Nat), vs = [.ref b, .int m] ∧ m ≤ 40 ∧ Bag H b ∧ ∀ (l : Addr) H' (nm : List Str), nm.length = m → Nms nm → BagEx b H H' → H l = none → H' l = some (.lst (nm.map V.str)) → Q (.ref l) H'
theorem ok_names (T : Tx w K mg) (G_law_take : C8.Cal P w K mg base 1 "_law_take" sp_take []) : C8.Cal P w K mg base 2 "_law_names" sp_names [] := by
  refine cal_mk T.F_law_names T.g_law_names sc_law_names (fun _ _ _ _ _ _ us hl => match us, hl with | [_, _], _ => rfl) (fun vs H Q E h => ?_) (fun cdv A outer s H vs Q E hr h => ?_)
  · obtain ⟨b, m, rfl, _⟩ := h
    rfl
  · obtain ⟨b, m, rfl, hm, hB, k⟩ := h
    refine ⟨_, (pss_cons (ps_set (i := 2) sc_law_names.nd rfl (Or.inr rfl) pe_str)
    (pss_cons (ps_set (i := 3) sc_law_names.nd rfl (Or.inl rfl) (pe_lst pa_nil))
    (pss_cons (ps_for PassesOwn.never rfl (pi_range1 (by rfl) T.b_range (pa_cons (pv 1) pa_nil)) (pg_name (i := 4) sc_law_names.nd rfl (Or.inl rfl))
      (C8.pss_cut (ps_set (i := 5) sc_law_names.nd rfl (Or.inl rfl) (pe_ifExp (pt_cmpR op_gt (pv 4) pe_int (nomark _)) pe_int (C8.pe_c G_law_take hr (by decide) rfl (pa_cons (pv 0) (pa_cons pe_int pa_nil)))))
        (pss_cons (ps_set (i := 6) sc_law_names.nd rfl (Or.inl rfl) (pe_join pe_str (pe_lc (own := [("_law_turn", 7)]) (g := (gName 7)) (tt := tYes) rfl sc_law_names.nd (pi_range1 (by rfl) T.b_range (pa_cons (pv 5) pa_nil)) (blkOk_by (N := N_law_names) (sc := defScope s_law_names) (by decide +kernel)) (fun _ _ _ _ _ => (pg_name (i := 7) sc_law_names.nd rfl (Or.inl rfl))) (fun _ _ _ _ _ => pts_nil) (fun _ _ _ _ _ => (pe_ix ix_str (pv 2) (C8.pe_c G_law_take hr (by decide) rfl (pa_cons (pv 0) (pa_cons pe_int pa_nil))) (fun _ _ => rfl))))))
        (pss_one (ps_expr (pe_bm PySem.F.plainAttrs_list PySem.F.slot_list_append PySem.F.type_list_append mt_append (pv 3) (pa_cons (pe_op op_add_str (pv 6) (pe_ix ix_str (pv 2) (pe_op op_mod (pv 4) pe_int) (fun _ _ => rfl))) pa_nil)))))))
    (pss_one (ps_ret (pv 3)))))), ?_⟩
    have hbne : ∀ {p : Addr} {H1 : Hp}, Bag H1 b → H1 p = none → p ≠ b := fun x h => BagEx.ne x h
    refine ⟨sz rfl, fun l hl => ?_⟩
    generalize hg : upd H l _ = H0
    obtain ⟨e0, h0, _⟩ := newF hl hg
    have nlb : l ≠ b := BagEx.ne hB hl
    refine ⟨_, rfl, m, rfl, by omega, by omega, for_range (lo := 0) (n := m) (fun i σ' H' => ∃ (nm : List Str) (v4 v5 v6 v7 : Option V), σ' = [some (.ref b), some (.int m), some (.str ABC), some (.ref l), v4, v5, v6, v7] ∧ nm.length = i ∧ Nms nm ∧ BagEx b H H' ∧ H' l = some (.lst (nm.map V.str)))
      ⟨[], none, none, none, none, rfl, rfl, Nms.nil, .of hB e0, h0⟩ ?_ ?_⟩
    · rintro i _ H' hi ⟨nm, v4, v5, v6, v7, rfl, hn, hN, hX, hL⟩
      -- _law_size
      refine ⟨fun σ' H1 => ∃ s : Nat, (25 < i → s = 7) ∧ (i ≤ 25 → s < 7) ∧ σ' = [some (.ref b), some (.int m), some (.str ABC), some (.ref l), some (.int (0 + i)), some (.int s), v6, v7] ∧ BagEx b H' H1, ?_, ?_⟩
      · refine ⟨_, rfl, _, _, rfl, rfl, _, rfl, ?_⟩
        refine ite2 (fun q => ?_) (fun q => ?_)
        · exact ⟨7, fun _ => rfl, fun z => by have := of_decide_eq_true q; omega, rfl, .rfl' hX.bag⟩
        · refine ⟨_, rfl, b, 7, rfl, by decide, by decide, hX.bag, fun d H1 d0 d1 x => ?_⟩
          obtain ⟨s, rfl⟩ := Int.eq_ofNat_of_zero_le d0
          exact ⟨s, fun z => absurd (decide_eq_true (show (25 : Int) < 0 + i by omega)) q, fun _ => by omega, rfl, x⟩
      · rintro _ H1 ⟨s, s1, s2, rfl, x1⟩
        have hL1 := x1.keep l _ nlb hL
        -- _law_stem
        refine ⟨⟨_, rfl⟩, _, rfl, s, rfl, by omega, by omega, fun D hD => ?_⟩
        have nDb : D ≠ b := BagEx.ne x1.bag hD
        have nDl : l ≠ D := ne_of_none hL1 hD
        have eD := Ext.upd (o := .lst []) hD
        refine lc_range (lo := 0) (n := s) (fun j H2 => ∃ cs : List Nat, cs.length = j ∧ (∀ c ∈ cs, 97 ≤ c ∧ c ≤ 122) ∧ BagEx b H1 H2 ∧ H2 D = some (.lst (cs.map fun c => V.str (S [c]))))
          ⟨[], rfl, fun _ z => absurd z (by simp), .of x1.bag eD, upd_same⟩ ?_ ?_
        · rintro j H2 hj ⟨cs, c1, c2, x2, hD2⟩
          refine ⟨rfl, ?_⟩
          refine ⟨_, rfl, _, rfl, b, 26, rfl, by decide, by decide, x2.bag, fun d H3 d0 d1 x3 => ?_⟩
          have hD3 := x3.keep D _ nDb hD2
          refine ⟨_, _, _, rfl, rfl, sz rfl, abc_at d0 d1, _, hD3, szl (by rw [List.length_map]; omega), cs ++ [97 + d.toNat], by rw [List.length_append, c1]; rfl, fun c hc => ?_, ?_, ?_⟩
          · rcases List.mem_append.mp hc with q | q
            · exact c2 c q
            · rw [List.mem_singleton.mp q]; omega
          · exact ⟨x1.bag, let ⟨g, r, h, q⟩ := x3.bag; ⟨g, r, (upd_ne nDb.symm).trans h, q⟩, fun a o n e => by
              have e2 := (x2.trans x3).keep a o n e
              exact (upd_ne (ne_of_none e hD)).trans e2⟩
          · rw [upd_same, List.map_append]; rfl
        · rintro H2 ⟨cs, c1, c2, x2, hD2⟩
          have hL2 := x2.keep l _ nlb hL1
          refine ⟨_, D, (cs.map fun c => [c]).map S, rfl, rfl, .inl (SqL.of (by rw [hD2, str_ones])), by rw [sum_ones, empty_S]; simp only [List.length_map, S_len, List.length_nil]; omega, ?_⟩
          rw [empty_S, join_ones]
          -- _law_found.append(..)
          refine ⟨_, rfl, .inl ⟨rfl, _, SqL.of hL2⟩, _, rfl, _, rfl, _, rfl, _, _, rfl, rfl, (by show (0 : Int) < 26; decide), _, _, _, rfl, rfl, sz rfl, abc_at (Int.emod_nonneg _ (by decide)) (Int.emod_lt_of_pos _ (by decide)), _, _, rfl, rfl, ?_, l, _, _, rfl, rfl, hL2, szl (by rw [List.length_map]; omega), ?_⟩
          · exact szn (by rw [S_len]; show _ + 1 ≤ _; omega)
          · have en : (97 + ((0 + (i : Int)) % 26).toNat) = 97 + i % 26 := by omega
            refine ⟨nm ++ [S (cs ++ [97 + i % 26])], _, _, _, _, rfl, by rw [List.length_append, hn]; rfl, hN.snoc ⟨cs, by rw [hn], c2, fun z => ?_, fun z => ?_⟩, ?_, ?_⟩
            · have := s2 (by omega); omega
            · have := s1 (by omega); omega
            · have y := (hX.trans x1).trans x2
              exact ⟨hB, let ⟨g, r, h, q⟩ := y.bag; ⟨g, r, (upd_ne nlb.symm).trans h, q⟩, fun a o n e => (upd_ne (ne_of_none e hl)).trans (y.keep a o n e)⟩
            · rw [upd_same, List.map_append, ← en]
              show some (HO.lst (nm.map V.str ++ [V.str (S cs ++ ⟨#[97 + ((0 + (i : Int)) % 26).toNat]⟩)])) = _
              rw [← S_cat]; rfl
    · rintro _ H' ⟨nm, v4, v5, v6, v7, rfl, hn, hN, hX, hL⟩
      exact ⟨_, rfl, k l H' nm hn hN hX hl hL⟩
end
end K36
/-! text KTup -/
/-! a tuple known to be without attributes of its own; dict(it) -/
namespace K36
open PySem PySem.Spec PyProof.Rows L2
def PlT (H : Hp) (a : Addr) (xs : List V) : Prop := ∃ o, o.dict = none ∧ H a = some (.frz o (.tup xs))
theorem PlT.sq {K : PySem.W.Frag} {H : Hp} {a : Addr} {xs : List V} (h : PlT H a xs) : SqT K H a xs := let ⟨o, _, e⟩ := h; .inl (.inr ⟨o, e⟩)
theorem PlT.ext {H H' : Hp} {a : Addr} {xs : List V} (h : PlT H a xs) (e : Ext H H') : PlT H' a xs := let ⟨o, d, q⟩ := h; ⟨o, d, e _ _ q⟩
theorem PlT.bag {H H' : Hp} {b a : Addr} {xs : List V} (h : PlT H a xs) (x : BagEx b H H') : PlT H' a xs := let ⟨o, d, q⟩ := h; ⟨o, d, x.at q fun _ z => by cases z⟩
section
variable {X : Cx}
theorem call_tuple_frz : CallR X (.type "tuple") (fun xs H Q => ∃ p ys, xs = [.ref p] ∧ SqL X.K H p ys ∧ ∀ l o, o.dict = none → H l = none → Q (.ref l) (upd H l (.frz o (.tup ys)))) := by
  intro pins s σ H xs us Q I r h
  obtain ⟨p, ys, rfl, hq, q⟩ := h
  obtain ⟨u, rfl, rx⟩ := vals1 r
  cases rx
  obtain ⟨its, r', pl, hz⟩ := I.list hq
  have hlen := r'.length
  refine call_tuple_list pl.isList (fun h' kp => ?_) (by simp only [List.size_toArray] <;> omega)
  have I1 : Inv X pins σ H { s with heap := h' } := I.kept (t' := s.toks) kp
  have I2 : Inv X pins σ (upd H h'.objs.size (.frz { cls := .type "tuple", data := .seq its.toArray } (.tup ys))) { s with heap := h'.push { cls := .type "tuple", data := .seq its.toArray } } :=
    I1.laid (t' := s.toks) (fun b o e => Heap.get?_push_of_some _ e) (Nat.le_refl _) (show ObjOk X.prog X.w _ _ _ (.frz _ (.tup ys)) from ⟨Heap.get?_push_size _ rfl, hz, its, r', IsTup.new _ _⟩)
  exact ⟨.ref h'.objs.size, _, I2, rfl, q _ _ rfl (I1.hok.fresh (Nat.le_refl _))⟩
def rDictT (K : PySem.W.Frag) : List V → Hp → VK → Prop := fun xs H Q => ∃ (a : Addr) (ps : List Addr) (kvs : List (Key × V)), xs = [.ref a] ∧ PlT H a (ps.map V.ref) ∧ Paired (fun p kv => SqT K H p [kV kv.1, kv.2]) ps kvs ∧
    ∀ p, H p = none → Q (.ref p) (upd H p (.dK (mergeK [] kvs)))
theorem call_dictT (hcalm : X.calm = true) : CallR X (.type "dict") (rDictT X.K) := by
  intro pins s σ H xs us Q I r q
  obtain ⟨a, ps, kvs, ex, ⟨oT, hdn, hT⟩, hp, q⟩ := q
  subst ex
  obtain ⟨u, eu, rx⟩ := vals1 r
  subst eu
  cases rx
  obtain ⟨e0, hz, its, rv, ⟨o, ho, hc, n, hd⟩⟩ := (show ObjOk X.prog X.w H s.heap a (.frz oT (.tup (ps.map V.ref))) from I.hok a _ hT)
  have eo : o = oT := by rw [ho] at e0; exact Option.some.inj e0
  subst eo
  have ei := refs_at rv
  subst ei
  rw [List.length_map] at hz
  obtain ⟨prs, rel, hl, hpr⟩ := pairs_of I hp
  have key : ∀ (j : Nat) (q' : Key × Value), prs[j]? = some q' → ∃ (b : Addr) (u : Value), ps[j]? = some b ∧ IsTup s.heap b #[u, q'.2] ∧ keyIs q'.1 u = true := hpr
  -- the pairs as values
  have hu : ∀ j : Nat, ∃ u : Value, ∀ q', prs[j]? = some q' → ∃ b, ps[j]? = some b ∧ IsTup s.heap b #[u, q'.2] ∧ keyIs q'.1 u = true := fun j => by
    cases e : prs[j]? with
    | none => exact ⟨.none, fun q' h => by cases h⟩
    | some q' =>
      obtain ⟨b, u, h1, h2, h3⟩ := key j q' e
      exact ⟨u, fun q2 h => by cases h; exact ⟨b, h1, h2, h3⟩⟩
  have hU : ∃ U : Nat → Value, ∀ j q', prs[j]? = some q' → ∃ b, ps[j]? = some b ∧ IsTup s.heap b #[U j, q'.2] ∧ keyIs q'.1 (U j) = true := ⟨fun j => (hu j).choose, fun j => (hu j).choose_spec⟩
  obtain ⟨U, hU⟩ := hU
  let vps : List (Value × Value) := (List.range prs.length).map fun j => (U j, (prs[j]?.map (·.2)).getD .none)
  have hv : ∀ j q', prs[j]? = some q' → vps[j]? = some (U j, q'.2) := fun j q' e => by
    have hj := (List.getElem?_eq_some_iff.mp e).1
    show ((List.range prs.length).map _)[j]? = _
    rw [List.getElem?_map, List.getElem?_range hj, Option.map_some, e]; rfl
  have hvl : vps.length = prs.length := by show ((List.range prs.length).map _).length = _; rw [List.length_map, List.length_range]
  refine PySem.call_dict_pairs (knd := mixKind X.prog X.w) (kvs := prs) (PySem.PairArg.tuple a (ps.map Value.ref).toArray (fun j => ps.getD j 0) vps) (I.ok.hd hcalm)
    ⟨⟨o, n, ho, hc, hdn, hd⟩, by rw [List.size_toArray, List.length_map, hvl, hl], fun j k v e => ?_⟩ ⟨hvl.symm, fun i k v e => ?_⟩ (by rw [hvl, hl]; exact hz) fun h' tk hd' k => ?_
  · have hj : j < prs.length := by rw [← hvl]; exact (List.getElem?_eq_some_iff.mp e).1
    obtain ⟨q', hq'⟩ : ∃ q', prs[j]? = some q' := ⟨_, List.getElem?_eq_getElem hj⟩
    rw [hv j q' hq'] at e
    cases e
    obtain ⟨b, h1, h2, h3⟩ := hU j q' hq'
    have hb : ps.getD j 0 = b := by rw [List.getD_eq_getElem?_getD, h1]; rfl
    refine ⟨?_, .inl ?_⟩
    · show _ = some (Value.ref (ps.getD j 0))
      rw [List.getElem?_toArray, List.getElem?_map, h1, hb]; rfl
    · show s.heap.IsTuple (ps.getD j 0) #[U j, q'.2]
      rw [hb]; exact h2
  · have hj : i < prs.length := by rw [← hvl]; exact (List.getElem?_eq_some_iff.mp e).1
    obtain ⟨q', hq'⟩ : ∃ q', prs[i]? = some q' := ⟨_, List.getElem?_eq_getElem hj⟩
    have e' : vps[i]? = some (k, v) := e
    rw [hv i q' hq'] at e'
    cases e'
    obtain ⟨b, h1, h2, h3⟩ := hU i q' hq'
    exact ⟨q'.1, hq', h3⟩
  · have hm : (s.heap.objs.size == sysModules) = false := beq_eq_false_iff_ne.mpr (Nat.ne_of_gt I.big)
    have hlen : (mergeK [] kvs).length ≤ sizeLine := by
      refine Nat.le_trans (length_mergeK kvs []) ?_
      rw [List.length_nil, Nat.zero_add, rel.length, hl]
      exact hz
    exact ⟨.ref s.heap.objs.size, upd H s.heap.objs.size (.dK (mergeK [] kvs)), I.laid (t' := tk) (fun b o e => k b o (by simp) e) (Nat.le_refl _) (show ObjOk X.prog X.w _ _ _ (.dK (mergeK [] kvs)) from ⟨hlen, hm, merged [] prs, KV.merge rel .nil, hd'⟩), rfl, q _ (I.hok.fresh (Nat.le_refl _))⟩
end
end K36
/-! text K3 -/
namespace K36
open PySem PySem.Spec PyProof.Rows L2 SX
theorem hu65 {k : Nat} {A : Around} (hr : Room k A) : A.units + 65 < cLine := by have := hr.un; omega
section
variable {P : Program} {w : World} {K : PySem.W.Frag} {mg : Str → Option Value} {base : Heap}
abbrev N_law_ground : List Str := ["_law_bag_here", "_law_many", "_law_names_here", "_law_places", "_law_most", "_law_pairs", "_law_k", "_law_roads", "_law_one", "_law_other", "_law_stations", "_law_slow", "_law_place", "_law_name"]
theorem sc_law_ground : FnScope N_law_ground ["_law_bag_here"] (defScope s_law_ground) := ⟨rfl, rfl, rfl, by decide +kernel, rfl, by decide +kernel, by decide +kernel⟩
/-- a new tuple of a ground's three parts -/
def sp_ground (K : PySem.W.Frag) : Sp := fun vs H Q _ => ∃ (b : Addr), vs = [.ref b] ∧ Bag H b ∧ ∀ (A : Adr) H' (g : Gd), GOk g → GAt K H' A g → SqT K H' A.T [.ref A.P, .ref A.R, .ref A.S] → PlT H' A.P (A.tP.map V.ref) → BagEx b H H' → Q (.ref A.T) H'
theorem ok_ground (T : Tx w K mg) (G_law_take : C8.Cal P w K mg base 1 "_law_take" sp_take []) (G_law_names : C8.Cal P w K mg base 2 "_law_names" sp_names []) : C8.Cal P w K mg base 3 "_law_ground" (sp_ground K) [] := by
  refine cal_mk T.F_law_ground T.g_law_ground sc_law_ground (fun _ _ _ _ _ _ us hl => match us, hl with | [_], _ => rfl) (fun vs H Q E h => ?_) (fun cdv A outer s H vs Q E hr h => ?_)
  · obtain ⟨b, rfl, _⟩ := h
    rfl
  · obtain ⟨b, rfl, hB, k⟩ := h
    refine ⟨_, (pss_cons (ps_set (i := 1) sc_law_ground.nd rfl (Or.inl rfl) (pe_ix ix_tup (pe_tup (pa_cons pe_int (pa_cons pe_int (pa_cons pe_int (pa_cons pe_int (pa_cons pe_int (pa_cons pe_int pa_nil))))))) (C8.pe_c G_law_take hr (by decide) rfl (pa_cons (pv 0) (pa_cons pe_int pa_nil))) (fun _ _ => rfl)))
    (pss_cons (ps_set (i := 2) sc_law_ground.nd rfl (Or.inl rfl) (C8.pe_c G_law_names hr (by decide) rfl (pa_cons (pv 0) (pa_cons (pv 1) pa_nil))))
    (pss_cons (ps_set (i := 3) sc_law_ground.nd rfl (Or.inl rfl) (pe_callTy call_tuple_frz (by rfl) T.b_tuple (by decide +kernel) (pa_cons (pe_lc (own := [("_law_name", 13)]) (g := (gName 13)) (tt := tYes) rfl sc_law_ground.nd (pi_list (pv 2)) (blkOk_by (N := N_law_ground) (sc := defScope s_law_ground) (by decide +kernel)) (fun _ _ _ _ _ => (pg_name (i := 13) sc_law_ground.nd rfl (Or.inl rfl))) (fun _ _ _ _ _ => pts_nil) (fun _ _ _ _ _ => (pe_tup (pa_cons (pv 13) (pa_cons (pe_op op_add pe_int (C8.pe_c G_law_take hr (by decide) rfl (pa_cons (pv 0) (pa_cons pe_int pa_nil)))) pa_nil))))) pa_nil)))
    (pss_cons (ps_set (i := 4) sc_law_ground.nd rfl (Or.inl rfl) (pe_ix ix_tup (pe_tup (pa_cons pe_int (pa_cons pe_int (pa_cons pe_int pa_nil)))) (C8.pe_c G_law_take hr (by decide) rfl (pa_cons (pv 0) (pa_cons pe_int pa_nil))) (fun _ _ => rfl)))
    (pss_cons (ps_set (i := 5) sc_law_ground.nd rfl (Or.inl rfl) (pe_lst pa_nil))
    (pss_cons (ps_for PassesOwn.never rfl (pi_range1 (by rfl) T.b_range (pa_cons (pe_op op_add (pe_op op_sub (pv 1) pe_int) (C8.pe_c G_law_take hr (by decide) rfl (pa_cons (pv 0) (pa_cons (pe_op op_add pe_int (pe_callB (call_min2 rfl) (by rfl) T.b_min (by decide +kernel) (pa_cons pe_int (pa_cons (pv 1) pa_nil)))) pa_nil)))) pa_nil)) (pg_name (i := 6) sc_law_ground.nd rfl (Or.inl rfl))
      (pss_cons (ps_par (i := 8) (j := 9) rfl sc_law_ground.nd rfl rfl (by decide) rfl rfl (pa_cons (pe_op op_mod (pv 6) (pv 1)) (pa_cons (pe_op op_mod (pe_op op_add (pv 6) pe_int) (pv 1)) pa_nil)) (by rfl))
        (C8.pss_cut (ps_if (pt_cmpR op_gt (C8.pe_c G_law_take hr (by decide) rfl (pa_cons (pv 0) (pa_cons pe_int pa_nil))) pe_int (nomark _))
          (pss_one (ps_set (i := 8) sc_law_ground.nd rfl (Or.inl rfl) (C8.pe_c G_law_take hr (by decide) rfl (pa_cons (pv 0) (pa_cons (pv 1) pa_nil)))))
          pss_nil)
        (pss_one (ps_if (PW.pt (pw_and (pt_cmpR op_ne (pv 8) (pv 9) (nomark _)) (pw_and (pt_cmpR (op_notInD (hu65 hr)) (pe_tup (pa_cons (pv 8) (pa_cons (pv 9) pa_nil))) (pv 5) (by rfl)) (pw_and1 (pt_cmpR (op_notInD (hu65 hr)) (pe_tup (pa_cons (pv 9) (pa_cons (pv 8) pa_nil))) (pv 5) (by rfl))))))
          (pss_one (ps_expr (pe_bm PySem.F.plainAttrs_list PySem.F.slot_list_append PySem.F.type_list_append mt_append (pv 5) (pa_cons (pe_tup (pa_cons (pv 8) (pa_cons (pv 9) pa_nil))) pa_nil))))
          pss_nil)))))
    (pss_cons (ps_set (i := 7) sc_law_ground.nd rfl (Or.inl rfl) (pe_lst pa_nil))
    (pss_cons (ps_for PassesOwn.never rfl (pi_list (pv 5)) (pg_tup rfl (pgs_cons (pg_name (i := 8) sc_law_ground.nd rfl (Or.inl rfl)) (pgs_cons (pg_name (i := 9) sc_law_ground.nd rfl (Or.inl rfl)) pgs_nil)))
      (pss_cons (ps_set (i := 11) sc_law_ground.nd rfl (Or.inl rfl) (pe_op op_mul (C8.pe_c G_law_take hr (by decide) rfl (pa_cons (pv 0) (pa_cons pe_int pa_nil))) (pe_callTy call_int1 (by rfl) T.b_int (by decide +kernel) (pa_cons (pe_cmpR op_eq (C8.pe_c G_law_take hr (by decide) rfl (pa_cons (pv 0) (pa_cons pe_int pa_nil))) pe_int (nomark _)) pa_nil))))
        (pss_one (ps_expr (pe_bm PySem.F.plainAttrs_list PySem.F.slot_list_append PySem.F.type_list_append mt_append (pv 7) (pa_cons (pe_tup (pa_cons (pe_ix ix_list (pv 2) (pv 8) (fun _ _ => rfl)) (pa_cons (pe_ix ix_list (pv 2) (pv 9) (fun _ _ => rfl)) (pa_cons (pe_op op_add pe_int (C8.pe_c G_law_take hr (by decide) rfl (pa_cons (pv 0) (pa_cons (pv 4) pa_nil)))) (pa_cons (pv 11) pa_nil))))) pa_nil))))))
    (pss_cons (ps_set (i := 10) sc_law_ground.nd rfl (Or.inl rfl) (pe_lst pa_nil))
    (pss_cons (ps_for PassesOwn.never rfl (pi_range1 (by rfl) T.b_range (pa_cons (pe_op op_add pe_int (C8.pe_c G_law_take hr (by decide) rfl (pa_cons (pv 0) (pa_cons (pe_callB (call_min2 rfl) (by rfl) T.b_min (by decide +kernel) (pa_cons pe_int (pa_cons (pv 1) pa_nil))) pa_nil)))) pa_nil)) (pg_name (i := 6) sc_law_ground.nd rfl (Or.inl rfl))
      (pss_cons (ps_set (i := 12) sc_law_ground.nd rfl (Or.inl rfl) (pe_ix ix_list (pv 2) (C8.pe_c G_law_take hr (by decide) rfl (pa_cons (pv 0) (pa_cons (pv 1) pa_nil))) (fun _ _ => rfl)))
        (pss_one (ps_if (pt_cmpR op_notIn_seq (pv 12) (pv 10) (by rfl))
          (pss_one (ps_expr (pe_bm PySem.F.plainAttrs_list PySem.F.slot_list_append PySem.F.type_list_append mt_append (pv 10) (pa_cons (pv 12) pa_nil))))
          pss_nil))))
    (pss_one (ps_ret (pe_tup (pa_cons (pv 3) (pa_cons (pe_callTy call_tuple_of (by rfl) T.b_tuple (by decide +kernel) (pa_cons (pv 7) pa_nil)) (pa_cons (pe_callTy call_tuple_of (by rfl) T.b_tuple (by decide +kernel) (pa_cons (pv 10) pa_nil)) pa_nil)))))))))))))))), ?_⟩
    -- _law_many
    refine ⟨sz rfl, fun t0 ht0 => ?_⟩
    generalize hg0 : upd H t0 _ = H0
    obtain ⟨e0, h0, _⟩ := newF ht0 hg0
    refine ⟨_, rfl, b, 6, rfl, by decide, by decide, hB.ext e0, fun d H1 d0 d1 x1 => ?_⟩
    obtain ⟨m, hat, m1, m40⟩ : ∃ m : Nat, atI [V.int 6, .int 3, .int 12, .int 1, .int 40, .int 8] d = some (.int m) ∧ 1 ≤ m ∧ m ≤ 40 := by
      have h : d = 0 ∨ d = 1 ∨ d = 2 ∨ d = 3 ∨ d = 4 ∨ d = 5 := by omega
      rcases h with rfl | rfl | rfl | rfl | rfl | rfl
      · exact ⟨6, rfl, by decide, by decide⟩
      · exact ⟨3, rfl, by decide, by decide⟩
      · exact ⟨12, rfl, by decide, by decide⟩
      · exact ⟨1, rfl, by decide, by decide⟩
      · exact ⟨40, rfl, by decide, by decide⟩
      · exact ⟨8, rfl, by decide, by decide⟩
    refine ⟨t0, _, _, _, rfl, rfl, x1.t (SqT.of h0), hat, ?_⟩
    have X1 := (BagEx.of hB e0).trans x1
    -- _law_names_here
    refine ⟨_, rfl, _, rfl, b, m, rfl, m40, x1.bag, fun l H2 nm hnm hN x2 hl hL => ?_⟩
    have nlb : l ≠ b := BagEx.ne x1.bag hl
    have X2 := X1.trans x2
    -- _law_places
    refine ⟨_, rfl, l, rfl, ⟨_, SqL.of hL⟩, fun D hD => ?_⟩
    have nDb : D ≠ b := BagEx.ne x2.bag hD
    have nlD : l ≠ D := ne_of_none hL hD
    refine lc_list (xs := nm.map V.str) (fun i H3 => ∃ (ts : List Addr) (pl : List (Str × Int)), pl.map (·.1) = nm.take i ∧ (∀ p ∈ pl, 1 ≤ p.2 ∧ p.2 ≤ 4) ∧ Rows K H3 ts (pl.map encP) ∧ BagEx b H2 H3 ∧ H3 D = some (.lst (ts.map V.ref)))
      ⟨[], [], rfl, fun _ z => absurd z (by simp), .nil, .of x2.bag (Ext.upd hD), upd_same⟩ (fun i H3 _ ⟨_, _, _, _, _, x, _⟩ => SqL.of (x.keep _ _ nlb hL)) ?_ ?_
    · rintro i y H3 hy ⟨ts, pl, p1, p2, p3, x3, hD3⟩
      obtain ⟨x, hx, rfl⟩ : ∃ x, nm[i]? = some x ∧ V.str x = y := by
        rw [List.getElem?_map] at hy
        cases e : nm[i]? with
        | none => rw [e] at hy; cases hy
        | some x => rw [e] at hy; exact ⟨x, rfl, Option.some.inj hy⟩
      refine ⟨rfl, ?_⟩
      refine ⟨_, rfl, _, rfl, b, 4, rfl, by decide, by decide, x3.bag, fun d H4 d0 d1 x4 => ⟨_, _, rfl, rfl, sz rfl, fun t ht => ?_⟩⟩
      have hD4 := x4.keep D _ nDb hD3
      have nDt : D ≠ t := ne_of_none hD4 ht
      refine ⟨_, (upd_ne nDt).trans hD4, szl (by rw [List.length_map, p3.length, List.length_map]; have := congrArg List.length p1; rw [List.length_map, List.length_take] at this; omega), ts ++ [t], pl ++ [(x, 1 + d)], ?_, ?_, ?_, ?_, ?_⟩
      · rw [List.map_append, p1, List.take_add_one, hx]; rfl
      · intro p hp
        rcases List.mem_append.mp hp with q | q
        · exact p2 p q
        · rw [List.mem_singleton.mp q]; exact ⟨by show 1 ≤ 1 + d; omega, by show 1 + d ≤ 4; omega⟩
      · rw [List.map_append]
        refine Paired.snoc ((p3.tm ((x4.tm.trans (tmE (Ext.upd ht))).trans (tm_updL ((upd_ne nDt).trans hD4))))) ?_
        exact SqT.of ((upd_ne nDt.symm).trans upd_same)
      · exact ((x3.trans x4).ext (Ext.upd ht)).upd hD nDb
      · rw [upd_same, List.map_append]; rfl
    · rintro H3 ⟨tP, pl, p1, p2, p3, x3, hD3⟩
      have hl3 := x3.keep l _ nlb hL
      rw [List.length_map, List.take_length] at p1
      refine ⟨D, _, rfl, SqL.of hD3, fun aP oP hoP haP => ?_⟩
      generalize hg4 : upd H3 aP _ = H4
      obtain ⟨e4, h4, _⟩ := newF haP hg4
      have hP4 : PlT H4 aP (tP.map V.ref) := ⟨oP, hoP, h4⟩
      have X4 := (X2.trans x3).ext e4
      have hl4 := e4 _ _ hl3
      have ps4 := p3.tm (K := K) (tmE e4)
      -- _law_most
      refine ⟨sz rfl, fun t5 ht5 => ?_⟩
      generalize hg5 : upd H4 t5 _ = H5
      obtain ⟨e5, h5, _⟩ := newF ht5 hg5
      refine ⟨_, rfl, b, 3, rfl, by decide, by decide, X4.bag.ext e5, fun d H6 d0 d1 x6 => ?_⟩
      obtain ⟨mo, hat, mo1, mo60⟩ : ∃ mo : Nat, atI [V.int 2, .int 5, .int 60] d = some (.int mo) ∧ 1 ≤ mo ∧ mo ≤ 60 := by
        have h : d = 0 ∨ d = 1 ∨ d = 2 := by omega
        rcases h with rfl | rfl | rfl
        · exact ⟨2, rfl, by decide, by decide⟩
        · exact ⟨5, rfl, by decide, by decide⟩
        · exact ⟨60, rfl, by decide, by decide⟩
      refine ⟨t5, _, _, _, rfl, rfl, x6.t (SqT.of h5), hat, ?_⟩
      have X6 := (X4.ext e5).trans x6
      have t46 : TM K H4 H6 := (tmE e5).trans x6.tm
      have hl6 := x6.keep l _ nlb (e5 _ _ hl4)
      have ps6 := ps4.tm t46
      have hP6 := (hP4.ext e5).bag x6
      have aP6 : SqT K H6 aP (tP.map V.ref) := hP6.sq
      -- _law_pairs
      refine ⟨sz rfl, fun lp hlp => ?_⟩
      generalize hg7 : upd H6 lp _ = H7
      obtain ⟨e7, h7, _⟩ := newF hlp hg7
      have nlpb : lp ≠ b := BagEx.ne X6.bag hlp
      have nlpl : l ≠ lp := ne_of_none hl6 hlp
      refine ⟨_, rfl, _, _, rfl, rfl, _, rfl, _, rfl, _, _, rfl, _, _, rfl, rfl, b, _, rfl, ?_, ?_, X6.bag.ext e7, fun d H8 d0 d1 x8 => ⟨_, _, rfl, rfl, _, rfl, ?_, ?_, ?_⟩⟩
      · split <;> omega
      · split <;> omega
      · split at d1 <;> omega
      · split at d1 <;> omega
      refine for_range (lo := 0) (fun i σ' H' => ∃ (ps : List (Nat × Nat)) (ts : List Addr) (v6 v8 v9 : Option V), σ' = [some (.ref b), some (.int m), some (.ref l), some (.ref aP), some (.int mo), some (.ref lp), v6, none, v8, v9, none, none, none, none] ∧
        ps.length ≤ i ∧ ps.Pairwise DP ∧ (∀ p ∈ ps, p.1 < m ∧ p.2 < m ∧ p.1 ≠ p.2) ∧ Rows K H' ts (ps.map encPr) ∧ BagEx b H6 H' ∧ H' lp = some (.lst (ts.map V.ref)))
        ⟨[], [], none, none, none, rfl, Nat.le_refl _, List.Pairwise.nil, fun _ z => absurd z (by simp), .nil, (BagEx.of X6.bag e7).trans x8, x8.keep _ _ nlpb h7⟩ ?_ ?_
      · rintro i _ H' hi ⟨ps, ts, v6, v8, v9, rfl, q1, q2, q3, q4, x, hLp⟩
        have hi' : (i : Int) < m - 1 + d := by omega
        refine ⟨_, rfl, _, rfl, _, _, rfl, rfl, (by show (0 : Int) < m; omega), _, rfl, _, _, rfl, rfl, _, rfl, _, _, rfl, rfl, (by show (0 : Int) < m; omega), _, _, rfl, ?_⟩
        refine ⟨fun σ' H1 => ∃ (a c : Nat) (v6 : Option V), a < m ∧ c < m ∧ σ' = [some (.ref b), some (.int m), some (.ref l), some (.ref aP), some (.int mo), some (.ref lp), v6, none, some (.int a), some (.int c), none, none, none, none] ∧ BagEx b H' H1, ?_, ?_⟩
        · obtain ⟨a, ha⟩ := Int.eq_ofNat_of_zero_le (Int.emod_nonneg (0 + (i : Int)) (show (m : Int) ≠ 0 by omega))
          obtain ⟨c, hc⟩ := Int.eq_ofNat_of_zero_le (Int.emod_nonneg (0 + (i : Int) + 1) (show (m : Int) ≠ 0 by omega))
          have ha1 := Int.emod_lt_of_pos (0 + (i : Int)) (show (0 : Int) < m by omega)
          have hc1 := Int.emod_lt_of_pos (0 + (i : Int) + 1) (show (0 : Int) < m by omega)
          refine ⟨_, rfl, b, 3, rfl, by decide, by decide, x.bag, fun d H1 _ _ x1 => ⟨_, _, rfl, rfl, _, rfl, ?_⟩⟩
          refine ite2 (fun _ => ?_) (fun _ => ?_)
          · refine ⟨_, rfl, _, rfl, b, m, rfl, by omega, by omega, x1.bag, fun d H2 d0 d1 x2 => ?_⟩
            obtain ⟨a', rfl⟩ := Int.eq_ofNat_of_zero_le d0
            refine ⟨a', c, some (.int (0 + (i : Int))), by omega, by omega, ?_, x1.trans x2⟩
            rw [← hc]; rfl
          · refine ⟨a, c, some (.int (0 + (i : Int))), by omega, by omega, ?_, x1⟩
            rw [← hc, ← ha]; rfl
        · rintro _ H1 ⟨a, c, w6, ha, hc, rfl, x1⟩
          have X := x.trans x1
          have hLp1 := x1.keep _ _ nlpb hLp
          have q4' := q4.tm (K := K) x1.tm
          refine ⟨_, rfl, _, rfl, rfl, _, rfl, ?_⟩
          have stay : ∀ H2, Ext H1 H2 → ∃ (ps : List (Nat × Nat)) (ts : List Addr) (v6 v8 v9 : Option V), ([some (.ref b), some (.int m), some (.ref l), some (.ref aP), some (.int mo), some (.ref lp), w6, none, some (.int a), some (.int c), none, none, none, none] : List (Option V)) = [some (.ref b), some (.int m), some (.ref l), some (.ref aP), some (.int mo), some (.ref lp), v6, none, v8, v9, none, none, none, none] ∧
              ps.length ≤ i + 1 ∧ ps.Pairwise DP ∧ (∀ p ∈ ps, p.1 < m ∧ p.2 < m ∧ p.1 ≠ p.2) ∧ Rows K H2 ts (ps.map encPr) ∧ BagEx b H6 H2 ∧ H2 lp = some (.lst (ts.map V.ref)) := fun H2 e => ⟨ps, ts, w6, _, _, rfl, by omega, q2, q3, q4'.tm (tmE e), X.ext e, e _ _ hLp1⟩
          have dpl : ∀ H2, Ext H1 H2 → Dp K H2 (.ref lp) (.list ((ps.map encPr).map dR)) := fun H2 e => .lst (SqL.of (e _ _ hLp1)) (dp_rows (q4'.tm (tmE e)) encPr_all)
          refine ite2 (fun c1 => ?_) (fun _ => iteF (stay H1 fun _ _ h => h))
          have hac : a ≠ c := fun z => by
            rw [z] at c1
            simp at c1
          refine ⟨_, rfl, _, rfl, sz rfl, fun t1 ht1 => ?_⟩
          generalize hg1 : upd H1 t1 _ = H2
          obtain ⟨e2, h2, _⟩ := newF ht1 hg1
          refine ⟨_, rfl, dR (encPr (a, c)), _, dp_row (SqT.of h2) rfl, dpl H2 e2, shaped_r rfl, shaped_rs encPr_all, _, rfl, ?_⟩
          rw [any_rows encPr_all (encPr_is _)]
          refine ite2 (fun c2 => ?_) (fun _ => iteF (stay H2 e2))
          have n1 : (a, c) ∉ ps := fun z => by
            rw [decide_eq_true (mem_encPr.mpr z)] at c2
            cases c2
          refine ⟨_, rfl, _, rfl, sz rfl, fun t2 ht2 => ?_⟩
          generalize hg2 : upd H2 t2 _ = H3
          obtain ⟨e3, h3, _⟩ := newF ht2 hg2
          refine ⟨_, rfl, dR (encPr (c, a)), _, dp_row (SqT.of h3) rfl, dpl H3 (e2.trans e3), shaped_r rfl, shaped_rs encPr_all, _, rfl, ?_⟩
          rw [any_rows encPr_all (encPr_is _)]
          refine ite2 (fun c3 => ?_) (fun _ => stay H3 (e2.trans e3))
          have n2 : (c, a) ∉ ps := fun z => by
            rw [decide_eq_true (mem_encPr.mpr z)] at c3
            cases c3
          have e13 := e2.trans e3
          refine ⟨_, rfl, .inl ⟨rfl, _, SqL.of (e13 _ _ hLp1)⟩, _, rfl, _, rfl, sz rfl, fun t3 ht3 => ?_⟩
          generalize hg3 : upd H3 t3 _ = H4'
          obtain ⟨e4', h4', _⟩ := newF ht3 hg3
          have e14 := e13.trans e4'
          have hLp4 := e14 _ _ hLp1
          refine ⟨lp, _, _, rfl, rfl, hLp4, szl (by rw [List.length_map, q4.length, List.length_map]; omega), ps ++ [(a, c)], ts ++ [t3], w6, some (.int a), some (.int c), rfl, by rw [List.length_append]; show _ + 1 ≤ _; omega, pw_snoc q2 fun y hy => ⟨fun z => n1 ?_, fun z => n2 ?_⟩, fun p hp => ?_, ?_, (X.ext e14).upd hlp nlpb, by rw [upd_same, List.map_append]; rfl⟩
          · rw [show (a, c) = y from Prod.ext z.1.symm z.2.symm]; exact hy
          · rw [show (c, a) = y from Prod.ext z.1.symm z.2.symm]; exact hy
          · rcases List.mem_append.mp hp with z | z
            · exact q3 p z
            · rw [List.mem_singleton.mp z]; exact ⟨ha, hc, hac⟩
          · rw [List.map_append]
            exact Paired.snoc (q4'.tm ((tmE e14).trans (tm_updL hLp4))) ((tm_updL hLp4) _ _ (SqT.of h4'))
      · rintro _ H8 ⟨prs, ts, v6, v8, v9, rfl, q1, q2, q3, q4, x8, hLp⟩
        have X8 := X6.trans x8
        have hl8 := x8.keep l _ nlb hl6
        -- _law_roads
        refine ⟨sz rfl, fun lr hlr => ?_⟩
        generalize hg9 : upd H8 lr _ = H9
        obtain ⟨e9, h9, _⟩ := newF hlr hg9
        have nlrb : lr ≠ b := BagEx.ne X8.bag hlr
        have nllr : l ≠ lr := ne_of_none hl8 hlr
        have nlplr : lp ≠ lr := ne_of_none hLp hlr
        refine ⟨_, rfl, lp, rfl, ⟨_, SqL.of (e9 _ _ hLp)⟩, for_list (xs := ts.map V.ref) (fun i σ' H' => ∃ (rs : List (Str × Str × Int × Int)) (tr : List Addr) (v8 v9 v11 : Option V), σ' = [some (.ref b), some (.int m), some (.ref l), some (.ref aP), some (.int mo), some (.ref lp), v6, some (.ref lr), v8, v9, none, v11, none, none] ∧
          Paired (RP nm) (prs.take i) rs ∧ Rows K H' tr (rs.map encR) ∧ BagEx b H8 H' ∧ H' lr = some (.lst (tr.map V.ref)))
          ⟨[], [], v8, v9, none, rfl, .nil, .nil, BagEx.of X8.bag e9, h9⟩ (fun i σ' H' _ ⟨_, _, _, _, _, _, _, _, x, _⟩ => SqL.of (x.keep _ _ nlpb hLp)) ?_ ?_⟩
        · rintro i y _ H' hy ⟨rs, tr, v8, v9, v11, rfl, r1, r2, x, hLr⟩
          obtain ⟨t, ht, rfl⟩ : ∃ t, ts[i]? = some t ∧ V.ref t = y := by
            rw [List.getElem?_map] at hy
            cases e : ts[i]? with
            | none => rw [e] at hy; cases hy
            | some z => rw [e] at hy; exact ⟨z, rfl, Option.some.inj hy⟩
          obtain ⟨row, hrow, hT⟩ := Paired.at' q4 ht
          obtain ⟨pr, hpr, rfl⟩ : ∃ p, prs[i]? = some p ∧ encPr p = row := by
            rw [List.getElem?_map] at hrow
            cases e : prs[i]? with
            | none => rw [e] at hrow; cases hrow
            | some z => rw [e] at hrow; exact ⟨z, rfl, Option.some.inj hrow⟩
          obtain ⟨pa, pc⟩ := pr
          obtain ⟨b1, b2, b3⟩ := q3 _ (List.mem_of_getElem? hpr)
          have na : nm[pa]? = some nm[pa] := List.getElem?_eq_getElem (by rw [hnm]; exact b1)
          have nc : nm[pc]? = some nm[pc] := List.getElem?_eq_getElem (by rw [hnm]; exact b2)
          refine ⟨t, _, rfl, x.t hT, rfl, _, _, rfl, _, _, rfl, rfl, ?_⟩
          -- _law_slow
          refine ⟨_, rfl, b, 61, rfl, by decide, by decide, x.bag, fun d1 H1 d10 d11 x1 => ?_⟩
          refine ⟨_, rfl, b, 4, rfl, by decide, by decide, x1.bag, fun d2 H2 d20 d21 x2 => ⟨rfl, .inr ⟨_, rfl, ?_⟩⟩⟩
          refine ⟨_, _, rfl, rfl, .inl ⟨by omega, by omega⟩, ?_⟩
          have hs0 : 0 ≤ d1 * (if decide (V.int d2 = V.int 0) = true then 1 else 0) := by split <;> omega
          have hs1 : d1 * (if decide (V.int d2 = V.int 0) = true then 1 else 0) ≤ 60 := by split <;> omega
          have X2 := (x.trans x1).trans x2
          have hl2 := X2.keep l _ nlb hl8
          have hLr2 := (x1.trans x2).keep lr _ nlrb hLr
          refine ⟨_, rfl, .inl ⟨rfl, _, SqL.of hLr2⟩, _, rfl, _, rfl, l, _, _, _, rfl, rfl, SqL.of hl2, atI_nat (by rw [List.getElem?_map, na]; rfl), ?_⟩
          refine ⟨_, rfl, _, rfl, l, _, _, _, rfl, rfl, SqL.of hl2, atI_nat (by rw [List.getElem?_map, nc]; rfl), ?_⟩
          refine ⟨_, rfl, _, rfl, b, mo, rfl, by omega, by omega, X2.bag, fun d3 H3 d30 d31 x3 => ⟨_, _, rfl, rfl, _, rfl, sz rfl, fun t4 ht4 => ?_⟩⟩
          generalize hg4 : upd H3 t4 _ = H4'
          obtain ⟨e4', h4', _⟩ := newF ht4 hg4
          have hLr4 := e4' _ _ (x3.keep lr _ nlrb hLr2)
          have X4' := (X2.trans x3).ext e4'
          have lenr : rs.length ≤ 80 := by
            have e := r1.length
            rw [List.length_take] at e
            omega
          refine ⟨lr, _, _, rfl, rfl, hLr4, szl (by rw [List.length_map, r2.length, List.length_map]; omega), rs ++ [(nm[pa], nm[pc], 1 + d3, d1 * (if decide (V.int d2 = V.int 0) = true then 1 else 0))], tr ++ [t4], _, _, _, rfl, ?_, ?_, X4'.upd hlr nlrb, by rw [upd_same, List.map_append]; rfl⟩
          · rw [List.take_add_one, hpr]
            exact Paired.snoc r1 ⟨na, nc, b3, (by show 1 ≤ 1 + d3; omega), (by show 1 + d3 ≤ 60; omega), hs0, hs1⟩
          · rw [List.map_append]
            have tm4 : TM K H' H4' := ((x1.tm.trans x2.tm).trans x3.tm).trans (tmE e4')
            exact Paired.snoc (r2.tm (tm4.trans (tm_updL hLr4))) ((tm_updL hLr4) _ _ (SqT.of h4'))
        · rintro _ H10 ⟨rs, tr, v8, v9, v11, rfl, r1, r2, x10, hLr⟩
          have hT : ts.length = prs.length := by rw [q4.length, List.length_map]
          rw [List.length_map, hT, List.take_length] at r1
          have X10 := X8.trans x10
          have hl10 := x10.keep l _ nlb hl8
          -- _law_stations
          refine ⟨sz rfl, fun ls hls => ?_⟩
          generalize hg11 : upd H10 ls _ = H11
          obtain ⟨e11, h11, _⟩ := newF hls hg11
          have nlsb : ls ≠ b := BagEx.ne X10.bag hls
          have nlls : l ≠ ls := ne_of_none hl10 hls
          have nlrls : lr ≠ ls := ne_of_none hLr hls
          refine ⟨_, rfl, _, rfl, _, _, rfl, b, _, rfl, ?_, ?_, X10.bag.ext e11, fun d H12 d0 d1 x12 => ⟨_, _, rfl, rfl, _, rfl, ?_, ?_, ?_⟩⟩
          · split <;> omega
          · split <;> omega
          · split at d1 <;> omega
          · split at d1 <;> omega
          have d12 : d < 12 := by split at d1 <;> omega
          have X12 := (X10.ext e11).trans x12
          refine for_range (lo := 0) (fun i σ' H' => ∃ (st : List Str) (v6 v12 : Option V), σ' = [some (.ref b), some (.int m), some (.ref l), some (.ref aP), some (.int mo), some (.ref lp), v6, some (.ref lr), v8, v9, some (.ref ls), v11, v12, none] ∧
            st.length ≤ i ∧ (0 < i → 1 ≤ st.length) ∧ st.Nodup ∧ (∀ x ∈ st, x ∈ nm) ∧ BagEx b H10 H' ∧ H' ls = some (.lst (st.map V.str)))
            ⟨[], v6, none, rfl, Nat.le_refl _, fun z => absurd z (Nat.lt_irrefl 0), List.nodup_nil, fun _ z => absurd z (by simp), (BagEx.of X10.bag e11).trans x12, x12.keep ls _ nlsb h11⟩ ?_ ?_
          · rintro i _ H' hi ⟨st, v6, v12, rfl, s1, s2, s3, s4, x, hLs⟩
            have hi' : (i : Int) < 1 + d := by omega
            refine ⟨_, rfl, _, rfl, _, rfl, b, m, rfl, by omega, by omega, x.bag, fun d2 H1 d20 d21 x1 => ?_⟩
            obtain ⟨j, rfl⟩ := Int.eq_ofNat_of_zero_le d20
            have nj : nm[j]? = some nm[j] := List.getElem?_eq_getElem (by omega)
            have X1 := x.trans x1
            have hl1 := X1.keep l _ nlb hl10
            refine ⟨l, _, _, _, rfl, rfl, SqL.of hl1, atI_nat (by rw [List.getElem?_map, nj]; rfl), ?_⟩
            have hLs1 := x1.keep ls _ nlsb hLs
            refine ⟨_, rfl, _, rfl, ls, _, rfl, .inl (SqL.of hLs1), rfl, flat_strs _, _, rfl, ?_⟩
            rw [inV_str]
            refine ite2 (fun c => ?_) (fun c => ?_)
            · have hn : nm[j] ∉ st := fun z => by rw [decide_eq_true z] at c; cases c
              refine ⟨_, rfl, .inl ⟨rfl, _, SqL.of hLs1⟩, _, rfl, ls, _, _, rfl, rfl, hLs1, szl (by rw [List.length_map]; omega), ?_⟩
              refine ⟨st ++ [nm[j]], some (.int (0 + (i : Int))), some (.str nm[j]), rfl, by rw [List.length_append]; show _ + 1 ≤ _; omega, fun _ => by rw [List.length_append]; show 1 ≤ _ + 1; omega, nodup_snoc s3 hn, fun y hy => ?_, X1.upd hls nlsb, by rw [upd_same, List.map_append]; rfl⟩
              · rcases List.mem_append.mp hy with z | z
                · exact s4 y z
                · rw [List.mem_singleton.mp z]; exact List.getElem_mem _
            · have hn : nm[j] ∈ st := by
                by_cases z : nm[j] ∈ st
                · exact z
                · rw [decide_eq_false z] at c; exact absurd rfl c
              exact ⟨st, some (.int (0 + (i : Int))), some (.str nm[j]), rfl, by omega, fun _ => List.length_pos_of_mem hn, s3, s4, X1, hLs1⟩
          · rintro _ H13 ⟨st, v6, v12, rfl, s1, s2, s3, s4, x13, hLs⟩
            have X13 := X10.trans x13
            have hLr13 := x13.keep lr _ nlrb hLr
            refine ⟨_, rfl, _, rfl, lr, _, rfl, .inl ⟨SqL.of hLr13, fun aR haR => ?_⟩⟩
            generalize hg14 : upd H13 aR _ = H14
            obtain ⟨e14, h14, _⟩ := newF haR hg14
            refine ⟨_, rfl, ls, _, rfl, .inl ⟨SqL.of (e14 _ _ hLs), fun aS haS => ?_⟩⟩
            generalize hg15 : upd H14 aS _ = H15
            obtain ⟨e15, h15, _⟩ := newF haS hg15
            refine ⟨sz rfl, fun aT haT => ?_⟩
            generalize hg16 : upd H15 aT _ = H16
            obtain ⟨e16, h16, _⟩ := newF haT hg16
            have e1416 := (e14.trans e15).trans e16
            have t616 : TM K H6 H16 := ((x8.tm.trans x10.tm).trans x13.tm).trans (tmE e1416)
            have t1016 : TM K H10 H16 := x13.tm.trans (tmE e1416)
            have lenr : rs.length = prs.length := r1.length.symm
            have nd := hN.nodup (by omega)
            have pn : (Gd.mk pl rs st).names = nm := p1
            refine k ⟨aT, aP, aR, aS, tP, tr, 0, []⟩ H16 ⟨pl, rs, st⟩ ⟨?_, ?_, fun x hx => hN.name (by rw [pn] at hx; exact hx), by rw [pn]; exact nd, p2, ?_, fun r hr => by rw [pn]; exact road_ok nd r1 hr, road_pw nd r1 q2, s2 ?_, ?_, fun x hx => by rw [pn]; exact s4 x hx, s3⟩ ⟨t616 _ _ aP6, ps6.tm t616, (tmE (e15.trans e16)) _ _ (SqT.of h14), r2.tm t1016, (tmE e16) _ _ (SqT.of h15)⟩ (SqT.of h16) ((((hP6.bag x8).bag x10).bag x13).ext e1416) (X13.ext e1416)
            · have := congrArg List.length p1; rw [List.length_map] at this; show 1 ≤ pl.length; omega
            · have := congrArg List.length p1; rw [List.length_map] at this; show pl.length ≤ 40; omega
            · show rs.length ≤ 80; split at d1 <;> omega
            · omega
            · show st.length ≤ 12; omega
end
end K36
/-! text K4 -/
namespace K36
open PySem PySem.Spec PyProof.Rows L2 SX
theorem map_at {α : Type} {f : α → V} {xs : List α} {i : Nat} {y : V} (h : (xs.map f)[i]? = some y) : ∃ x, xs[i]? = some x ∧ f x = y := by
  rw [List.getElem?_map] at h
  cases e : xs[i]? with
  | none => rw [e] at h; cases h
  | some z => rw [e] at h; exact ⟨z, rfl, Option.some.inj h⟩
section
variable {P : Program} {w : World} {K : PySem.W.Frag} {mg : Str → Option Value} {base : Heap}
abbrev N_law_engines : List Str := ["_law_bag_here", "_law_stations", "_law_many", "_law_found", "_law_name", "_law_sort"]
theorem sc_law_engines : FnScope N_law_engines ["_law_bag_here", "_law_stations"] (defScope s_law_engines) := ⟨rfl, rfl, rfl, by decide +kernel, rfl, by decide +kernel, by decide +kernel⟩
def sp_engines (K : PySem.W.Frag) : Sp := fun vs H Q _ => ∃ (b aS : Addr) (st : List Str), vs = [.ref b, .ref aS] ∧ Bag H b ∧ SqT K H aS (st.map V.str) ∧ 1 ≤ st.length ∧ st.length ≤ 12 ∧ ∀ (aE : Addr) (tE : List Addr) (es : List Eng) H', EOk st es → SqT K H' aE (tE.map V.ref) → Rows K H' tE (es.map encE) → BagEx b H H' → Q (.ref aE) H'
theorem ok_engines (T : Tx w K mg) (G_law_take : C8.Cal P w K mg base 1 "_law_take" sp_take []) (G_law_names : C8.Cal P w K mg base 2 "_law_names" sp_names []) : C8.Cal P w K mg base 3 "_law_engines" (sp_engines K) [] := by
  refine cal_mk T.F_law_engines T.g_law_engines sc_law_engines (fun _ _ _ _ _ _ us hl => match us, hl with | [_, _], _ => rfl) (fun vs H Q E h => ?_) (fun cdv A outer s H vs Q E hr h => ?_)
  · obtain ⟨b, aS, st, rfl, _⟩ := h
    rfl
  · obtain ⟨b, aS, st, rfl, hB, hS, s1, s12, k⟩ := h
    refine ⟨_, (pss_cons (ps_set (i := 2) sc_law_engines.nd rfl (Or.inl rfl) (pe_ix ix_tup (pe_tup (pa_cons pe_int (pa_cons pe_int (pa_cons pe_int (pa_cons pe_int (pa_cons pe_int pa_nil)))))) (C8.pe_c G_law_take hr (by decide) rfl (pa_cons (pv 0) (pa_cons pe_int pa_nil))) (fun _ _ => rfl)))
    (pss_cons (ps_set (i := 3) sc_law_engines.nd rfl (Or.inl rfl) (pe_lst pa_nil))
    (pss_cons (ps_for PassesOwn.never rfl (pi_list (C8.pe_c G_law_names hr (by decide) rfl (pa_cons (pv 0) (pa_cons (pv 2) pa_nil)))) (pg_name (i := 4) sc_law_engines.nd rfl (Or.inl rfl))
      (pss_cons (ps_set (i := 5) sc_law_engines.nd rfl (Or.inl rfl) (pe_ix ix_tup (pe_tup (pa_cons pe_str (pa_cons pe_str (pa_cons pe_str (pa_cons pe_str pa_nil))))) (C8.pe_c G_law_take hr (by decide) rfl (pa_cons (pv 0) (pa_cons pe_int pa_nil))) (fun _ _ => rfl)))
        (pss_one (ps_expr (pe_bm PySem.F.plainAttrs_list PySem.F.slot_list_append PySem.F.type_list_append mt_append (pv 3) (pa_cons (pe_tup (pa_cons (pv 4) (pa_cons (pv 5) (pa_cons (pe_ix ix_tup (pv 1) (C8.pe_c G_law_take hr (by decide) rfl (pa_cons (pv 0) (pa_cons (pe_callB call_len_seq (by rfl) T.b_len (by decide +kernel) (pa_cons (pv 1) pa_nil)) pa_nil))) (fun _ _ => rfl)) (pa_cons (pe_op op_add pe_int (C8.pe_c G_law_take hr (by decide) rfl (pa_cons (pv 0) (pa_cons pe_int pa_nil)))) pa_nil))))) pa_nil))))))
    (pss_one (ps_ret (pe_callTy call_tuple_of (by rfl) T.b_tuple (by decide +kernel) (pa_cons (pv 3) pa_nil))))))), ?_⟩
    refine ⟨sz rfl, fun t0 ht0 => ?_⟩
    generalize hg0 : upd H t0 _ = H0
    obtain ⟨e0, h0, _⟩ := newF ht0 hg0
    refine ⟨_, rfl, b, 5, rfl, by decide, by decide, hB.ext e0, fun d H1 d0 d1 x1 => ?_⟩
    obtain ⟨m, hat, m1, m40⟩ : ∃ m : Nat, atI [V.int 4, .int 8, .int 2, .int 24, .int 1] d = some (.int m) ∧ 1 ≤ m ∧ m ≤ 24 := by
      have h : d = 0 ∨ d = 1 ∨ d = 2 ∨ d = 3 ∨ d = 4 := by omega
      rcases h with rfl | rfl | rfl | rfl | rfl
      · exact ⟨4, rfl, by decide, by decide⟩
      · exact ⟨8, rfl, by decide, by decide⟩
      · exact ⟨2, rfl, by decide, by decide⟩
      · exact ⟨24, rfl, by decide, by decide⟩
      · exact ⟨1, rfl, by decide, by decide⟩
    refine ⟨t0, _, _, _, rfl, rfl, x1.t (SqT.of h0), hat, ?_⟩
    have X1 := (BagEx.of hB e0).trans x1
    refine ⟨sz rfl, fun lf hlf => ?_⟩
    generalize hg2 : upd H1 lf _ = H2
    obtain ⟨e2, h2, _⟩ := newF hlf hg2
    have nfb : lf ≠ b := BagEx.ne X1.bag hlf
    refine ⟨_, rfl, _, rfl, b, m, rfl, by omega, X1.bag.ext e2, fun l H3 nm hnm hN x3 hl hL => ?_⟩
    have nlb : l ≠ b := BagEx.ne (X1.bag.ext e2) hl
    have nfl : lf ≠ l := ne_of_none h2 hl
    have X3 := (X1.ext e2).trans x3
    refine ⟨l, rfl, ⟨_, SqL.of hL⟩, for_list (xs := nm.map V.str) (fun i σ' H' => ∃ (es : List Eng) (tE : List Addr) (v4 v5 : Option V), σ' = [some (.ref b), some (.ref aS), some (.int m), some (.ref lf), v4, v5] ∧ es.map (·.1) = nm.take i ∧
        (∀ e ∈ es, e.2.1 ∈ (["pump", "ladder", "tanker"] : List Str) ∧ e.2.2.1 ∈ st ∧ 1 ≤ e.2.2.2 ∧ e.2.2.2 ≤ 9) ∧ Rows K H' tE (es.map encE) ∧ BagEx b H1 H' ∧ H' l = some (.lst (nm.map V.str)) ∧ H' lf = some (.lst (tE.map V.ref)))
      ⟨[], [], none, none, rfl, rfl, fun _ z => absurd z (by simp), .nil, (BagEx.of X1.bag e2).trans x3, hL, x3.keep _ _ nfb h2⟩ (fun i σ' H' _ ⟨_, _, _, _, _, _, _, _, _, h, _⟩ => SqL.of h) ?_ ?_⟩
    · rintro i y _ H' hy ⟨es, tE, v4, v5, rfl, r1, r2, r3, x, hL', hF⟩
      obtain ⟨x0, hx, rfl⟩ := map_at hy
      have hS' : SqT K H' aS (st.map V.str) := (X1.trans x).t hS
      refine ⟨sz rfl, fun t4 ht4 => ?_⟩
      generalize hg4 : upd H' t4 _ = H4
      obtain ⟨e4, h4, _⟩ := newF ht4 hg4
      refine ⟨_, rfl, b, 4, rfl, by decide, by decide, x.bag.ext e4, fun d H5 d0 d1 x5 => ?_⟩
      obtain ⟨so, hat, hso⟩ : ∃ so : Str, atI [V.str "pump", .str "ladder", .str "tanker", .str "pump"] d = some (.str so) ∧ so ∈ (["pump", "ladder", "tanker"] : List Str) := by
        have h : d = 0 ∨ d = 1 ∨ d = 2 ∨ d = 3 := by omega
        rcases h with rfl | rfl | rfl | rfl <;> exact ⟨_, rfl, by simp⟩
      refine ⟨t4, _, _, _, rfl, rfl, x5.t (SqT.of h4), hat, ?_⟩
      have X5 := (x.ext e4).trans x5
      have hF5 := x5.keep lf _ nfb (e4 _ _ hF)
      have hS5 : SqT K H5 aS (st.map V.str) := x5.t (SqT.ext hS' e4)
      refine ⟨_, rfl, .inl ⟨rfl, _, SqL.of hF5⟩, _, rfl, _, rfl, _, rfl, _, rfl, _, rfl, aS, _, rfl, .inr hS5, b, _, rfl, ?_, ?_, X5.bag, fun d2 H6 d20 d21 x6 => ?_⟩
      · rw [List.length_map]; omega
      · rw [List.length_map]; omega
      rw [List.length_map] at d21
      obtain ⟨j, rfl⟩ := Int.eq_ofNat_of_zero_le d20
      have hj : st[j]? = some st[j] := List.getElem?_eq_getElem (by omega)
      refine ⟨aS, _, _, _, rfl, rfl, x6.t hS5, atI_nat (by rw [List.getElem?_map, hj]; rfl), ?_⟩
      refine ⟨_, rfl, b, 9, rfl, by decide, by decide, x6.bag, fun d3 H7 d30 d31 x7 => ⟨_, _, rfl, rfl, sz rfl, fun t8 ht8 => ?_⟩⟩
      generalize hg8 : upd H7 t8 _ = H8
      obtain ⟨e8, h8, _⟩ := newF ht8 hg8
      have X8 := ((X5.trans x6).trans x7).ext e8
      have hF8 := e8 _ _ ((x6.trans x7).keep lf _ nfb hF5)
      have hL8 := e8 _ _ ((x6.trans x7).keep l _ nlb (x5.keep l _ nlb (e4 _ _ hL')))
      have tm8 : TM K H' H8 := (((tmE e4).trans x5.tm).trans (x6.tm.trans x7.tm)).trans (tmE e8)
      have len : es.length ≤ 24 := by have := congrArg List.length r1; rw [List.length_map, List.length_take] at this; omega
      refine ⟨lf, _, _, rfl, rfl, hF8, szl (by rw [List.length_map, r3.length, List.length_map]; omega), es ++ [(x0, so, st[j], 1 + d3)], tE ++ [t8], _, _, rfl, ?_, fun e he => ?_, ?_, X8.upd hlf nfb, (upd_ne nfl.symm).trans hL8, by rw [upd_same, List.map_append]; rfl⟩
      · rw [List.map_append, r1, List.take_add_one, hx]; rfl
      · rcases List.mem_append.mp he with z | z
        · exact r2 e z
        · rw [List.mem_singleton.mp z]
          exact ⟨hso, List.getElem_mem _, (by show 1 ≤ 1 + d3; omega), (by show 1 + d3 ≤ 9; omega)⟩
      · rw [List.map_append]
        exact Paired.snoc (r3.tm (tm8.trans (tm_updL hF8))) ((tm_updL hF8) _ _ (SqT.of h8))
    · rintro _ H' ⟨es, tE, v4, v5, rfl, r1, r2, r3, x, hL', hF⟩
      rw [List.length_map, List.take_length] at r1
      refine ⟨_, rfl, lf, _, rfl, .inl ⟨SqL.of hF, fun aE haE => ?_⟩⟩
      generalize hg4 : upd H' aE _ = H4
      obtain ⟨e4, h4, _⟩ := newF haE hg4
      have len : es.length = m := by have := congrArg List.length r1; rw [List.length_map] at this; omega
      exact k aE tE es H4 ⟨by omega, by omega, fun e he => hN.name (by rw [← r1]; exact List.mem_map_of_mem he), by rw [r1]; exact hN.nodup (by omega), fun e he => (r2 e he).1, fun e he => (r2 e he).2.1, fun e he => (r2 e he).2.2⟩ (SqT.of h4) (r3.tm (tmE e4)) ((X1.trans x).ext e4)
abbrev N_law_house : List Str := ["_law_bag_here", "_law_told"]
theorem sc_law_house : FnScope N_law_house ["_law_bag_here"] (defScope s_law_house) := ⟨rfl, rfl, rfl, by decide +kernel, rfl, by decide +kernel, by decide +kernel⟩
def sp_house (K : PySem.W.Frag) : Sp := fun vs H Q _ => ∃ (b : Addr), vs = [.ref b] ∧ Bag H b ∧ ∀ (A : Adr) (g : Gd) (es : List Eng) (t : Addr) H', GOk g → EOk g.stations es → GAt K H' A g → EAt K H' A es → SqT K H' A.T [.ref A.P, .ref A.R, .ref A.S] → SqT K H' t [.ref A.T, .ref A.E] → PlT H' A.P (A.tP.map V.ref) → BagEx b H H' → Q (.ref t) H'
theorem ok_house (T : Tx w K mg) (G_law_ground : C8.Cal P w K mg base 3 "_law_ground" (sp_ground K) []) (G_law_engines : C8.Cal P w K mg base 3 "_law_engines" (sp_engines K) []) : C8.Cal P w K mg base 4 "_law_house" (sp_house K) [] := by
  refine cal_mk T.F_law_house T.g_law_house sc_law_house (fun _ _ _ _ _ _ us hl => match us, hl with | [_], _ => rfl) (fun vs H Q E h => ?_) (fun cdv A outer s H vs Q E hr h => ?_)
  · obtain ⟨b, rfl, _⟩ := h
    rfl
  · obtain ⟨b, rfl, hB, k⟩ := h
    refine ⟨_, (pss_cons (ps_set (i := 1) sc_law_house.nd rfl (Or.inl rfl) (C8.pe_c G_law_ground hr (by decide) rfl (pa_cons (pv 0) pa_nil)))
    (pss_one (ps_ret (pe_tup (pa_cons (pv 1) (pa_cons (C8.pe_c G_law_engines hr (by decide) rfl (pa_cons (pv 0) (pa_cons (pe_ix ix_tup (pv 1) pe_int (fun _ _ => rfl)) pa_nil))) pa_nil)))))), ?_⟩
    refine ⟨_, rfl, b, rfl, hB, fun A1 H1 g gok gat hT hP x1 => ?_⟩
    refine ⟨_, rfl, _, rfl, _, rfl, A1.T, _, _, _, rfl, rfl, hT, rfl, b, A1.S, g.stations, rfl, x1.bag, gat.s, gok.s1, gok.s12, fun aE tE es H2 eok hE hEs x2 => ?_⟩
    refine ⟨sz rfl, fun t ht => ?_⟩
    generalize hg3 : upd H2 t _ = H3
    obtain ⟨e3, h3, _⟩ := newF ht hg3
    have tm : TM K H1 H3 := x2.tm.trans (tmE e3)
    exact k { A1 with E := aE, tE := tE } g es t H3 gok eok ⟨tm _ _ gat.p, gat.ps.tm tm, tm _ _ gat.r, gat.rs.tm tm, tm _ _ gat.s⟩ ⟨(tmE e3) _ _ hE, hEs.tm (tmE e3)⟩ (tm _ _ hT) (SqT.of h3) ((hP.bag x2).ext e3) ((x1.trans x2).ext e3)
end
end K36
/-! text K5 -/
namespace K36
open PySem PySem.Spec PyProof.Rows L2 SX
section
variable {P : Program} {w : World} {K : PySem.W.Frag} {mg : Str → Option Value} {base : Heap}
abbrev N_law_kind : List Str := ["_law_bag_here"]
theorem sc_law_kind : FnScope N_law_kind ["_law_bag_here"] (defScope s_law_kind) := ⟨rfl, rfl, rfl, by decide +kernel, rfl, by decide +kernel, by decide +kernel⟩
def sp_kind : Sp := fun vs H Q _ => ∃ (b : Addr), vs = [.ref b] ∧ Bag H b ∧ ∀ (x : Str) H', x ∈ kinds → BagEx b H H' → Q (.str x) H'
theorem ok_kind (T : Tx w K mg) (G_law_take : C8.Cal P w K mg base 1 "_law_take" sp_take []) : C8.Cal P w K mg base 2 "_law_kind" sp_kind [] := by
  refine cal_mk T.F_law_kind T.g_law_kind sc_law_kind (fun _ _ _ _ _ _ us hl => match us, hl with | [_], _ => rfl) (fun vs H Q E h => ?_) (fun cdv A outer s H vs Q E hr h => ?_)
  · obtain ⟨b, rfl, _⟩ := h
    rfl
  · obtain ⟨b, rfl, hB, k⟩ := h
    refine ⟨_, (pss_one (ps_ret (pe_ix ix_tup (pe_tup (pa_cons pe_str (pa_cons pe_str (pa_cons pe_str (pa_cons pe_str (pa_cons pe_str (pa_cons pe_str pa_nil))))))) (C8.pe_c G_law_take hr (by decide) rfl (pa_cons (pv 0) (pa_cons pe_int pa_nil))) (fun _ _ => rfl)))), ?_⟩
    refine ⟨sz rfl, fun t ht => ?_⟩
    generalize hg : upd H t _ = H1
    obtain ⟨e1, h1, _⟩ := newF ht hg
    refine ⟨_, rfl, b, 6, rfl, by decide, by decide, hB.ext e1, fun d H2 d0 d1 x2 => ?_⟩
    obtain ⟨x, hx, hk⟩ : ∃ x : Str, atI [V.str "house", .str "car", .str "chimney", .str "grass", .str "people", .str "works"] d = some (.str x) ∧ x ∈ kinds := by
      have h : d = 0 ∨ d = 1 ∨ d = 2 ∨ d = 3 ∨ d = 4 ∨ d = 5 := by omega
      rcases h with rfl | rfl | rfl | rfl | rfl | rfl <;> exact ⟨_, rfl, by simp [kinds]⟩
    exact ⟨t, _, _, _, rfl, rfl, x2.t (SqT.of h1), hx, k _ _ hk ((BagEx.of hB e1).trans x2)⟩
abbrev N_law_deed : List Str := ["_law_bag_here", "_law_told", "_law_engines_here", "_law_calls", "_law_places", "_law_roads", "_law_stations", "_law_name", "_law_call", "_law_way"]
theorem sc_law_deed : FnScope N_law_deed ["_law_bag_here", "_law_told", "_law_engines_here", "_law_calls"] (defScope s_law_deed) := ⟨rfl, rfl, rfl, by decide +kernel, rfl, by decide +kernel, by decide +kernel⟩
def sp_deed (K : PySem.W.Frag) : Sp := fun vs H Q _ => ∃ (b lc : Addr) (A : Adr) (g : Gd) (es : List Eng) (cs : List Int), vs = [.ref b, .ref A.T, .ref A.E, .ref lc] ∧ Bag H b ∧ GOk g ∧ EOk g.stations es ∧ GAt K H A g ∧ EAt K H A es ∧ SqT K H A.T [.ref A.P, .ref A.R, .ref A.S] ∧
  H lc = some (.lst (cs.map V.int)) ∧ lc ≠ b ∧ (∀ c ∈ cs, 1 ≤ c ∧ c ≤ 200) ∧ cs.length ≤ 1000 ∧ ∀ (d : Deed) (t : Addr) H', DOk g es d → SqT K H' t d.vs → BagEx b H H' → Q (.ref t) H'
theorem ok_deed (T : Tx w K mg) (G_law_take : C8.Cal P w K mg base 1 "_law_take" sp_take []) (G_law_kind : C8.Cal P w K mg base 2 "_law_kind" sp_kind []) : C8.Cal P w K mg base 3 "_law_deed" (sp_deed K) [] := by
  refine cal_mk T.F_law_deed T.g_law_deed sc_law_deed (fun _ _ _ _ _ _ us hl => match us, hl with | [_, _, _, _], _ => rfl) (fun vs H Q E h => ?_) (fun cdv A outer s H vs Q E hr h => ?_)
  · obtain ⟨b, lc, A, g, es, cs, rfl, _⟩ := h
    rfl
  · obtain ⟨b, lc, A, g, es, cs, rfl, hB, gok, eok, ga, ea, hT, hC, nlc, hcs, lcs, k⟩ := h
    refine ⟨_, (pss_cons (ps_asg (pv 1) (pg_tup rfl (pgs_cons (pg_name (i := 4) sc_law_deed.nd rfl (Or.inl rfl)) (pgs_cons (pg_name (i := 5) sc_law_deed.nd rfl (Or.inl rfl)) (pgs_cons (pg_name (i := 6) sc_law_deed.nd rfl (Or.inl rfl)) pgs_nil)))))
    (pss_cons (ps_set (i := 7) sc_law_deed.nd rfl (Or.inl rfl) (pe_ix ix_tup (pe_ix ix_tup (pv 2) (C8.pe_c G_law_take hr (by decide) rfl (pa_cons (pv 0) (pa_cons (pe_callB call_len_seq (by rfl) T.b_len (by decide +kernel) (pa_cons (pv 2) pa_nil)) pa_nil))) (fun _ _ => rfl)) pe_int (fun _ _ => rfl)))
    (pss_cons (ps_set (i := 8) sc_law_deed.nd rfl (Or.inl rfl) (pe_op op_add pe_int (C8.pe_c G_law_take hr (by decide) rfl (pa_cons (pv 0) (pa_cons pe_int pa_nil)))))
    (C8.pss_cut (ps_if (PW.pt (pw_and (pt_cmpR (op_neD hr.units) (pv 3) (pe_lst pa_nil) (nomark _)) (pw_and1 (pt_cmpR op_gt (C8.pe_c G_law_take hr (by decide) rfl (pa_cons (pv 0) (pa_cons pe_int pa_nil))) pe_int (nomark _)))))
      (pss_one (ps_set (i := 8) sc_law_deed.nd rfl (Or.inl rfl) (pe_ix ix_list (pv 3) (C8.pe_c G_law_take hr (by decide) rfl (pa_cons (pv 0) (pa_cons (pe_callB call_len_seq (by rfl) T.b_len (by decide +kernel) (pa_cons (pv 3) pa_nil)) pa_nil))) (fun _ _ => rfl))))
      pss_nil)
    (pss_cons (ps_set (i := 9) sc_law_deed.nd rfl (Or.inl rfl) (C8.pe_c G_law_take hr (by decide) rfl (pa_cons (pv 0) (pa_cons pe_int pa_nil))))
    (pss_cons (ps_if (pt_cmpR op_lt (pv 9) pe_int (nomark _))
      (pss_one (ps_ret (pe_tup (pa_cons pe_str (pa_cons (pe_ix ix_tup (pe_ix ix_tup (pv 4) (C8.pe_c G_law_take hr (by decide) rfl (pa_cons (pv 0) (pa_cons (pe_callB call_len_seq (by rfl) T.b_len (by decide +kernel) (pa_cons (pv 4) pa_nil)) pa_nil))) (fun _ _ => rfl)) pe_int (fun _ _ => rfl)) (pa_cons (C8.pe_c G_law_kind hr (by decide) rfl (pa_cons (pv 0) pa_nil)) pa_nil))))))
      pss_nil)
    (pss_cons (ps_if (pt_cmpR op_lt (pv 9) pe_int (nomark _))
      (pss_one (ps_ret (pe_tup (pa_cons pe_str (pa_cons (pv 7) (pa_cons (pv 8) pa_nil))))))
      pss_nil)
    (pss_cons (ps_if (pt_cmpR op_lt (pv 9) pe_int (nomark _))
      (pss_one (ps_ret (pe_tup (pa_cons (pe_ix ix_tup (pe_tup (pa_cons pe_str (pa_cons pe_str (pa_cons pe_str (pa_cons pe_str (pa_cons pe_str pa_nil)))))) (pe_op op_sub (pv 9) pe_int) (fun _ _ => rfl)) (pa_cons (pv 7) pa_nil)))))
      pss_nil)
    (pss_cons (ps_if (pt_cmpR op_lt (pv 9) pe_int (nomark _))
      (pss_one (ps_ret (pe_tup (pa_cons (pe_ix ix_tup (pe_tup (pa_cons pe_str (pa_cons pe_str pa_nil))) (pe_op op_sub (pv 9) pe_int) (fun _ _ => rfl)) (pa_cons (pv 7) (pa_cons (pe_ix ix_tup (pv 6) (C8.pe_c G_law_take hr (by decide) rfl (pa_cons (pv 0) (pa_cons (pe_callB call_len_seq (by rfl) T.b_len (by decide +kernel) (pa_cons (pv 6) pa_nil)) pa_nil))) (fun _ _ => rfl)) pa_nil))))))
      pss_nil)
    (pss_cons (ps_if (PW.pt (pw_and (pt_cmpR op_lt (pv 9) pe_int (nomark _)) (pw_and1 (pt_cmpR (op_neD hr.units) (pv 5) (pe_tup pa_nil) (nomark _)))))
      (pss_one (ps_ret (pe_tup (pa_cons (pe_ix ix_tup (pe_tup (pa_cons pe_str (pa_cons pe_str pa_nil))) (pe_op op_sub (pv 9) pe_int) (fun _ _ => rfl)) (pa_cons (C8.pe_c G_law_take hr (by decide) rfl (pa_cons (pv 0) (pa_cons (pe_callB call_len_seq (by rfl) T.b_len (by decide +kernel) (pa_cons (pv 5) pa_nil)) pa_nil))) pa_nil)))))
      pss_nil)
    (pss_one (ps_ret (pe_ix ix_list (pe_lst (pa_cons (pe_tup (pa_cons pe_str (pa_cons (pv 8) pa_nil))) (pa_cons (pe_tup (pa_cons pe_str (pa_cons (pv 8) (pa_cons (pe_op op_add pe_int (C8.pe_c G_law_take hr (by decide) rfl (pa_cons (pv 0) (pa_cons pe_int pa_nil)))) pa_nil)))) (pa_cons (pe_tup (pa_cons pe_str (pa_cons (pv 8) pa_nil))) (pa_cons (pe_tup (pa_cons pe_str pa_nil)) pa_nil))))) (pe_op op_mod (pv 9) pe_int) (fun _ _ => rfl)))))))))))))), ?_⟩
    refine ⟨_, rfl, A.T, _, rfl, hT, rfl, _, _, rfl, _, _, rfl, _, _, rfl, rfl, ?_⟩
    have le : A.tE.length = es.length := by have := ea.es.length; rwa [List.length_map] at this
    have lp : A.tP.length = g.places.length := by have := ga.ps.length; rwa [List.length_map] at this
    have lr : A.tR.length = g.roads.length := by have := ga.rs.length; rwa [List.length_map] at this
    have e1 := eok.e1
    have e24 := eok.e24
    have p1 := gok.p1
    have p40 := gok.p40
    have s1 := gok.s1
    have s12 := gok.s12
    have r80 := gok.r80
    -- _law_name
    refine ⟨_, rfl, _, rfl, _, rfl, A.E, _, rfl, .inr ea.e, b, _, rfl, ?_, ?_, hB, fun d H1 d0 d1 x1 => ?_⟩
    · rw [List.length_map, le]; omega
    · rw [List.length_map, le]; omega
    rw [List.length_map, le] at d1
    obtain ⟨j, rfl⟩ := Int.eq_ofNat_of_zero_le d0
    have hj : es[j]? = some es[j] := List.getElem?_eq_getElem (by omega)
    obtain ⟨tj, htj, hrow⟩ := Paired.at ea.es (i := j) (b := encE es[j]) (by rw [List.getElem?_map, hj]; rfl)
    have hname : es[j].1 ∈ es.map (·.1) := List.mem_map_of_mem (List.getElem_mem _)
    refine ⟨A.E, _, _, _, rfl, rfl, x1.t ea.e, atI_nat (by rw [List.getElem?_map, htj]; rfl), tj, _, _, _, rfl, rfl, x1.t hrow, rfl, ?_⟩
    generalize es[j].1 = nm at hname
    -- _law_call
    refine ⟨_, rfl, b, 200, rfl, by decide, by decide, x1.bag, fun d H2 d0 d1 x2 => ⟨_, _, rfl, rfl, ?_⟩⟩
    have X2 := x1.trans x2
    have hC2 := X2.keep _ _ nlc hC
    refine ⟨fun σ' H' => ∃ c : Int, 1 ≤ c ∧ c ≤ 200 ∧ σ' = [some (.ref b), some (.ref A.T), some (.ref A.E), some (.ref lc), some (.ref A.P), some (.ref A.R), some (.ref A.S), some (.str nm), some (.int c), none] ∧ BagEx b H2 H', ?_, ?_⟩
    · refine ⟨_, rfl, sz rfl, fun t3 ht3 => ?_⟩
      generalize hg3 : upd H2 t3 _ = H3
      obtain ⟨e3, h3, _⟩ := newF ht3 hg3
      have allI : (cs.map V.int).all isV = true := by rw [List.all_map, List.all_eq_true]; intro x _; rfl
      have sh : SeqAt.shaped (.list ((cs.map V.int).map dV)) = true := by
        unfold SeqAt.shaped
        rw [show PyData.canLay0 (.list ((cs.map V.int).map dV)) = true from lay_v allI, Bool.true_and]
        refine decide_eq_true ?_
        show PyData.depthAll ((cs.map V.int).map dV) + 1 ≤ 64
        rw [depth_v allI]; decide
      refine ⟨.list ((cs.map V.int).map dV), .list [], .lst (SqL.of (e3 _ _ hC2)) (dpAll_v allI), .lst (SqL.of h3) .nil, sh, by decide +kernel, _, rfl, ?_⟩
      have stay : ∀ H', BagEx b H2 H' → ∃ c : Int, 1 ≤ c ∧ c ≤ 200 ∧ ([some (.ref b), some (.ref A.T), some (.ref A.E), some (.ref lc), some (.ref A.P), some (.ref A.R), some (.ref A.S), some (.str nm), some (.int (1 + d)), none] : List (Option V)) = [some (.ref b), some (.ref A.T), some (.ref A.E), some (.ref lc), some (.ref A.P), some (.ref A.R), some (.ref A.S), some (.str nm), some (.int c), none] ∧ BagEx b H2 H' := fun H' x => ⟨1 + d, by omega, by omega, rfl, x⟩
      refine ite2 (fun q => ?_) (fun _ => iteF (stay H3 (BagEx.of X2.bag e3)))
      have cne : 0 < cs.length := by
        cases cs with
        | nil => exact absurd q (by decide +kernel)
        | cons a r => exact Nat.succ_pos _
      refine ⟨_, rfl, b, 8, rfl, by decide, by decide, X2.bag.ext e3, fun d4 H4 _ _ x4 => ⟨_, _, rfl, rfl, _, rfl, ?_⟩⟩
      have X4 := (BagEx.of X2.bag e3).trans x4
      refine ite2 (fun _ => ?_) (fun _ => stay H4 X4)
      have hC4 := x4.keep _ _ nlc (e3 _ _ hC2)
      refine ⟨_, rfl, _, rfl, _, rfl, lc, _, rfl, .inl (SqL.of hC4), b, _, rfl, ?_, ?_, x4.bag, fun d5 H5 d50 d51 x5 => ?_⟩
      · rw [List.length_map]; omega
      · rw [List.length_map]; omega
      rw [List.length_map] at d51
      obtain ⟨i, rfl⟩ := Int.eq_ofNat_of_zero_le d50
      have hi : cs[i]? = some cs[i] := List.getElem?_eq_getElem (by omega)
      obtain ⟨c1, c2⟩ := hcs _ (List.getElem_mem (show i < cs.length by omega))
      exact ⟨lc, _, _, _, rfl, rfl, SqL.of (x5.keep _ _ nlc hC4), atI_nat (by rw [List.getElem?_map, hi]; rfl), cs[i], c1, c2, rfl, X4.trans x5⟩
    · rintro _ H3 ⟨c, c1, c2, rfl, x3⟩
      have X3 := X2.trans x3
      have fin : ∀ (d : Deed) (t : Addr) H' , DOk g es d → BagEx b H3 H' → H' t = none → Q (.ref t) (upd H' t (.tup d.vs)) := fun d t H' hd x ht => k d t _ hd (SqT.of upd_same) ((X3.trans x).ext (Ext.upd ht))
      -- _law_way
      refine ⟨_, rfl, b, 19, rfl, by decide, by decide, x3.bag, fun way H4 w0 w1 x4 => ?_⟩
      have X4 := X3.trans x4
      have ga4 := ga.tm (K := K) X4.tm
      refine ⟨_, rfl, _, _, rfl, rfl, _, rfl, ?_⟩
      refine ite2 (fun _ => ?_) (fun q3 => ?_)
      · -- call
        refine ⟨_, rfl, _, rfl, _, rfl, A.P, _, rfl, .inr ga4.p, b, _, rfl, ?_, ?_, x4.bag, fun d H5 d0 d1 x5 => ?_⟩
        · rw [List.length_map, lp]; omega
        · rw [List.length_map, lp]; omega
        rw [List.length_map, lp] at d1
        obtain ⟨i, rfl⟩ := Int.eq_ofNat_of_zero_le d0
        have hi : g.places[i]? = some g.places[i] := List.getElem?_eq_getElem (by omega)
        obtain ⟨ti, hti, hrow⟩ := Paired.at ga4.ps (i := i) (b := encP g.places[i]) (by rw [List.getElem?_map, hi]; rfl)
        refine ⟨A.P, _, _, _, rfl, rfl, x5.t ga4.p, atI_nat (by rw [List.getElem?_map, hti]; rfl), ti, _, _, _, rfl, rfl, x5.t hrow, rfl, ?_⟩
        refine ⟨_, rfl, b, rfl, x5.bag, fun kd H6 hk x6 => ⟨sz rfl, fun t ht => ?_⟩⟩
        exact fin (.call g.places[i].1 kd) t H6 ⟨List.mem_map_of_mem (List.getElem_mem _), hk⟩ ((x4.trans x5).trans x6) ht
      have w3 : 3 ≤ way := by
        have := of_decide_eq_false (by simpa using q3 : decide (way < 3) = false)
        omega
      refine ⟨_, rfl, _, _, rfl, rfl, _, rfl, ?_⟩
      refine ite2 (fun _ => ?_) (fun q6 => ?_)
      · -- send
        refine ⟨_, rfl, _, rfl, sz rfl, fun t ht => ?_⟩
        exact fin (.send nm c) t H4 ⟨hname, c1, c2⟩ x4 ht
      have w6 : 6 ≤ way := by
        have := of_decide_eq_false (by simpa using q6 : decide (way < 6) = false)
        omega
      refine ⟨_, rfl, _, _, rfl, rfl, _, rfl, ?_⟩
      refine ite2 (fun q11 => ?_) (fun q11 => ?_)
      · -- there, back, home, off, on
        have w11 : way < 11 := of_decide_eq_true q11
        refine ⟨sz rfl, fun t5 ht5 => ?_⟩
        generalize hg5 : upd H4 t5 _ = H5
        obtain ⟨e5, h5, _⟩ := newF ht5 hg5
        have h : way = 6 ∨ way = 7 ∨ way = 8 ∨ way = 9 ∨ way = 10 := by omega
        rcases h with rfl | rfl | rfl | rfl | rfl
        · exact ⟨_, rfl, _, _, rfl, rfl, t5, _, _, _, rfl, rfl, SqT.of h5, rfl, _, rfl, sz rfl, fun t ht => fin (.there nm) t H5 hname (x4.ext e5) ht⟩
        · exact ⟨_, rfl, _, _, rfl, rfl, t5, _, _, _, rfl, rfl, SqT.of h5, rfl, _, rfl, sz rfl, fun t ht => fin (.back nm) t H5 hname (x4.ext e5) ht⟩
        · exact ⟨_, rfl, _, _, rfl, rfl, t5, _, _, _, rfl, rfl, SqT.of h5, rfl, _, rfl, sz rfl, fun t ht => fin (.home nm) t H5 hname (x4.ext e5) ht⟩
        · exact ⟨_, rfl, _, _, rfl, rfl, t5, _, _, _, rfl, rfl, SqT.of h5, rfl, _, rfl, sz rfl, fun t ht => fin (.off nm) t H5 hname (x4.ext e5) ht⟩
        · exact ⟨_, rfl, _, _, rfl, rfl, t5, _, _, _, rfl, rfl, SqT.of h5, rfl, _, rfl, sz rfl, fun t ht => fin (.on nm) t H5 hname (x4.ext e5) ht⟩
      have w11 : 11 ≤ way := by
        have := of_decide_eq_false (by simpa using q11 : decide (way < 11) = false)
        omega
      refine ⟨_, rfl, _, _, rfl, rfl, _, rfl, ?_⟩
      refine ite2 (fun q13 => ?_) (fun q13 => ?_)
      · -- stand, lend
        have w13 : way < 13 := of_decide_eq_true q13
        refine ⟨sz rfl, fun t5 ht5 => ?_⟩
        generalize hg5 : upd H4 t5 _ = H5
        obtain ⟨e5, h5, _⟩ := newF ht5 hg5
        have h : way = 11 ∨ way = 12 := by omega
        rcases h with rfl | rfl
        · refine ⟨_, rfl, _, _, rfl, rfl, t5, _, _, _, rfl, rfl, SqT.of h5, rfl, _, rfl, _, rfl, _, rfl, _, rfl, A.S, _, rfl, .inr (SqT.ext ga4.s e5), b, _, rfl, ?_, ?_, x4.bag.ext e5, fun d H6 d0 d1 x6 => ?_⟩
          · rw [List.length_map]; omega
          · rw [List.length_map]; omega
          rw [List.length_map] at d1
          obtain ⟨i, rfl⟩ := Int.eq_ofNat_of_zero_le d0
          have hi : g.stations[i]? = some g.stations[i] := List.getElem?_eq_getElem (by omega)
          refine ⟨A.S, _, _, _, rfl, rfl, x6.t (SqT.ext ga4.s e5), atI_nat (by rw [List.getElem?_map, hi]; rfl), ?_⟩
          exact ⟨sz rfl, fun t ht => fin (.stand nm g.stations[i]) t H6 ⟨hname, List.getElem_mem _⟩ ((x4.ext e5).trans x6) ht⟩
        · refine ⟨_, rfl, _, _, rfl, rfl, t5, _, _, _, rfl, rfl, SqT.of h5, rfl, _, rfl, _, rfl, _, rfl, _, rfl, A.S, _, rfl, .inr (SqT.ext ga4.s e5), b, _, rfl, ?_, ?_, x4.bag.ext e5, fun d H6 d0 d1 x6 => ?_⟩
          · rw [List.length_map]; omega
          · rw [List.length_map]; omega
          rw [List.length_map] at d1
          obtain ⟨i, rfl⟩ := Int.eq_ofNat_of_zero_le d0
          have hi : g.stations[i]? = some g.stations[i] := List.getElem?_eq_getElem (by omega)
          refine ⟨A.S, _, _, _, rfl, rfl, x6.t (SqT.ext ga4.s e5), atI_nat (by rw [List.getElem?_map, hi]; rfl), ?_⟩
          exact ⟨sz rfl, fun t ht => fin (.lend nm g.stations[i]) t H6 ⟨hname, List.getElem_mem _⟩ ((x4.ext e5).trans x6) ht⟩
      have w13 : 13 ≤ way := by
        have := of_decide_eq_false (by simpa using q13 : decide (way < 13) = false)
        omega
      have last : ∀ H5, BagEx b H4 H5 → tRet (tOp (rIxL K) (tLst (tCons (tTup (tCons (tC (.str "again")) (tCons (tVar 8) tNil))) (tCons (tTup (tCons (tC (.str "make")) (tCons (tVar 8) (tCons (tOp (rI0 fun i j => V.int (i + j)) (tC (.int 1)) (tCall sp_take [] C8.E0 (tCons (tVar 0) (tCons (tC (.int 20)) tNil)))) tNil)))) (tCons (tTup (tCons (tC (.str "stop")) (tCons (tVar 8) tNil))) (tCons (tTup (tCons (tC (.str "nothing")) tNil)) tNil)))))
          (tOp (rI (fun _ j => 0 < j) fun i j => V.int (i % j)) (tVar 9) (tC (.int 4)))) { nx := fun _ H' => Q .non H', rt := Q } [some (.ref b), some (.ref A.T), some (.ref A.E), some (.ref lc), some (.ref A.P), some (.ref A.R), some (.ref A.S), some (.str nm), some (.int c), some (.int way)] H5 := fun H5 x5 => by
        have X5 := x4.trans x5
        refine ⟨_, rfl, sz rfl, fun ta hta => ?_⟩
        generalize hga : upd H5 ta _ = Ha
        obtain ⟨a1, a2, _⟩ := newF hta hga
        refine ⟨_, rfl, _, rfl, b, 20, rfl, by decide, by decide, x5.bag.ext a1, fun d H6 d0 d1 x6 => ⟨_, _, rfl, rfl, sz rfl, fun tb htb => ?_⟩⟩
        generalize hgb : upd H6 tb _ = Hb
        obtain ⟨b1, b2, _⟩ := newF htb hgb
        refine ⟨_, rfl, sz rfl, fun tc htc => ?_⟩
        generalize hgc : upd Hb tc _ = Hc
        obtain ⟨c1', c2', _⟩ := newF htc hgc
        refine ⟨sz rfl, fun td htd => ?_⟩
        generalize hgd : upd Hc td _ = Hd
        obtain ⟨d1', d2', _⟩ := newF htd hgd
        refine ⟨sz rfl, fun l hl => ?_⟩
        generalize hge : upd Hd l _ = He
        obtain ⟨f1, f2, _⟩ := newF hl hge
        have X := (((X5.ext a1).trans x6).ext b1).ext ((c1'.trans d1').trans f1)
        have XE := X3.trans X
        have ta' : SqT K He ta (Deed.again c).vs := (tmE ((b1.trans c1').trans (d1'.trans f1))) _ _ (x6.t (SqT.of a2))
        have tb' : SqT K He tb (Deed.make c (1 + d)).vs := (tmE ((c1'.trans d1').trans f1)) _ _ (SqT.of b2)
        have tc' : SqT K He tc (Deed.stop c).vs := (tmE (d1'.trans f1)) _ _ (SqT.of c2')
        have td' : SqT K He td Deed.nothing.vs := (tmE f1) _ _ (SqT.of d2')
        have m0 := Int.emod_nonneg way (show (4 : Int) ≠ 0 by decide)
        have m1 := Int.emod_lt_of_pos way (show (0 : Int) < 4 by decide)
        have h : way % 4 = 0 ∨ way % 4 = 1 ∨ way % 4 = 2 ∨ way % 4 = 3 := by omega
        refine ⟨_, rfl, _, _, rfl, rfl, (by show (0 : Int) < 4; decide), ?_⟩
        rcases h with h | h | h | h
        · exact ⟨l, _, _, _, rfl, rfl, SqL.of f2, (by rw [h]; rfl), k (.again c) ta He ⟨c1, c2⟩ ta' XE⟩
        · exact ⟨l, _, _, _, rfl, rfl, SqL.of f2, (by rw [h]; rfl), k (.make c (1 + d)) tb He ⟨⟨c1, c2⟩, by omega, by omega⟩ tb' XE⟩
        · exact ⟨l, _, _, _, rfl, rfl, SqL.of f2, (by rw [h]; rfl), k (.stop c) tc He ⟨c1, c2⟩ tc' XE⟩
        · exact ⟨l, _, _, _, rfl, rfl, SqL.of f2, (by rw [h]; rfl), k .nothing td He trivial td' XE⟩
      refine ⟨_, rfl, _, _, rfl, rfl, _, rfl, ?_⟩
      refine ite2 (fun q15 => ?_) (fun _ => iteF (last H4 (.rfl' x4.bag)))
      have w15 : way < 15 := of_decide_eq_true q15
      refine ⟨_, rfl, sz rfl, fun t5 ht5 => ?_⟩
      generalize hg5 : upd H4 t5 _ = H5
      obtain ⟨e5, h5, _⟩ := newF ht5 hg5
      have allR := gok.rows
      have sh : SeqAt.shaped (.tuple ((g.roads.map encR).map dR)) = true := by
        unfold SeqAt.shaped
        rw [show PyData.canLay0 (.tuple ((g.roads.map encR).map dR)) = true from lay_rs allR, Bool.true_and]
        refine decide_eq_true ?_
        show PyData.depthAll ((g.roads.map encR).map dR) + 1 ≤ 64
        have := depth_rs allR
        omega
      refine ⟨.tuple ((g.roads.map encR).map dR), .tuple [], .tup (SqT.ext ga4.r e5) (dp_rows (ga4.rs.tm (tmE e5)) allR), .tup (SqT.of h5) .nil, sh, by decide +kernel, _, rfl, ?_⟩
      refine ite2 (fun q => ?_) (fun _ => last H5 (BagEx.of x4.bag e5))
      have rne : 0 < g.roads.length := by
        cases hh : g.roads with
        | nil => rw [hh] at q; exact absurd q (by decide +kernel)
        | cons a r => exact Nat.succ_pos _
      refine ⟨sz rfl, fun t6 ht6 => ?_⟩
      generalize hg6 : upd H5 t6 _ = H6
      obtain ⟨e6, h6, _⟩ := newF ht6 hg6
      have e46 := e5.trans e6
      have h : way = 13 ∨ way = 14 := by omega
      rcases h with rfl | rfl
      · refine ⟨_, rfl, _, _, rfl, rfl, t6, _, _, _, rfl, rfl, SqT.of h6, rfl, _, rfl, _, rfl, A.R, _, rfl, .inr (SqT.ext ga4.r e46), b, _, rfl, ?_, ?_, x4.bag.ext e46, fun d H7 d0 d1 x7 => ⟨sz rfl, fun t ht => ?_⟩⟩
        · rw [List.length_map, lr]; omega
        · rw [List.length_map, lr]; omega
        rw [List.length_map, lr] at d1
        exact fin (.shut d) t H7 ⟨d0, d1⟩ ((x4.ext e46).trans x7) ht
      · refine ⟨_, rfl, _, _, rfl, rfl, t6, _, _, _, rfl, rfl, SqT.of h6, rfl, _, rfl, _, rfl, A.R, _, rfl, .inr (SqT.ext ga4.r e46), b, _, rfl, ?_, ?_, x4.bag.ext e46, fun d H7 d0 d1 x7 => ⟨sz rfl, fun t ht => ?_⟩⟩
        · rw [List.length_map, lr]; omega
        · rw [List.length_map, lr]; omega
        rw [List.length_map, lr] at d1
        exact fin (.clear d) t H7 ⟨d0, d1⟩ ((x4.ext e46).trans x7) ht
end
end K36
/-! text KP1 -/
namespace K36
open PySem PySem.Spec PyProof.Rows L2 SX
section
variable {P : Program} {w : World} {K : PySem.W.Frag} {mg : Str → Option Value} {base : Heap}
theorem tyTup {H : Hp} {p : Addr} {xs : List V} (h : SqT K H p xs) : TyX K H (.ref p) (.type "tuple") := by
  rcases h with (h | ⟨o, h⟩) | ⟨o, _, _, h, c, _⟩
  · exact .base (.tup h)
  · exact .fTuple h
  · exact .kTuple h c
theorem k_ii : PySem.W.kitOne K (.type "int") (.type "int") = some true := kit_ty (by decide +kernel)
theorem k_ib : PySem.W.kitOne K (.type "int") (.type "bool") = some false := kit_ty (by decide +kernel)
theorem k_ss : PySem.W.kitOne K (.type "str") (.type "str") = some true := kit_ty (by decide +kernel)
theorem k_tt : PySem.W.kitOne K (.type "tuple") (.type "tuple") = some true := kit_ty (by decide +kernel)
abbrev N_is_whole : List Str := ["thing", "low", "high"]
theorem sc_is_whole : FnScope N_is_whole ["thing", "low", "high"] (defScope s_is_whole) := ⟨rfl, rfl, rfl, by decide +kernel, rfl, by decide +kernel, by decide +kernel⟩
def sp_is_whole : Sp := fun vs H Q _ => ∃ (x lo hi : Int), vs = [.int x, .int lo, .int hi] ∧ Q (.bl (decide (lo ≤ x ∧ x ≤ hi))) H
theorem ok_is_whole (T : Tx w K mg) : C8.Cal P w K mg base 1 "is_whole" sp_is_whole [] := by
  refine cal_mk T.F_is_whole T.g_is_whole sc_is_whole (fun _ _ _ _ _ _ us hl => match us, hl with | [_, _, _], _ => rfl) (fun vs H Q E h => ?_) (fun cdv A outer s H vs Q E hr h => ?_)
  · obtain ⟨x, lo, hi, rfl, _⟩ := h
    rfl
  · obtain ⟨x, lo, hi, rfl, k⟩ := h
    refine ⟨_, (pss_one (ps_ret (pe_and (pe_callB call_isi (by rfl) T.b_isinstance (by decide +kernel) (pa_cons (pv 0) (pa_cons (pe_bltn (v := .ty "int") (by rfl) T.b_int (by decide +kernel) rfl) pa_nil))) (pe_and (pe_not (pe_callB call_isi (by rfl) T.b_isinstance (by decide +kernel) (pa_cons (pv 0) (pa_cons (pe_bltn (v := .ty "bool") (by rfl) T.b_bool (by decide +kernel) rfl) pa_nil)))) (pe_one (pe_chain op_le op_le (pv 1) (pv 0) (pv 2))))))), ?_⟩
    refine ⟨_, rfl, _, _, _, _, _, rfl, .ty _, .base (.int _), k_ii, _, rfl, ?_⟩
    refine iteT ⟨_, rfl, _, _, _, _, _, rfl, .ty _, .base (.int _), k_ib, _, rfl, _, rfl, iteT ⟨_, rfl, _, rfl, _, _, rfl, rfl, _, rfl, ?_⟩⟩
    by_cases c : lo ≤ x
    · rw [decide_eq_true c]
      refine iteT ⟨_, rfl, _, _, rfl, rfl, ?_⟩
      show Q (.bl (decide (x ≤ hi))) H
      by_cases c2 : x ≤ hi
      · rw [decide_eq_true c2]; rwa [decide_eq_true ⟨c, c2⟩] at k
      · rw [decide_eq_false c2]; rwa [decide_eq_false (fun z => c2 z.2)] at k
    · rw [decide_eq_false c]
      refine iteF ?_
      rwa [decide_eq_false (fun z => c z.1)] at k
abbrev N_is_name : List Str := ["thing", "sign"]
theorem sc_is_name : FnScope N_is_name ["thing"] (defScope s_is_name) := ⟨rfl, rfl, rfl, by decide +kernel, rfl, by decide +kernel, by decide +kernel⟩
def sp_is_name : Sp := fun vs H Q _ => ∃ (x : Str), vs = [.str x] ∧ NameOk x ∧ ∀ H', Ext H H' → Q (.bl true) H'
theorem ok_is_name (T : Tx w K mg) : C8.Cal P w K mg base 1 "is_name" sp_is_name [] := by
  refine cal_mk T.F_is_name T.g_is_name sc_is_name (fun _ _ _ _ _ _ us hl => match us, hl with | [_], _ => rfl) (fun vs H Q E h => ?_) (fun cdv A outer s H vs Q E hr h => ?_)
  · obtain ⟨x, rfl, _⟩ := h
    rfl
  · obtain ⟨x, rfl, hx, k⟩ := h
    refine ⟨_, (pss_cons (ps_if (PW.pt (pw_or (pt_not (pt_val (pe_callB call_isi (by rfl) T.b_isinstance (by decide +kernel) (pa_cons (pv 0) (pa_cons (pe_bltn (v := .ty "str") (by rfl) T.b_str (by decide +kernel) rfl) pa_nil))))) (pw_or1 (pt_not (pt_chain op_le op_le pe_int (pe_callB call_len_str (by rfl) T.b_len (by decide +kernel) (pa_cons (pv 0) pa_nil)) (C8.pe_gc rfl T.k_MOST_LETTERS))))))
      (pss_one (ps_ret pe_bl))
      pss_nil)
    (pss_one (ps_ret (pe_callB (cr_all rfl) (by rfl) T.b_all (by decide +kernel) (pa_cons (pe_lc (own := [("sign", 1)]) (g := (gName 1)) (tt := tYes) rfl sc_is_name.nd (pi_str (pv 0)) (blkOk_by (N := N_is_name) (sc := defScope s_is_name) (by decide +kernel)) (fun _ _ _ _ _ => (pg_name (i := 1) sc_is_name.nd rfl (Or.inl rfl))) (fun _ _ _ _ _ => pts_nil) (fun _ _ _ _ _ => (pe_cmpR op_in_sign (pv 1) (C8.pe_gc rfl T.k_LETTERS) (by rfl)))) pa_nil))))), ?_⟩
    obtain ⟨h1, h8, hc⟩ := hx
    refine ⟨_, rfl, _, _, _, _, _, rfl, .ty _, .base (.str _), k_ss, _, rfl, ?_⟩
    refine iteF ⟨_, rfl, x, rfl, Nat.le_trans h8 (by decide), _, _, rfl, rfl, _, rfl, ?_⟩
    rw [decide_eq_true (show (1 : Int) ≤ x.length by omega)]
    refine iteT ⟨_, _, rfl, rfl, _, rfl, ?_⟩
    rw [decide_eq_true (show (x.length : Int) ≤ 8 by omega)]
    refine iteF ?_
    refine ⟨_, rfl, x, rfl, fun D hD => ?_⟩
    refine lc_it walk_str (fun i H' => Ext H H' ∧ H' D = some (.lst ((List.replicate i true).map V.bl))) ⟨Ext.upd hD, upd_same⟩ (fun _ _ _ _ => True.intro) ?_ ?_
    · rintro i v H1 H' hi ⟨e, hDD⟩ ⟨rfl, c, hcc, rfl⟩
      refine ⟨rfl, _, rfl, c, _, rfl, rfl, _, hDD, szl (by rw [List.length_map, List.length_replicate]; exact Nat.lt_of_lt_of_le hi (Nat.le_trans h8 (by decide))), updE e hD, ?_⟩
      have hm : c ∈ ABC.cps.toList := by
        have := hc c (by
          rw [Array.getElem?_eq_some_iff] at hcc
          obtain ⟨z, rfl⟩ := hcc
          exact Array.mem_toList_iff.mpr (Array.getElem_mem z))
        exact abc_mem this.1 this.2
      rw [upd_same, decide_eq_true hm, List.replicate_succ', List.map_append]; rfl
    · rintro H' ⟨e, hDD⟩
      refine ⟨D, _, rfl, SqL.of hDD, ?_⟩
      rw [show (List.replicate x.cps.size true).all id = true by rw [List.all_eq_true]; intro b hb; exact (List.mem_replicate.mp hb).2]
      exact k _ e
abbrev N_is_one_of : List Str := ["thing", "texts"]
theorem sc_is_one_of : FnScope N_is_one_of ["thing", "texts"] (defScope s_is_one_of) := ⟨rfl, rfl, rfl, by decide +kernel, rfl, by decide +kernel, by decide +kernel⟩
def sp_is_one_of (K : PySem.W.Frag) : Sp := fun vs H Q _ => ∃ (x : Str) (p : Addr) (ys : List Str), vs = [.str x, .ref p] ∧ (SqL K H p (ys.map V.str) ∨ SqT K H p (ys.map V.str)) ∧ Q (.bl (decide (x ∈ ys))) H
theorem ok_is_one_of (T : Tx w K mg) : C8.Cal P w K mg base 1 "is_one_of" (sp_is_one_of K) [] := by
  refine cal_mk T.F_is_one_of T.g_is_one_of sc_is_one_of (fun _ _ _ _ _ _ us hl => match us, hl with | [_, _], _ => rfl) (fun vs H Q E h => ?_) (fun cdv A outer s H vs Q E hr h => ?_)
  · obtain ⟨x, p, ys, rfl, _⟩ := h
    rfl
  · obtain ⟨x, p, ys, rfl, hp, k⟩ := h
    refine ⟨_, (pss_one (ps_ret (pe_and (pe_callB call_isi (by rfl) T.b_isinstance (by decide +kernel) (pa_cons (pv 0) (pa_cons (pe_bltn (v := .ty "str") (by rfl) T.b_str (by decide +kernel) rfl) pa_nil))) (pe_one (pe_cmpR op_in_seq (pv 0) (pv 1) (by rfl)))))), ?_⟩
    refine ⟨_, rfl, _, _, _, _, _, rfl, .ty _, .base (.str _), k_ss, _, rfl, ?_⟩
    refine iteT ⟨_, rfl, _, rfl, p, _, rfl, hp, rfl, flat_strs _, ?_⟩
    rw [inV_str]
    exact k
def sp_is_one_ofD : Sp := fun vs H Q _ => ∃ (x : Str) (p : Addr) (o : Option V), vs = [.str x, .ref p] ∧ DGet H p (.str x) o ∧ Q (.bl o.isSome) H
theorem ok_is_one_ofD (T : Tx w K mg) : C8.Cal P w K mg base 1 "is_one_of" sp_is_one_ofD [] := by
  refine cal_mk T.F_is_one_of T.g_is_one_of sc_is_one_of (fun _ _ _ _ _ _ us hl => match us, hl with | [_, _], _ => rfl) (fun vs H Q E h => ?_) (fun cdv A outer s H vs Q E hr h => ?_)
  · obtain ⟨x, p, o, rfl, _⟩ := h
    rfl
  · obtain ⟨x, p, o, rfl, hg, k⟩ := h
    refine ⟨_, (pss_one (ps_ret (pe_and (pe_callB call_isi (by rfl) T.b_isinstance (by decide +kernel) (pa_cons (pv 0) (pa_cons (pe_bltn (v := .ty "str") (by rfl) T.b_str (by decide +kernel) rfl) pa_nil))) (pe_one (pe_cmp (pc_din (hu_of hr) (pv 0) (pv 1)) rfl))))), ?_⟩
    refine ⟨_, rfl, _, _, _, _, _, rfl, .ty _, .base (.str _), k_ss, _, rfl, ?_⟩
    exact iteT ⟨_, rfl, _, rfl, p, _, rfl, hg, k⟩
abbrev N_is_tuple_of : List Str := ["thing", "many"]
theorem sc_is_tuple_of : FnScope N_is_tuple_of ["thing", "many"] (defScope s_is_tuple_of) := ⟨rfl, rfl, rfl, by decide +kernel, rfl, by decide +kernel, by decide +kernel⟩
def sp_is_tuple_of (K : PySem.W.Frag) : Sp := fun vs H Q _ => ∃ (p : Addr) (xs : List V) (n : Int), vs = [.ref p, .int n] ∧ SqT K H p xs ∧ Q (.bl (decide ((xs.length : Int) = n))) H
theorem ok_is_tuple_of (T : Tx w K mg) : C8.Cal P w K mg base 1 "is_tuple_of" (sp_is_tuple_of K) [] := by
  refine cal_mk T.F_is_tuple_of T.g_is_tuple_of sc_is_tuple_of (fun _ _ _ _ _ _ us hl => match us, hl with | [_, _], _ => rfl) (fun vs H Q E h => ?_) (fun cdv A outer s H vs Q E hr h => ?_)
  · obtain ⟨p, xs, n, rfl, _⟩ := h
    rfl
  · obtain ⟨p, xs, n, rfl, hp, k⟩ := h
    refine ⟨_, (pss_one (ps_ret (pe_and (pe_callB call_isi (by rfl) T.b_isinstance (by decide +kernel) (pa_cons (pv 0) (pa_cons (pe_bltn (v := .ty "tuple") (by rfl) T.b_tuple (by decide +kernel) rfl) pa_nil))) (pe_one (pe_cmpR op_eq (pe_callB call_len_seq (by rfl) T.b_len (by decide +kernel) (pa_cons (pv 0) pa_nil)) (pv 1) (nomark _)))))), ?_⟩
    refine ⟨_, rfl, _, _, _, _, _, rfl, .ty _, tyTup hp, k_tt, _, rfl, ?_⟩
    refine iteT ⟨_, rfl, p, xs, rfl, .inr hp, _, rfl, rfl, ?_⟩
    rwa [show decide (V.int (xs.length : Int) = V.int n) = decide ((xs.length : Int) = n) from decide_eq_decide.mpr ⟨fun z => V.int.inj z, fun z => by rw [z]⟩]
end
end K36
/-! text KEnum -/
/-! enumerate over a tuple, also with start=; a class called with keywords -/
namespace K36
open PySem PySem.Spec PyProof.Rows L2
def Itet (K : PySem.W.Frag) (k0 : Int) (a : Addr) : It :=
  ⟨fun i H => ∃ (xs : List V) (x : V), SqT K H a xs ∧ xs[i]? = some x, fun i H v H' => ∃ T x, v = .ref T ∧ H T = none ∧ H' = upd H T (.tup [.int (k0 + (i : Nat)), x]) ∧ ∀ xs, SqT K H a xs → xs[i]? = some x, fun i H => ∃ xs : List V, SqT K H a xs ∧ xs.length ≤ i⟩
theorem draws0 {prog : Program} {w : World} {A : Around} (hh : A.handled = none) (it t : Addr) {items : Array Value} {i : Nat} (hx : items[i]? = none) :
    Draws prog w A it [it, t] 0 (fun _ _ => True) (fun _ h => h.IsTupleIter it t i ∧ h.IsTuple t items) where
  live := fun _ _ st => let ⟨o, ho, _⟩ := st.1; ⟨o, ho⟩
  frame := fun _ _ _ st hk => ⟨st.1.at fun o e => hk it (by simp) o e, st.2.at fun o e => hk t (by simp) o e⟩
  item := fun i s Q E hi st hQ => absurd hi (Nat.not_lt_zero _)
  done := fun s Q E st hE => wpAny_nextOf_tuple_end hh st.1 st.2 hx hE
theorem turn_enumT {P : Program} {w : World} {K : PySem.W.Frag} {elts : List Expr} {kk : Nat} {tpos : Pos} (k0 : Int) (a e it : Addr) :
    Turn P w K (.Tuple elts kk tpos) (Itet K k0 a) [e, it] e (fun i h => (∃ old, IsEnum h e it (k0 + ((i : Nat) : Int)) old) ∧ h.IsTupleIter it a i ∧ e ≠ it) where
  mem := by simp
  obj := fun i h st b hb => by
    obtain ⟨⟨old, he⟩, ⟨o, ho, hc, hd⟩, _⟩ := st
    have e' : b = e ∨ b = it := by simpa using hb
    rcases e' with z | z
    · rw [z]; exact ⟨_, he, fun v q => nomatch q⟩
    · rw [z]; exact ⟨o, ho, fun v q => by rw [hd] at q; cases q⟩
  keep := fun i h h' st k => let ⟨⟨old, he⟩, hi, hne⟩ := st; ⟨⟨old, k e (by simp) _ he⟩, hi.at fun o q => k it (by simp) o q, hne⟩
  item := by
    intro X hP hw hK hc i pins s σ H E I hf st hg
    subst hP hw hK
    obtain ⟨⟨old, he⟩, hit, hne⟩ := st
    obtain ⟨xs, x, hq, hx⟩ := hg
    obtain ⟨its, rv, p, hz⟩ := I.tuple hq
    obtain ⟨u, hu, ru⟩ := rv.get hx
    have hel : e < s.heap.objs.size := Heap.lt_size he
    have p' : s.heap.IsTuple a its.toArray := p
    have hil : it < s.heap.objs.size := by obtain ⟨_, q, _⟩ := hit; exact Heap.lt_size q
    obtain ⟨f0, f1, f2, f3, f4, f5⟩ := hf it (by simp)
    have nai : a ≠ it := fun z => by
      obtain ⟨o, q, c, _⟩ := hit
      obtain ⟨o2, q2, c2, _⟩ := p'
      rw [z, q] at q2
      cases q2
      rw [c] at c2
      exact absurd c2 (by decide)
    have nae : a ≠ e := fun z => by
      obtain ⟨o2, q2, c2, _⟩ := p'
      have he2 : s.heap.get? e = _ := he
      rw [z, he2] at q2
      cases q2
      exact absurd (show Value.type "enumerate" = .type "tuple" from c2) (by decide)
    have hlt : i < its.toArray.size := by
      have := (List.getElem?_eq_some_iff.mp hu).1
      simpa using this
    refine wpAny_pyNext_enum_itemC (Draws.tuple (show X.A.in1.handled = none by simp [I.ok.hd hc]) it a nai its.toArray) he ⟨hit, p'⟩ hlt hne (by simp [hne, Ne.symm nae]) fun u' h' tk hu' ho hst' hT hsz hk => ?_
    have eu : u' = u := by
      have e1 : its.toArray[i]? = some u := by simpa using hu
      rw [e1] at hu'
      exact (Option.some.inj hu').symm
    subst eu
    obtain ⟨hit', _⟩ := hst'
    refine ⟨_, rfl, wpAny_letOwnedTupleGo_enum (s := { s with heap := h', toks := tk + 1 }) ho fun h'' he' sb => ?_⟩
    have hT2 : h''.get? s.heap.objs.size = some { cls := .type "tuple", data := .seq #[.int (k0 + (i : Nat)) tk, u'] } := (sb.2 _ (Nat.ne_of_gt hel)).trans hT
    have new : ObjOk X.prog X.w (upd H s.heap.objs.size (.tup [.int (k0 + (i : Nat)), x])) h'' s.heap.objs.size (.tup [.int (k0 + (i : Nat)), x]) :=
      ⟨by show 2 ≤ sizeLine; decide, [.int (k0 + (i : Nat)) tk, u'], .cons ⟨_, rfl⟩ (.cons ru .nil), ⟨_, hT2, rfl, _, rfl⟩⟩
    have I1 : Inv X pins σ (upd H s.heap.objs.size (.tup [.int (k0 + (i : Nat)), x])) { s with heap := h'', toks := tk + 1 } :=
      I.turnedNew (ch := [e, it]) (fun b ob hb q => (sb.2 b (fun z => hb (by simp [z]))).trans (hk b ob (fun z => hb (by simp [z])) (fun z => hb (by simp [z])) q)) hf (Nat.le_refl _) new
    refine ⟨.ref s.heap.objs.size, _, I1, rfl, ⟨_, x, rfl, I.hok.fresh (Nat.le_refl _), rfl, fun ys hy => by rw [I.tuple_inj hy hq]; exact hx⟩, ⟨⟨u', ?_⟩, hit'.at fun o q => (sb.2 it (Ne.symm hne)).trans q, hne⟩, fun b hb => ?_⟩
    · have e1 : k0 + ((i + 1 : Nat) : Int) = k0 + (i : Int) + 1 := by omega
      rw [e1]; exact he'
    · have hb' : b < s.heap.objs.size := by
        have e' : b = e ∨ b = it := by simpa using hb
        rcases e' with z | z
        · rw [z]; exact hel
        · rw [z]; exact hil
      rw [upd_ne (Nat.ne_of_lt hb')]
      exact (hf b hb).1
  done := by
    intro X hP hw hK hc i pins s σ H E I hf st hg
    subst hP hw hK
    obtain ⟨⟨old, he⟩, hit, hne⟩ := st
    obtain ⟨xs, hq, hx⟩ := hg
    obtain ⟨its, rv, p, hz⟩ := I.tuple hq
    have p' : s.heap.IsTuple a its.toArray := p
    obtain ⟨f0, f1, f2, f3, f4, f5⟩ := hf it (by simp)
    have hl := rv.length
    have hx' : its.toArray[i]? = none := by
      rw [List.getElem?_toArray]
      exact List.getElem?_eq_none (by omega)
    exact wpAny_pyNext_enum_endD (draws0 (show X.A.in1.handled = none by simp [I.ok.hd hc]) it a hx') he ⟨hit, p'⟩ fun h' eb => ⟨rfl, I.turned (t' := s.toks) (fun b o hb e => eb b o hb e) f0 f1 f3 f4 f5⟩
  self := fun A i s Q E st h => let ⟨⟨_, he⟩, _⟩ := st; wpAny_pyIter_enum he h
theorem walk_enumT {K : PySem.W.Frag} {k0 : Int} {a : Addr} {xs : List V} : Walk (Itet K k0 a) xs.length (fun H => SqT K H a xs) (YPair (fun i => some (.int (k0 + (i : Nat)))) (fun i => xs[i]?)) := by
  refine ⟨fun i _ hi q => ⟨xs, xs[i], q, by simp [hi]⟩, fun _ q => ⟨xs, q, Nat.le_refl _⟩, fun i H v H' _ q y => ?_⟩
  obtain ⟨T, x, h1, h2, h3, h4⟩ := y
  exact ⟨T, .int (k0 + (i : Nat)), x, h1, h2, h3, rfl, h4 xs q⟩
def iEnumT (K : PySem.W.Frag) (k0 : Int) (ta : TA) : TI := fun σ H R => ta σ H fun vs H1 => ∃ a xs, vs = [.ref a] ∧ SqT K H1 a xs ∧ R (Itet K k0 a) H1
theorem meets_enumerate_newB1 {v : Value} {o : Obj} {H : Heap → Prop} (B : Begins v o H) :
    Meets (Builtin.«enumerate.__new__» ⟨[.type "enumerate", v], []⟩) (fun _ R s => H s.heap ∧
      R (.ok (.ret (.ref (s.heap.push o).objs.size))) { s with heap := (s.heap.push o).push { cls := .type "enumerate", data := .fields #[.none, .bool false, .ref s.heap.objs.size, rawInt 0, .none, .none] } }) :=
  .of_wp fun prog w A R s h => by
    obtain ⟨hp, g, d, tk, os⟩ := s; obtain ⟨h1, h⟩ := h
    have hsub := sub_enumerate
    have q1 : ∀ {A' : Around} {E : Value → Shared → Prop} {Q : Value → Shared → Prop}, Q (.ref hp.objs.size) ⟨hp.push o, g, d, tk, os⟩ → wpAny (model prog w) A' (pyIter v) Q E ⟨hp, g, d, tk, os⟩ :=
      fun q => B.iter prog w _ _ ⟨hp, g, d, tk, os⟩ _ h1 q
    wp_walk using q1
    refine wpAny_stack_any fun st => wpAny_pure ?_
    split
    · rename_i c _ _ _ _ _
      cases (c == Value.type "enumerate")
      · wp_walk using q1
        exact ⟨_, rfl, h⟩
      · wp_walk using q1
        exact ⟨_, rfl, h⟩
    · wp_walk using q1
      exact ⟨_, rfl, h⟩
theorem enum_begins1 {prog : Program} {w : World} {A : Around} {E : Value → Shared → Prop} {s : Shared} {v : Value} {o : Obj} {H : Heap → Prop} {Q : Value → Shared → Prop} (B : Begins v o H) (h1 : H s.heap)
    (h : ∀ h', IsEnum h' (s.heap.objs.size + 1) s.heap.objs.size 0 .none → h'.get? s.heap.objs.size = some o → h'.objs.size = s.heap.objs.size + 2 →
      (∀ b o, s.heap.get? b = some o → h'.get? b = some o) → Q (.ref (s.heap.objs.size + 1)) { s with heap := h' }) :
    wpAny (model prog w) A (call (.type "enumerate") [v]) Q E s := by
  refine callType_new PySem.F.called_enumerate (by decide) (PySem.F.typeCall_enumerate_1 _) (PySem.F.newCall_enumerate_1 _) (fun obj => PySem.F.args_object_init_2 obj _) PySem.F.entry_enumerate_new
    (meets_enumerate_newB1 B) ⟨h1, ?_⟩
  have hz : (s.heap.push o).objs.size = s.heap.objs.size + 1 := Heap.size_push ..
  show _ ∧ _
  rw [hz]
  have he : IsEnum ((s.heap.push o).push { cls := .type "enumerate", data := .fields #[.none, .bool false, .ref s.heap.objs.size, rawInt 0, .none, .none] }) (s.heap.objs.size + 1) s.heap.objs.size 0 .none := by
    have := Heap.get?_push_size (s.heap.push o) (o := { cls := .type "enumerate", data := .fields #[.none, .bool false, .ref s.heap.objs.size, rawInt 0, .none, .none] }) rfl
    rw [hz] at this; exact this
  refine ⟨⟨_, he, rfl⟩, h _ he (Heap.get?_push_of_some _ (Heap.get?_push_size _ B.free)) (by rw [Heap.size_push, hz]) fun b o x => Heap.get?_push_of_some _ (Heap.get?_push_of_some _ x)⟩
theorem pie_enumT {X : Cx} {pins : List (Addr × Obj)} {σ : L2.St} {H1 : Hp} {s1 : Shared} {elts : List Expr} {kk : Nat} {tpos : Pos} {R : It → Hp → Prop} {a : Addr} {k0 : Int} {h' : Heap} (I1 : Inv X pins σ H1 s1)
    (he : IsEnum h' (s1.heap.objs.size + 1) s1.heap.objs.size k0 .none) (hit : h'.get? s1.heap.objs.size = some { cls := .type "tuple_iterator", data := .fields #[.ref a, .int 0 0] })
    (hk : ∀ b o, s1.heap.get? b = some o → h'.get? b = some o) (q : R (Itet X.K k0 a) H1) :
    wpAny (model X.prog X.w) X.A (pyIter (.ref (s1.heap.objs.size + 1))) (PIE X pins σ (.Tuple elts kk tpos) R) X.xe { s1 with heap := h' } := by
  refine wpAny_pyIter_enum he ?_
  have I2 : Inv X pins σ H1 { s1 with heap := h' } := I1.kept (t' := s1.toks) hk
  refine ⟨s1.heap.objs.size + 1, [s1.heap.objs.size + 1, s1.heap.objs.size], _, _, H1, rfl, I2, turn_enumT k0 a (s1.heap.objs.size + 1) s1.heap.objs.size, ⟨⟨.none, by simpa using he⟩, ⟨_, hit, rfl, rfl⟩, Nat.succ_ne_self _⟩, fun b hb => ?_, q⟩
  have e' : b = s1.heap.objs.size + 1 ∨ b = s1.heap.objs.size := by simpa using hb
  have hle : s1.heap.objs.size ≤ b := by
    rcases e' with z | z
    · rw [z]; exact Nat.le_add_right _ _
    · rw [z]; exact Nat.le_refl _
  exact I1.fpOk hle (I1.hok.fresh hle)
theorem pi_enumT {X : Cx} {e : Expr} {ta : TA} {p pos tpos : Pos} {elts : List Expr} {kk : Nat} (hg : Gl X "enumerate") (hm : X.mg "enumerate" = none) (ha : PA X [e] ta) (hs : starEach [e] X.env = [(false, eval e X.env)] := by rfl) :
    PI X (.Tuple elts kk tpos) (.Call (.Name "enumerate" p) [e] [] pos) (iEnumT X.K 0 ta) := by
  refine ⟨fun pins s σ H R I h => ?_⟩
  refine Call_ (ld_blt I hg hm boot_enumerate (PyProof.Rows.callWith_type1 (thn (ha.run pos pins s σ H _ I h) fun us s1 ⟨vs, H1, I1, r1, q1⟩ => ?_) hs rfl))
  obtain ⟨a, xs, ex, hq, q⟩ := q1
  subst ex
  rw [Vals.ref1 r1]
  obtain ⟨its, rv, p', hz⟩ := I1.tuple hq
  exact enum_begins1 (begins_tuple a its.toArray) p' fun h' he hit hsz hk => pie_enumT I1 he hit hk q
theorem callWith_typeKw {M : Model} {A : Around} {E : Value → Shared → Prop} {s : Shared} {env : Env} {pos : Pos} {T : String} {e : Expr} {rest : List Expr} {kws : List Keyword} {Q : Value → Shared → Prop}
    (h : wpAny M A (spliced (backTo pos (starEach (e :: rest) env))) (fun vs s₁ => wpAny M A (evalAll ((backToKw pos (keywordEach kws env)).map (·.2)))
      (fun kvs s₂ => wpAny M A (call (.type T) vs (((backToKw pos (keywordEach kws env)).filterMap (·.1)).zip kvs)) Q E s₂) E s₁) E s)
    (he : backTo pos (starEach (e :: rest) env) = (false, eval e env) :: backTo pos (starEach rest env))
    (hplain : (backTo pos (starEach (e :: rest) env)).any (·.1) = false)
    (hall : (backToKw pos (keywordEach kws env)).all (·.1.isSome) = true)
    (hkw : (backToKw pos (keywordEach kws env)).any (·.1.isNone) = false) :
    wpAny M A (callWith pos (.type T) [] (backTo pos (starEach (e :: rest) env)) (backToKw pos (keywordEach kws env))) Q E s := by
  unfold callWith
  rw [he] at h
  have h2 : wpAny M A (evalArgs (.type T) true (backTo pos (starEach (e :: rest) env)) (backToKw pos (keywordEach kws env))) (fun a s₁ => wpAny M A (call (.type T) ([] ++ a.pos) a.kw) Q E s₁) E s := by
    rw [he]
    exact evalArgs_kwB hall h
  refine wpAny_bind (wpAny_holding (wpAny_mono h2 (fun a s₁ h₁ => wpAny_bind (wpAny_standAt ?_)) fun _ _ x => x))
  simp only [hplain, hkw, Bool.or_false]
  refine wpAny_bind (wpAny_pure ?_)
  exact wpAny_bind (wpAny_mono h₁ (fun r s₂ hr => wpAny_bind (wpAny_holding (wpAny_point (wpAny_pure hr)))) fun _ _ x => x)
/-- enumerate(tuple, start=1) -/
def iEnumS (K : PySem.W.Frag) (ta tk : TA) : TI := fun σ H R => ta σ H fun vs H1 => tk σ H1 fun zs H2 => ∃ a xs, vs = [.ref a] ∧ zs = [.int 1] ∧ SqT K H2 a xs ∧ R (Itet K 1 a) H2
theorem pi_enumS {X : Cx} {e : Expr} {ta tk : TA} {kws : List Keyword} {p pos tpos : Pos} {elts : List Expr} {kk : Nat} (hg : Gl X "enumerate") (hm : X.mg "enumerate" = none) (ha : PA X [e] ta) (hk : PK X kws tk)
    (he : backTo pos (starEach [e] X.env) = (false, eval e X.env) :: backTo pos (starEach [] X.env) := by rfl) (hpl : (backTo pos (starEach [e] X.env)).any (·.1) = false := by rfl)
    (hall : (backToKw pos (keywordEach kws X.env)).all (·.1.isSome) = true := by rfl) (hnone : (backToKw pos (keywordEach kws X.env)).any (·.1.isNone) = false := by rfl) (hks : (backToKw pos (keywordEach kws X.env)).filterMap (·.1) = [Str.ofString "start"] := by rfl) :
    PI X (.Tuple elts kk tpos) (.Call (.Name "enumerate" p) [e] kws pos) (iEnumS X.K ta tk) := by
  refine ⟨fun pins s σ H R I h => ?_⟩
  refine wpAny_Call_Name_kw (ld_blt I hg hm boot_enumerate (callWith_typeKw (thn (ha.run pos pins s σ H _ I h) fun us s1 ⟨vs, H1, I1, r1, q1⟩ => thn (hk.run pos pins s1 σ H1 _ I1 q1) fun ws s2 ⟨zs, H2, I2, rz, a, xs, ev, ez, hq, q⟩ => ?_) he hpl hall hnone))
  subst ev ez
  rw [hks, Vals.ref1 r1]
  cases rz with
  | cons r rr =>
    cases rr
    obtain ⟨t, rfl⟩ := r
    obtain ⟨its, rv, p', hz⟩ := I2.tuple hq
    exact enum_begins_start (begins_tuple a its.toArray) p' (by decide) (by decide) fun h' he hit hsz hk => pie_enumT I2 he hit hk q
end K36
/-! text KSet -/
/-! a set of unlike texts, its size; the size of a set of tuples of ints -/
namespace K36
open PySem PySem.Spec PyProof.Rows L2
theorem not_mem_take {α : Type} {xs : List α} (h : xs.Nodup) {i : Nat} {x : α} (hx : xs[i]? = some x) : x ∉ xs.take i := fun m => by
  obtain ⟨j, hj⟩ := List.mem_iff_getElem?.mp m
  rw [List.getElem?_take] at hj
  split at hj
  · rename_i c
    have hlt := (List.getElem?_eq_some_iff.mp hx).1
    have := (List.getElem?_inj (i := j) (j := i) (by omega) h).mp (by rw [hj, hx])
    omega
  · cases hj
section
variable {prog : Program} {w : World} {A : Around} {R : Result → Shared → Prop} {I : Addr} {fp wr : List Addr} {G : Array GenState → Array GenState → Prop} {n : Nat} {P : Nat → Value → Prop} {St : Nat → Shared → Prop}
theorem loopStrs (W : WalksS prog w A.in1 I fp wr G n P St) (S : Addr) (hSf : S ∉ fp) (xs : List Str) (hsz : xs.length = n) (hnd : xs.Nodup) (hn1 : n ≤ 1000)
    (hval : ∀ i v, P i v → ∃ t, v = .str (xs.getD i Str.empty) t) :
    ∀ (k i : Nat) (s : Shared), n - i = k → i ≤ n → St i s →
      s.heap.SetOf (PySem.strKind prog w) S (fun k' => (xs.take i).any (· == k')) i →
      (∀ s', Moved (S :: wr) G s s' → s'.heap.SetOf (PySem.strKind prog w) S (fun k' => (xs.take n).any (· == k')) n → R (.ok (.ret .none)) s') →
      codeAny (model prog w) A (.builtin "set.update.loop" ⟨[.ref S, .ref I], []⟩) R s := by
  have hSw : S ∉ wr := fun h => hSf (W.sub _ h)
  have hsub : ∀ b ∈ wr, b ∈ S :: wr := fun b hb => List.mem_cons_of_mem _ hb
  intro k
  induction k with
  | zero =>
    intro i s hk hi hst hS hR
    have hin : i = n := by omega
    subst hin
    refine codeAny_builtin PyProof.Rows.F.entry_set_update_loop ?_
    rw [Around.under_plainId PyProof.Rows.F.plain_set_update_loop _]
    show wpAny _ A.in1 (pyNext (.ref I) >>= _) _ _ s
    refine wpAny_bind (W.done s _ _ hst fun s' hm => ?_)
    show wpAny _ A.in1 (ret Value.none) _ _ s'
    exact wpAny_pure (hR s' (hm.mono hsub) (by
      obtain ⟨o, es, ep, t, ho, rest⟩ := hS
      exact ⟨o, es, ep, t, hm.heap S _ hSw ho, rest⟩))
  | succ k ih =>
    intro i s hk hi hst hS hR
    have hlt : i < n := by omega
    refine codeAny_builtin PyProof.Rows.F.entry_set_update_loop ?_
    rw [Around.under_plainId PyProof.Rows.F.plain_set_update_loop _]
    show wpAny _ A.in1 (pyNext (.ref I) >>= _) _ _ s
    refine wpAny_bind (W.item i s _ _ hlt hst fun v s' hP hst' hm => ?_)
    obtain ⟨t, rfl⟩ := hval i v hP
    have hS' : s'.heap.SetOf (PySem.strKind prog w) S (fun k' => (xs.take i).any (· == k')) i := by
      obtain ⟨o, es, ep, tb, ho, rest⟩ := hS
      exact ⟨o, es, ep, tb, hm.heap S _ hSw ho, rest⟩
    show wpAny _ A.in1 (holding [Value.str (xs.getD i Str.empty) t] (setAdd S (.str (xs.getD i Str.empty) t)) >>= _) _ _ s'
    refine wpAny_bind (wpAny_holding ?_)
    unfold setAdd
    refine wpAny_holding ?_
    refine wpAny_bind ((PySem.strKind prog w).pyHash (k := xs.getD i Str.empty) (strKind_is _ _ _ _) ?_)
    refine wpAny_setAddHashed_of (knd := PySem.strKind prog w) (s := { s' with toks := s'.toks + 1 }) (strKind_is _ _ _ _) rfl hS' (by unfold scanBound; omega) fun h' hsb hS2 => ?_
    have hSi : h'.SetOf (PySem.strKind prog w) S (fun k' => (xs.take (i + 1)).any (· == k')) (i + 1) := by
      have hx : xs[i]? = some (xs.getD i Str.empty) := by rw [List.getElem?_eq_getElem (by omega), List.getD_eq_getElem?_getD, List.getElem?_eq_getElem (by omega)]; rfl
      have hnot : (xs.take i).any (· == xs.getD i Str.empty) = false := by
        rw [List.any_eq_false]
        intro y hy e
        exact not_mem_take hnd hx (by rw [← eq_of_beq e]; exact hy)
      refine SetOf_congr hS2 (fun k' => ?_) (by rw [hnot]; rfl)
      rw [List.take_add_one, hx, List.any_append]
      show _ = (_ || [xs.getD i Str.empty].any (· == k'))
      congr 1
      by_cases e : k' = xs.getD i Str.empty
      · rw [e, decide_eq_true rfl, List.any_cons, beq_self_eq_true]; rfl
      · have hb : (xs.getD i Str.empty == k') = false := by simpa [beq_iff_eq] using (fun h' : xs.getD i Str.empty = k' => e h'.symm)
        rw [decide_eq_false e, List.any_cons, hb]; rfl
    refine wpAny_pure ⟨plainId_quiet PyProof.Rows.F.plain_set_update_loop _, ih (i + 1) _ (by omega) hlt (W.frame _ s' _ _ hst' (Nat.le_succ _) fun b hb o e => ?_) hSi fun s'' hm'' hS'' => ?_⟩
    · rw [hsb.2 b (fun h : b = S => hSf (by rw [← h]; exact hb))]; exact e
    · refine hR s'' (Moved.trans W.gtrans ((hm.mono hsub).then_heap (Nat.le_succ _) fun b o hb e => ?_) hm'') hS''
      rw [hsb.2 b (fun h : b = S => hb (by rw [h]; exact List.mem_cons_self))]; exact e
end

section
variable {prog : Program} {w : World} {A : Around} {E : Value → Shared → Prop} {s : Shared}
set_option maxHeartbeats 3200000 in
theorem call_set_listSN {l : Addr} {items : Array Value} {xs : List Str} {Q : Value → Shared → Prop}
    (hh : A.handled = none) (hl : s.heap.IsList l items) (hi : PyProof.Rows.StrsAre items.toList xs) (hnd : xs.Nodup) (hn1 : xs.length ≤ 1000)
    (h : ∀ (h' : Heap) (tk : Nat), h'.SetOf (PySem.strKind prog w) s.heap.objs.size (fun k' => (xs.take items.size).any (· == k')) items.size →
      (∀ b o, b < s.heap.objs.size → s.heap.get? b = some o → h'.get? b = some o) → Q (.ref s.heap.objs.size) { s with heap := h', toks := tk }) :
    wpAny (model prog w) A (call (.type "set") [.ref l]) Q E s := by
  obtain ⟨c, tl, hmro⟩ := PySem.F.called_set.mro
  have hmade := PySem.F.called_set.made
  have hsub := PySem.F.called_set.sub
  refine wpAny_call (codeAny_of_tree ?_)
  show wpAny _ _ (callAny (.type "set") _) _ _ _
  refine wpAny_pure ⟨Code.quiet_builtin _ (by decide +kernel), codeAny_builtin PySem.F.entry_type_call ?_⟩
  rw [Around.under_plain (weight_type_call_type "set" [.ref l] []) rfl]
  have h1 := PySem.F.called_set.notType
  have h2 := PySem.F.called_set.canCreate
  have hct := PySem.F.typeCall_set_1 (.ref l)
  repeat (any_goals (first | assumption | wp_step))

  refine codeAny_mono (code_set_new_1 (.ref l) (E := E) (Q₁ := fun obj s₁ => ∃ led : Bool, obj = .ref s.heap.objs.size ∧ s₁ = { s with heap := s.heap.push { cls := .type "set", dict := none, data := .set #[] 0 (.fresh 0 0 led) } }) fun led => ⟨led, rfl, rfl⟩) fun r s₁ hr => ?_
  cases r with
  | error e => exact hr
  | ok fl =>
    cases fl with
    | ret obj =>
      obtain ⟨led, rfl, rfl⟩ := hr
      have hS : (s.heap.push { cls := .type "set", dict := none, data := .set #[] 0 (.fresh 0 0 led) }).get? s.heap.objs.size = some { cls := .type "set", dict := none, data := .set #[] 0 (.fresh 0 0 led) } := Heap.get?_push_size _ rfl
      have hT : Shared.TypeIs { s with heap := s.heap.push { cls := .type "set", dict := none, data := .set #[] 0 (.fresh 0 0 led) } } (.ref s.heap.objs.size) "set" := ⟨_, hS, rfl⟩
      have hli := PySem.F.called_set.init.lookup
      have hbi := PySem.F.called_set.init.bind (.ref s.heap.objs.size)
      repeat (any_goals (first | assumption | wp_step))

      refine codeAny_mono (codeAny_call_builtin (R := wants (fun r s₂ => r = .none ∧ ∃ h' tk, s₂ = { s with heap := h', toks := tk } ∧
          h'.SetOf (PySem.strKind prog w) s.heap.objs.size (fun k' => (xs.take items.size).any (· == k')) items.size ∧
          (∀ b o, b < s.heap.objs.size → s.heap.get? b = some o → h'.get? b = some o)) E) PySem.F.called_set.init.plain PySem.F.entry_set_init (check_set_init_1 hT ?_)) fun r₂ s₂ hr₂ => ?_
      · obtain ⟨ol, hol, hcl, nl, hdl⟩ := hl
        obtain ⟨ocls, odict, odata, oslots⟩ := ol
        simp only at hcl hdl
        subst hcl; subst hdl
        have hol' : (s.heap.push { cls := .type "set", dict := none, data := .set #[] 0 (.fresh 0 0 led) }).get? l = some { cls := .type "list", dict := odict, data := .seq items nl, slots := oslots } := Heap.get?_push_of_some _ hol
        have hsls := PySem.F.sub_list_set
        have hslf := PySem.F.sub_list_frozenset
        have hne : (Value.type "list" == Value.type "dict") = false := by decide
        have hl1 : (s.heap.push { cls := .type "set", dict := none, data := .set #[] 0 (.fresh 0 0 led) }).IsList l items := ⟨_, hol', rfl, nl, rfl⟩
        unfold Builtin.«set.__init__» noKeywords Builtin.Frozenset.updateFrom
        generalize hPI : pyIter = PI
        wp_walk
        subst hPI

        refine wpAny_pyIter_list hl1 ?_
        refine wpAny_bind (wpAny_runValue ?_)
        have hlS : l < s.heap.objs.size := Heap.lt_size hol
        have hh3 : A.in1.in1.in1.handled = none := by simp [hh]
        have hneI : l ≠ (s.heap.push { cls := .type "set", dict := none, data := .set #[] 0 (.fresh 0 0 led) }).objs.size := by
          rw [Heap.size_push]; exact Nat.ne_of_lt (Nat.lt_succ_of_lt hlS)
        have hSf : s.heap.objs.size ∉ [(s.heap.push { cls := .type "set", dict := none, data := .set #[] 0 (.fresh 0 0 led) }).objs.size, l] := by
          rw [Heap.size_push]; simp only [List.mem_cons, List.mem_singleton, List.not_mem_nil, or_false, not_or]
          exact ⟨Nat.ne_of_lt (Nat.lt_succ_self _), Nat.ne_of_gt hlS⟩
        have hsz : xs.length = items.size := by rw [← StrsAre.len_eq hi, Array.length_toList]
        have hval : ∀ (i : Nat) (v : Value), items[i]? = some v → ∃ t, v = .str (xs.getD i Str.empty) t := fun i v hv => SS.strs_at hi i v (by rw [Array.getElem?_toList]; exact hv)
        refine loopStrs ((Walks.list hh3 _ l hneI items).toS) s.heap.objs.size
          hSf xs hsz hnd (by rw [← hsz]; exact hn1) hval (items.size - 0) 0 _ (by omega) (Nat.zero_le _)
          ⟨⟨_, Heap.get?_push_size _ rfl, rfl, rfl⟩, (hl1.push _)⟩ ?hS0 ?hR
        case hS0 =>
          have hget : ((s.heap.push { cls := .type "set", dict := none, data := .set #[] 0 (.fresh 0 0 led) }).push { cls := .type "list_iterator", data := .fields #[.ref l, .int 0 0] }).get? s.heap.objs.size
              = some { cls := .type "set", dict := none, data := .set #[] 0 (.fresh 0 0 led) } := Heap.get?_push_of_some _ hS
          exact PyProof.Rows.SetOf_congr ((PyProof.Rows.setObjOf_fresh (knd := PySem.strKind prog w) led).setOf hget (by unfold scanBound; omega)) (fun _ => rfl) rfl
        case hR =>
          intro s' hm hS'
          obtain ⟨h', g', d', tk', os'⟩ := s'
          have eg : g' = s.gens := hm.gens
          have ed : d' = s.drawn := hm.drawn
          have eo : os' = s.os := hm.os
          subst eg; subst ed; subst eo
          show wpAny _ _ _ _ _ _
          refine wpAny_pure ?_
          show wpAny _ _ (ret Value.none) _ _ _
          refine wpAny_pure ⟨rfl, h', tk', rfl, hS', fun b o hb e => ?_⟩
          have hb1 : b ≠ s.heap.objs.size := Nat.ne_of_lt hb
          have hb2 : b ≠ (s.heap.push { cls := .type "set", dict := none, data := .set #[] 0 (.fresh 0 0 led) }).objs.size := by
            rw [Heap.size_push]; exact Nat.ne_of_lt (Nat.lt_succ_of_lt hb)
          exact hm.heap b o (by simp only [List.mem_cons, List.mem_singleton, List.not_mem_nil, or_false, not_or]; exact ⟨hb1, hb2⟩) (Heap.get?_push_of_some _ (Heap.get?_push_of_some _ e))

      · cases r₂ with
        | error e => exact hr₂
        | ok fl₂ =>
          cases fl₂ with
          | ret r =>
            obtain ⟨rfl, h', tk, rfl, hS', hk'⟩ := hr₂
            repeat (any_goals (first | assumption | wp_step))
            exact h _ _ hS' hk'
          | _ => exact hr₂.elim
    | _ => exact hr.elim


end
/-- the set of n texts at a -/
def StrSet (P : Program) (w : World) (a : Addr) (n : Nat) : HO := .ext fun h => ∃ S : Str → Bool, h.SetOf (PySem.strKind P w) a S n
theorem strSet_new {P : Program} {w : World} {H : Hp} {h : Heap} {a : Addr} {n : Nat} (R : ∃ S : Str → Bool, h.SetOf (PySem.strKind P w) a S n) : ObjOk P w H h a (StrSet P w a n) := by
  have ⟨S, o, es, ep, t, ho, r⟩ := R
  refine ⟨R, ⟨o, ho⟩, fun h1 h2 p k => ?_⟩
  have ⟨S', o', es', ep', t', ho', r'⟩ := p
  exact ⟨S', o', es', ep', t', k o' ho', r'⟩
section
variable {X : Cx}
def rSetS (K : PySem.W.Frag) (P : Program) (w : World) : List V → Hp → VK → Prop := fun xs H Q => ∃ (l : Addr) (ys : List Str), xs = [V.ref l] ∧ SqL K H l (ys.map V.str) ∧ ys.Nodup ∧ ys.length ≤ 1000 ∧ ∀ p, H p = none → Q (.ref p) (upd H p (StrSet P w p ys.length))
theorem cr_setS (hc : X.calm = true) : CallR X (.type "set") (rSetS X.K X.prog X.w) := by
  intro pins s σ H xs us Q I r h
  obtain ⟨l, ys, rfl, hl, nd, hn, q⟩ := h
  rw [Vals.ref1 r]
  obtain ⟨its, rv, pl, hz⟩ := I.list hl
  have hlen : its.toArray.size = ys.length := by rw [List.size_toArray, ← rv.length, List.length_map]
  refine call_set_listSN (I.ok.hd hc) pl.isList (by simpa using strsAre_of rv) nd hn fun h' tk hS hk => ?_
  rw [hlen] at hS
  exact ⟨.ref s.heap.objs.size, upd H s.heap.objs.size (StrSet X.prog X.w s.heap.objs.size ys.length), I.laid (t' := tk) (fun b o e => hk b o (Heap.lt_size e) e) (Nat.le_refl _) (strSet_new ⟨_, hS⟩), rfl, q _ (I.hok.fresh (Nat.le_refl _))⟩
def rLenS (P : Program) (w : World) : List V → Hp → VK → Prop := fun xs H Q => ∃ (a : Addr) (n : Nat), xs = [V.ref a] ∧ H a = some (StrSet P w a n) ∧ n ≤ 1000 ∧ Q (.int n) H
theorem cr_lenS : CallR X (.builtin "len") (rLenS X.prog X.w) := by
  intro pins s σ H xs us Q I r h
  obtain ⟨a, n, rfl, ha, hn, q⟩ := h
  rw [Vals.ref1 r]
  obtain ⟨⟨S, o, es, ep, t, ho, hex, hd, _, _, _, hf, hz⟩, _⟩ := I.hok a _ ha
  exact call_len_set ho hex hd hf (by rw [hz]; omega) ⟨.int n, H, I.tok _, ⟨_, by rw [hz]⟩, q⟩
def rLenT (K : PySem.W.Frag) (P : Program) (w : World) : List V → Hp → VK → Prop := fun xs H Q => ∃ (a : Addr) (L : List (Addr × List Int)), xs = [V.ref a] ∧ H a = some (SetTO P w a L) ∧ (∀ p ∈ L, SqT K H p.1 (p.2.map V.int)) ∧ ((L.map (·.2)).Nodup → Q (.int L.length) H)
theorem cr_lenT : CallR X (.builtin "len") (rLenT X.K X.prog X.w) := by
  intro pins s σ H xs us Q I r h
  obtain ⟨a, L, rfl, ha, hk, q⟩ := h
  rw [Vals.ref1 r]
  obtain ⟨R0, _⟩ := I.hok a _ ha
  obtain ⟨es, ep, t, R⟩ := R0.full fun p hp => I.isT (hk p hp)
  obtain ⟨o, ho, hex, hd⟩ := R.ob
  have hz : es.size = L.length := by
    have := congrArg List.length R.rows
    rwa [Array.length_toList, rowsOf, List.length_map] at this
  have few := R.few
  exact call_len_set ho hex hd R.fits (by rw [hz]; omega) ⟨.int L.length, H, I.tok _, ⟨_, by rw [hz]⟩, q R.nd⟩
end
end K36
/-! text KP2 -/
namespace K36
open PySem PySem.Spec PyProof.Rows L2 SX
section
variable {P : Program} {w : World} {K : PySem.W.Frag} {mg : Str → Option Value} {base : Heap}
theorem valV_none {κ : Type} [DecidableEq κ] {kvs : List (κ × V)} {k : κ} (h : ∀ p ∈ kvs, p.1 ≠ k) : valV kvs k = none := by
  unfold valV
  rw [List.find?_eq_none.mpr fun p hp => by simpa using h p hp]; rfl
theorem take_map_snoc {α β : Type} {f : α → β} {l : List α} {i : Nat} {x : α} (h : l[i]? = some x) : (l.take (i + 1)).map f = (l.take i).map f ++ [f x] := by
  rw [List.take_add_one, h, List.map_append]; rfl
theorem map_some {α β : Type} {f : α → β} {l : List α} {i : Nat} {y : β} (h : (l.map f)[i]? = some y) : ∃ x, l[i]? = some x ∧ f x = y := by
  rw [List.getElem?_map] at h
  cases e : l[i]? with
  | none => rw [e] at h; cases h
  | some z => rw [e] at h; exact ⟨z, rfl, Option.some.inj h⟩
theorem name_new {α : Type} {f : α → Str} {l : List α} (nd : (l.map f).Nodup) {i : Nat} {x : α} (h : l[i]? = some x) : ∀ q ∈ l.take i, f q ≠ f x := fun q hq e => by
  have h2 : (l.map f)[i]? = some (f x) := by rw [List.getElem?_map, h]; rfl
  refine not_mem_take nd h2 ?_
  rw [← List.map_take, ← e]
  exact List.mem_map_of_mem hq
abbrev N_is_kind : List Str := ["thing"]
theorem sc_is_kind : FnScope N_is_kind ["thing"] (defScope s_is_kind) := ⟨rfl, rfl, rfl, by decide +kernel, rfl, by decide +kernel, by decide +kernel⟩
def sp_is_kind : Sp := fun vs H Q _ => ∃ (x : Str), vs = [.str x] ∧ x ∈ kinds ∧ ∀ H', Ext H H' → Q (.bl true) H'
theorem ok_is_kind (T : Tx w K mg) (Y : Ty K) (G_is_one_of : C8.Cal P w K mg base 1 "is_one_of" (sp_is_one_of K) []) : C8.Cal P w K mg base 2 "is_kind" sp_is_kind [] := by
  refine cal_mk T.F_is_kind T.g_is_kind sc_is_kind (fun _ _ _ _ _ _ us hl => match us, hl with | [_], _ => rfl) (fun vs H Q E h => ?_) (fun cdv A outer s H vs Q E hr h => ?_)
  · obtain ⟨x, rfl, _⟩ := h
    rfl
  · obtain ⟨x, rfl, hx, k⟩ := h
    refine ⟨_, (pss_one (ps_ret (C8.pe_c G_is_one_of hr (by decide) rfl (pa_cons (pv 0) (pa_cons (pe_callTy (call_listK rfl) (by rfl) T.b_list (by decide +kernel) (pa_cons (C8.pe_gc (v := .ref (He.ga K "DUE")) rfl ⟨_, T.g_DUE, rfl⟩) pa_nil)) pa_nil))))), ?_⟩
    obtain ⟨es, n, D⟩ := T.t_DUE
    refine ⟨_, rfl, _, dueK, es, n, rfl, D, of_decide_eq_true Y.due, by decide, fun p hp => ?_⟩
    refine ⟨x, p, dueK, rfl, .inl (SqL.of upd_same), ?_⟩
    have : x ∈ dueK := by
      have h : x ∈ kinds := hx
      unfold kinds at h
      unfold dueK
      simp only [List.mem_cons, List.not_mem_nil, or_false] at h ⊢
      rcases h with h | h | h | h | h | h <;> simp [h]
    rw [decide_eq_true this]
    exact k _ (Ext.upd hp)
abbrev N_is_place : List Str := ["thing"]
theorem sc_is_place : FnScope N_is_place ["thing"] (defScope s_is_place) := ⟨rfl, rfl, rfl, by decide +kernel, rfl, by decide +kernel, by decide +kernel⟩
def sp_is_place (K : PySem.W.Frag) : Sp := fun vs H Q _ => ∃ (p : Addr) (x : Str × Int), vs = [.ref p] ∧ SqT K H p (encP x) ∧ NameOk x.1 ∧ 1 ≤ x.2 ∧ x.2 ≤ 4 ∧ ∀ H', Ext H H' → Q (.bl true) H'
theorem ok_is_place (T : Tx w K mg) (G_is_tuple_of : C8.Cal P w K mg base 1 "is_tuple_of" (sp_is_tuple_of K) []) (G_is_name : C8.Cal P w K mg base 1 "is_name" sp_is_name []) (G_is_whole : C8.Cal P w K mg base 1 "is_whole" sp_is_whole []) : C8.Cal P w K mg base 2 "is_place" (sp_is_place K) [] := by
  refine cal_mk T.F_is_place T.g_is_place sc_is_place (fun _ _ _ _ _ _ us hl => match us, hl with | [_], _ => rfl) (fun vs H Q E h => ?_) (fun cdv A outer s H vs Q E hr h => ?_)
  · obtain ⟨x, _, rfl, _⟩ := h
    rfl
  · obtain ⟨p, x, rfl, hp, hn, h1, h4, k⟩ := h
    refine ⟨_, (pss_one (ps_ret (pe_and (C8.pe_c G_is_tuple_of hr (by decide) rfl (pa_cons (pv 0) (pa_cons pe_int pa_nil))) (pe_and (C8.pe_c G_is_name hr (by decide) rfl (pa_cons (pe_ix ix_tup (pv 0) pe_int (fun _ _ => rfl)) pa_nil)) (pe_one (C8.pe_c G_is_whole hr (by decide) rfl (pa_cons (pe_ix ix_tup (pv 0) pe_int (fun _ _ => rfl)) (pa_cons pe_int (pa_cons (C8.pe_gc rfl T.k_MOST_RISK) pa_nil))))))))), ?_⟩
    refine ⟨_, rfl, p, _, 2, rfl, hp, true, rfl, iteT ⟨_, rfl, p, _, _, _, rfl, rfl, hp, rfl, x.1, rfl, hn, fun H' e => ?_⟩⟩
    refine ⟨true, rfl, iteT ⟨_, rfl, p, _, _, _, rfl, rfl, SqT.ext hp e, rfl, x.2, 1, 4, rfl, ?_⟩⟩
    rw [decide_eq_true ⟨h1, h4⟩]
    exact k _ e
abbrev N_places_fault : List Str := ["thing", "seen", "at", "one"]
theorem sc_places_fault : FnScope N_places_fault ["thing"] (defScope s_places_fault) := ⟨rfl, rfl, rfl, by decide +kernel, rfl, by decide +kernel, by decide +kernel⟩
def sp_places_fault (K : PySem.W.Frag) : Sp := fun vs H Q _ => ∃ (p : Addr) (ts : List Addr) (ps : List (Str × Int)), vs = [.ref p] ∧ SqT K H p (ts.map V.ref) ∧ Rows K H ts (ps.map encP) ∧ 1 ≤ ps.length ∧ ps.length ≤ 40 ∧ (ps.map (·.1)).Nodup ∧ (∀ q ∈ ps, NameOk q.1 ∧ 1 ≤ q.2 ∧ q.2 ≤ 4) ∧ ∀ H', Ext H H' → Q .non H'
theorem ok_places_fault (T : Tx w K mg) (G_is_place : C8.Cal P w K mg base 2 "is_place" (sp_is_place K) []) : C8.Cal P w K mg base 3 "places_fault" (sp_places_fault K) [] := by
  refine cal_mk T.F_places_fault T.g_places_fault sc_places_fault (fun _ _ _ _ _ _ us hl => match us, hl with | [_], _ => rfl) (fun vs H Q E h => ?_) (fun cdv A outer s H vs Q E hr h => ?_)
  · obtain ⟨x, _, _, rfl, _⟩ := h
    rfl
  · obtain ⟨p, ts, ps, rfl, hp, hr', h1, h40, nd, hq, k⟩ := h
    refine ⟨_, (pss_cons (ps_if (PW.pt (pw_or (pt_not (pt_val (pe_callB call_isi (by rfl) T.b_isinstance (by decide +kernel) (pa_cons (pv 0) (pa_cons (pe_bltn (v := .ty "tuple") (by rfl) T.b_tuple (by decide +kernel) rfl) pa_nil))))) (pw_or1 (pt_not (pt_chain op_le op_le pe_int (pe_callB call_len_seq (by rfl) T.b_len (by decide +kernel) (pa_cons (pv 0) pa_nil)) (C8.pe_gc rfl T.k_MOST_PLACES))))))
      (pss_one (ps_ret (pe_un un_neg pe_int)))
      pss_nil)
    (pss_cons (ps_set (i := 1) sc_places_fault.nd rfl (Or.inl rfl) pe_dnewK)
    (pss_cons (ps_for PassesOwn.never rfl (pi_enumT (by rfl) T.b_enumerate (pa_cons (pv 0) pa_nil)) (pg_tup rfl (pgs_cons (pg_name (i := 2) sc_places_fault.nd rfl (Or.inl rfl)) (pgs_cons (pg_name (i := 3) sc_places_fault.nd rfl (Or.inl rfl)) pgs_nil)))
      (pss_cons (ps_if (PW.pt (pw_or (pt_not (pt_val (C8.pe_c G_is_place hr (by decide) rfl (pa_cons (pv 3) pa_nil)))) (pw_or1 (pt_cmp (pc_din (hu_of hr) (pe_ix ix_tup (pv 3) pe_int (fun _ _ => rfl)) (pv 1))))))
          (pss_one (ps_ret (pv 2)))
          pss_nil)
        (pss_one (ps_dput (hu_of hr) (pv 1) (pe_ix ix_tup (pv 3) pe_int (fun _ _ => rfl)) pe_bl rfl))))
    (pss_one (ps_ret pe_non))))), ?_⟩
    refine ⟨_, rfl, _, _, _, _, _, rfl, .ty _, tyTup hp, k_tt, _, rfl, ?_⟩
    have hl : ts.length = ps.length := by have := hr'.length; rwa [List.length_map] at this
    refine iteF ⟨_, rfl, p, _, rfl, .inr hp, _, _, rfl, rfl, _, rfl, ?_⟩
    rw [decide_eq_true (show (1 : Int) ≤ (ts.map V.ref).length by rw [List.length_map]; omega)]
    refine iteT ⟨_, _, rfl, rfl, _, rfl, ?_⟩
    rw [decide_eq_true (show ((ts.map V.ref).length : Int) ≤ 40 by rw [List.length_map]; omega)]
    refine iteF fun D hD => ?_
    refine ⟨_, rfl, p, _, rfl, SqT.ext hp (Ext.upd hD), for_it walk_enumT (fun i σ' H' => ∃ v2 v3 : Option V, σ' = [some (.ref p), some (.ref D), v2, v3] ∧ Ext H H' ∧ H' D = some (.dK ((ps.take i).map fun q => (.inr q.1, .bl true))))
      ⟨_, _, rfl, Ext.upd hD, upd_same⟩ (fun i σ' H' _ ⟨_, _, _, e, _⟩ => SqT.ext hp e) ?_ ?_⟩
    · rintro i x σ' H1 H2 hi ⟨v2, v3, rfl, e, hDD⟩ ⟨T1, a1, b1, rfl, hT1, rfl, ha, hb⟩
      obtain ⟨t, ht, rfl⟩ := map_at hb
      obtain ⟨row, hrow, hT⟩ := Paired.at' hr' ht
      obtain ⟨q, hqi, rfl⟩ := map_some hrow
      cases ha
      obtain ⟨q1, q2, q3⟩ := hq q (List.mem_of_getElem? hqi)
      have e2 : Ext H (upd H1 T1 (.tup [.int (0 + (i : Nat)), .ref t])) := e.trans (Ext.upd hT1)
      have hD2 := show upd H1 T1 (.tup [.int (0 + (i : Nat)), .ref t]) D = _ from (upd_ne (ne_of_none hDD hT1)).trans hDD
      refine ⟨T1, _, rfl, SqT.of upd_same, rfl, _, _, rfl, _, _, rfl, rfl, ?_⟩
      generalize upd H1 T1 (.tup [.int (0 + (i : Nat)), .ref t]) = H2 at e2 hD2 ⊢
      have hT2 := SqT.ext hT e2
      refine ⟨_, rfl, t, q, rfl, hT2, q1, q2, q3, fun H3 e3 => ⟨true, rfl, iteF ?_⟩⟩
      have hn : valV ((ps.take i).map fun q => ((.inr q.1 : Key), V.bl true)) (.inr q.1) = none := valV_none fun p hp => by
        obtain ⟨z, hz, rfl⟩ := List.mem_map.mp hp
        exact fun c => name_new (f := fun q : Str × Int => q.1) nd hqi z hz (Sum.inr.inj c)
      have hD3 := e3 _ _ hD2
      have hT3 := SqT.ext hT2 e3
      refine ⟨_, rfl, t, _, _, _, rfl, rfl, hT3, rfl, _, rfl, D, _, rfl, DGet.k (k := .inr q.1) hD3, false, by rw [hn]; rfl, iteF ?_⟩
      have hlen : ((ps.take i).map fun q => ((.inr q.1 : Key), V.bl true)).length < sizeLine := by rw [List.length_map, List.length_take, sizeLine_eq]; omega
      refine ⟨_, rfl, _, rfl, t, _, _, _, rfl, rfl, hT3, rfl, D, _, rfl, DPut.k (k := .inr q.1) hD3 hlen, ?_⟩
      rw [putK_new _ hn]
      refine ⟨_, _, rfl, updE (e2.trans e3) hD, ?_⟩
      rw [upd_same, take_map_snoc hqi]
    · rintro σ' H1 ⟨v2, v3, rfl, e, hDD⟩
      exact k H1 e
end
end K36
/-! text KP3 -/
namespace K36
open PySem PySem.Spec PyProof.Rows L2 SX
section
variable {P : Program} {w : World} {K : PySem.W.Frag} {mg : Str → Option Value} {base : Heap}
theorem pw_take {α : Type} {R : α → α → Prop} {l : List α} (h : l.Pairwise R) {i : Nat} {x : α} (hx : l[i]? = some x) : ∀ y ∈ l.take i, R y x := fun y hy => by
  obtain ⟨j, hj⟩ := List.mem_iff_getElem?.mp hy
  rw [List.getElem?_take] at hj
  split at hj
  · rename_i c
    obtain ⟨h1, rfl⟩ := List.getElem?_eq_some_iff.mp hx
    obtain ⟨h2, rfl⟩ := List.getElem?_eq_some_iff.mp hj
    exact List.pairwise_iff_getElem.mp h j i h2 h1 c
  · cases hj
abbrev N_is_road : List Str := ["names", "thing"]
theorem sc_is_road : FnScope N_is_road ["names", "thing"] (defScope s_is_road) := ⟨rfl, rfl, rfl, by decide +kernel, rfl, by decide +kernel, by decide +kernel⟩
abbrev Road := Str × Str × Int × Int
def RdOk (r : Road) : Prop := r.1 ≠ r.2.1 ∧ 1 ≤ r.2.2.1 ∧ r.2.2.1 ≤ 60 ∧ 0 ≤ r.2.2.2 ∧ r.2.2.2 ≤ 60
def sp_is_road (K : PySem.W.Frag) : Sp := fun vs H Q _ => ∃ (D p : Addr) (kvs : List (Key × V)) (r : Road), vs = [.ref D, .ref p] ∧ H D = some (.dK kvs) ∧ (valV kvs (.inr r.1)).isSome = true ∧ (valV kvs (.inr r.2.1)).isSome = true ∧ SqT K H p (encR r) ∧ RdOk r ∧ Q (.bl true) H
theorem ok_is_road (T : Tx w K mg) (G_is_tuple_of : C8.Cal P w K mg base 1 "is_tuple_of" (sp_is_tuple_of K) []) (G_is_one_ofD : C8.Cal P w K mg base 1 "is_one_of" sp_is_one_ofD []) (G_is_whole : C8.Cal P w K mg base 1 "is_whole" sp_is_whole []) : C8.Cal P w K mg base 2 "is_road" (sp_is_road K) [] := by
  refine cal_mk T.F_is_road T.g_is_road sc_is_road (fun _ _ _ _ _ _ us hl => match us, hl with | [_, _], _ => rfl) (fun vs H Q E h => ?_) (fun cdv A outer s H vs Q E hr h => ?_)
  · obtain ⟨x, _, _, _, rfl, _⟩ := h
    rfl
  · obtain ⟨D, p, kvs, r, rfl, hD, d1, d2, hp, ⟨q1, q2, q3, q4, q5⟩, k⟩ := h
    refine ⟨_, (pss_cons (ps_if (PW.pt (pw_or (pt_not (pt_val (C8.pe_c G_is_tuple_of hr (by decide) rfl (pa_cons (pv 1) (pa_cons pe_int pa_nil))))) (pw_or (pt_not (pt_val (C8.pe_c G_is_one_ofD hr (by decide) rfl (pa_cons (pe_ix ix_tup (pv 1) pe_int (fun _ _ => rfl)) (pa_cons (pv 0) pa_nil))))) (pw_or1 (pt_not (pt_val (C8.pe_c G_is_one_ofD hr (by decide) rfl (pa_cons (pe_ix ix_tup (pv 1) pe_int (fun _ _ => rfl)) (pa_cons (pv 0) pa_nil)))))))))
      (pss_one (ps_ret pe_bl))
      pss_nil)
    (pss_one (ps_ret (pe_and (pe_cmpR op_ne (pe_ix ix_tup (pv 1) pe_int (fun _ _ => rfl)) (pe_ix ix_tup (pv 1) pe_int (fun _ _ => rfl)) (nomark _)) (pe_and (C8.pe_c G_is_whole hr (by decide) rfl (pa_cons (pe_ix ix_tup (pv 1) pe_int (fun _ _ => rfl)) (pa_cons pe_int (pa_cons (C8.pe_gc rfl T.k_MOST_MINUTES) pa_nil)))) (pe_one (C8.pe_c G_is_whole hr (by decide) rfl (pa_cons (pe_ix ix_tup (pv 1) pe_int (fun _ _ => rfl)) (pa_cons pe_int (pa_cons (C8.pe_gc rfl T.k_MOST_MINUTES) pa_nil)))))))))), ?_⟩
    have c1 : DGet H D (.str r.1) (valV kvs (.inr r.1)) := DGet.k (k := .inr r.1) hD
    have c2 : DGet H D (.str r.2.1) (valV kvs (.inr r.2.1)) := DGet.k (k := .inr r.2.1) hD
    refine ⟨_, rfl, p, _, 4, rfl, hp, true, rfl, iteF ⟨_, rfl, p, _, _, _, rfl, rfl, hp, rfl, _, rfl, r.1, D, _, rfl, c1, true, by rw [d1], iteF ⟨_, rfl, p, _, _, _, rfl, rfl, hp, rfl, _, rfl, r.2.1, D, _, rfl, c2, true, by rw [d2], iteF ?_⟩⟩⟩
    have n1 : (encR r)[0]? ≠ (encR r)[1]? := fun z => q1 (V.str.inj (Option.some.inj z))
    refine ⟨_, rfl, p, _, _, _, rfl, rfl, hp, rfl, _, rfl, p, _, _, _, rfl, rfl, hp, rfl, rfl, true, ?_, ?_⟩
    · rw [decide_eq_false (fun z => q1 (V.str.inj z))]; rfl
    refine iteT ⟨_, rfl, p, _, _, _, rfl, rfl, hp, rfl, r.2.2.1, 1, 60, rfl, true, by rw [decide_eq_true ⟨q2, q3⟩], iteT ⟨_, rfl, p, _, _, _, rfl, rfl, hp, rfl, r.2.2.2, 0, 60, rfl, ?_⟩⟩
    rw [decide_eq_true ⟨q4, q5⟩]
    exact k
abbrev N_roads_fault : List Str := ["names", "thing", "seen", "at", "one"]
theorem sc_roads_fault : FnScope N_roads_fault ["names", "thing"] (defScope s_roads_fault) := ⟨rfl, rfl, rfl, by decide +kernel, rfl, by decide +kernel, by decide +kernel⟩
def sp_roads_fault (K : PySem.W.Frag) : Sp := fun vs H Q _ => ∃ (D p : Addr) (ts : List Addr) (kvs : List (Key × V)) (rs : List Road), vs = [.ref D, .ref p] ∧ SqT K H p (ts.map V.ref) ∧ Rows K H ts (rs.map encR) ∧ rs.length ≤ 80 ∧ H D = some (.dK kvs) ∧ (∀ r ∈ rs, (valV kvs (.inr r.1)).isSome = true ∧ (valV kvs (.inr r.2.1)).isSome = true ∧ RdOk r) ∧ rs.Pairwise DR ∧ ∀ H', Ext H H' → Q .non H'
theorem ok_roads_fault (T : Tx w K mg) (G_is_road : C8.Cal P w K mg base 2 "is_road" (sp_is_road K) []) : C8.Cal P w K mg base 3 "roads_fault" (sp_roads_fault K) [] := by
  refine cal_mk T.F_roads_fault T.g_roads_fault sc_roads_fault (fun _ _ _ _ _ _ us hl => match us, hl with | [_, _], _ => rfl) (fun vs H Q E h => ?_) (fun cdv A outer s H vs Q E hr h => ?_)
  · obtain ⟨x, _, _, _, _, rfl, _⟩ := h
    rfl
  · obtain ⟨D, p, ts, kvs, rs, rfl, hp, hr', h80, hD, hq, pw, k⟩ := h
    refine ⟨_, (pss_cons (ps_if (PW.pt (pw_or (pt_not (pt_val (pe_callB call_isi (by rfl) T.b_isinstance (by decide +kernel) (pa_cons (pv 1) (pa_cons (pe_bltn (v := .ty "tuple") (by rfl) T.b_tuple (by decide +kernel) rfl) pa_nil))))) (pw_or1 (pt_cmpR op_gt (pe_callB call_len_seq (by rfl) T.b_len (by decide +kernel) (pa_cons (pv 1) pa_nil)) (C8.pe_gc rfl T.k_MOST_ROADS) (nomark _)))))
      (pss_one (ps_ret (pe_un un_neg pe_int)))
      pss_nil)
    (pss_cons (ps_set (i := 2) sc_roads_fault.nd rfl (Or.inl rfl) pe_dnewT)
    (pss_cons (ps_for PassesOwn.never rfl (pi_enumT (by rfl) T.b_enumerate (pa_cons (pv 1) pa_nil)) (pg_tup rfl (pgs_cons (pg_name (i := 3) sc_roads_fault.nd rfl (Or.inl rfl)) (pgs_cons (pg_name (i := 4) sc_roads_fault.nd rfl (Or.inl rfl)) pgs_nil)))
      (pss_cons (ps_if (PW.pt (pw_or (pt_not (pt_val (C8.pe_c G_is_road hr (by decide) rfl (pa_cons (pv 0) (pa_cons (pv 4) pa_nil))))) (pw_or1 (pt_cmp (pc_din (hu_of hr) (pe_callTy call_tuple_of (by rfl) T.b_tuple (by decide +kernel) (pa_cons (pe_callB (cr_sortD (hu65 hr)) (by rfl) T.b_sorted (by decide +kernel) (pa_cons (pe_slice sl_tupA (pv 4) po_none (po_some pe_int)) pa_nil)) pa_nil)) (pv 2))))))
          (pss_one (ps_ret (pv 3)))
          pss_nil)
        (pss_one (ps_dput (hu_of hr) (pv 2) (pe_callTy call_tuple_of (by rfl) T.b_tuple (by decide +kernel) (pa_cons (pe_callB (cr_sortD (hu65 hr)) (by rfl) T.b_sorted (by decide +kernel) (pa_cons (pe_slice sl_tupA (pv 4) po_none (po_some pe_int)) pa_nil)) pa_nil)) pe_bl rfl))))
    (pss_one (ps_ret pe_non))))), ?_⟩
    refine ⟨_, rfl, _, _, _, _, _, rfl, .ty _, tyTup hp, k_tt, _, rfl, ?_⟩
    have hl : ts.length = rs.length := by have := hr'.length; rwa [List.length_map] at this
    refine iteF ⟨_, rfl, p, _, rfl, .inr hp, _, _, rfl, rfl, _, rfl, ?_⟩
    rw [decide_eq_false (show ¬ ((80 : Int) < (ts.map V.ref).length) by rw [List.length_map]; omega)]
    refine iteF fun sd hsd => ?_
    refine ⟨_, rfl, p, _, rfl, SqT.ext hp (Ext.upd hsd), for_it walk_enumT (fun i σ' H' => ∃ v2 v3 : Option V, σ' = [some (.ref D), some (.ref p), some (.ref sd), v2, v3] ∧ Ext H H' ∧ H' sd = some (.dT ((rs.take i).map fun q => (rk q.1 q.2.1, .bl true))))
      ⟨_, _, rfl, Ext.upd hsd, upd_same⟩ (fun i σ' H' _ ⟨_, _, _, e, _⟩ => SqT.ext hp e) ?_ ?_⟩
    · rintro i x σ' H1 H2 hi ⟨v2, v3, rfl, e, hDD⟩ ⟨T1, a1, b1, rfl, hT1, rfl, ha, hb⟩
      obtain ⟨t, ht, rfl⟩ := map_at hb
      obtain ⟨row, hrow, hT⟩ := Paired.at' hr' ht
      obtain ⟨r, hri, rfl⟩ := map_some hrow
      cases ha
      obtain ⟨q1, q2, q3⟩ := hq r (List.mem_of_getElem? hri)
      have e2 : Ext H (upd H1 T1 (.tup [.int (0 + (i : Nat)), .ref t])) := e.trans (Ext.upd hT1)
      have hD2 := show upd H1 T1 (.tup [.int (0 + (i : Nat)), .ref t]) sd = _ from (upd_ne (ne_of_none hDD hT1)).trans hDD
      refine ⟨T1, _, rfl, SqT.of upd_same, rfl, _, _, rfl, _, _, rfl, rfl, ?_⟩
      generalize upd H1 T1 (.tup [.int (0 + (i : Nat)), .ref t]) = H2 at e2 hD2 ⊢
      have hT2 := SqT.ext hT e2
      refine ⟨_, rfl, _, rfl, D, t, kvs, r, rfl, e2 _ _ hD, q1, q2, hT2, q3, true, rfl, iteF ?_⟩
      refine ⟨_, rfl, _, rfl, t, _, rfl, hT2, fun z => absurd (show (2 : Nat) = 4 from z.2) (by decide), fun _ a1 ha1 => ?_⟩
      generalize hga1 : upd H2 a1 _ = A1
      obtain ⟨ea1, ha1', _⟩ := newF ha1 hga1
      show rSortD K [V.ref a1] A1 _
      refine r_sortS [r.1, r.2.1] (.inr (SqT.of ha1')) (Nat.le_of_ble_eq_true rfl) fun b1 hb1 => ?_
      generalize hgb1 : upd A1 b1 _ = B1
      obtain ⟨eb1, hb1', _⟩ := newF hb1 hgb1
      rw [rk_vs] at hb1'
      refine ⟨b1, _, rfl, .inl ⟨SqL.of hb1', fun c1 hc1 => ?_⟩⟩
      generalize hgc1 : upd B1 c1 _ = C1
      obtain ⟨ec1, hc1', _⟩ := newF hc1 hgc1
      have E1 := (ea1.trans eb1).trans ec1
      have hn : valV ((rs.take i).map fun q => (rk q.1 q.2.1, V.bl true)) (rk r.1 r.2.1) = none := valV_none fun p hp => by
        obtain ⟨z, hz, rfl⟩ := List.mem_map.mp hp
        intro c
        have d := pw_take pw hri z hz
        rcases rk_eq c with y | y
        · exact d.1 y
        · exact d.2 y
      refine ⟨_, rfl, sd, _, rfl, DGet.t (E1 _ _ hD2) hc1', false, by rw [hn]; rfl, iteF ?_⟩
      have hlen : ((rs.take i).map fun q => (rk q.1 q.2.1, V.bl true)).length < sizeLine := by rw [List.length_map, List.length_take, sizeLine_eq]; omega
      refine ⟨_, rfl, ?_⟩
      refine ⟨_, rfl, _, rfl, t, _, rfl, (SqT.ext hT2 E1), fun z => absurd (show (2 : Nat) = 4 from z.2) (by decide), fun _ a2 ha2 => ?_⟩
      generalize hga2 : upd C1 a2 _ = A2
      obtain ⟨ea2, ha2', _⟩ := newF ha2 hga2
      show rSortD K [V.ref a2] A2 _
      refine r_sortS [r.1, r.2.1] (.inr (SqT.of ha2')) (Nat.le_of_ble_eq_true rfl) fun b2 hb2 => ?_
      generalize hgb2 : upd A2 b2 _ = B2
      obtain ⟨eb2, hb2', _⟩ := newF hb2 hgb2
      rw [rk_vs] at hb2'
      refine ⟨b2, _, rfl, .inl ⟨SqL.of hb2', fun c2 hc2 => ?_⟩⟩
      generalize hgc2 : upd B2 c2 _ = C2
      obtain ⟨ec2, hc2', _⟩ := newF hc2 hgc2
      have E2 := (ea2.trans eb2).trans ec2
      refine ⟨sd, _, rfl, DPut.t (E2 _ _ (E1 _ _ hD2)) hc2' hlen, ?_⟩
      rw [putK_new _ hn]
      refine ⟨_, _, rfl, updE ((e2.trans E1).trans E2) hsd, ?_⟩
      rw [upd_same, take_map_snoc hri]
    · rintro σ' H1 ⟨v2, v3, rfl, e, hDD⟩
      exact k H1 e
abbrev N_stations_fault : List Str := ["names", "thing", "at", "one"]
theorem sc_stations_fault : FnScope N_stations_fault ["names", "thing"] (defScope s_stations_fault) := ⟨rfl, rfl, rfl, by decide +kernel, rfl, by decide +kernel, by decide +kernel⟩
def sp_stations_fault (K : PySem.W.Frag) : Sp := fun vs H Q _ => ∃ (D p : Addr) (kvs : List (Key × V)) (xs : List Str), vs = [.ref D, .ref p] ∧ SqT K H p (xs.map V.str) ∧ xs.length ≤ 12 ∧ H D = some (.dK kvs) ∧ (∀ x ∈ xs, (valV kvs (.inr x)).isSome = true) ∧ xs.Nodup ∧ ∀ H', Ext H H' → Q .non H'
theorem ok_stations_fault (T : Tx w K mg) (G_is_one_ofD : C8.Cal P w K mg base 1 "is_one_of" sp_is_one_ofD []) : C8.Cal P w K mg base 3 "stations_fault" (sp_stations_fault K) [] := by
  refine cal_mk T.F_stations_fault T.g_stations_fault sc_stations_fault (fun _ _ _ _ _ _ us hl => match us, hl with | [_, _], _ => rfl) (fun vs H Q E h => ?_) (fun cdv A outer s H vs Q E hr h => ?_)
  · obtain ⟨x, _, _, _, rfl, _⟩ := h
    rfl
  · obtain ⟨D, p, kvs, xs, rfl, hp, h12, hD, hq, nd, k⟩ := h
    refine ⟨_, (pss_cons (ps_if (PW.pt (pw_or (pt_not (pt_val (pe_callB call_isi (by rfl) T.b_isinstance (by decide +kernel) (pa_cons (pv 1) (pa_cons (pe_bltn (v := .ty "tuple") (by rfl) T.b_tuple (by decide +kernel) rfl) pa_nil))))) (pw_or1 (pt_cmpR op_gt (pe_callB call_len_seq (by rfl) T.b_len (by decide +kernel) (pa_cons (pv 1) pa_nil)) (C8.pe_gc rfl T.k_MOST_STATIONS) (nomark _)))))
      (pss_one (ps_ret (pe_un un_neg pe_int)))
      pss_nil)
    (pss_cons (ps_for PassesOwn.never rfl (pi_enumT (by rfl) T.b_enumerate (pa_cons (pv 1) pa_nil)) (pg_tup rfl (pgs_cons (pg_name (i := 2) sc_stations_fault.nd rfl (Or.inl rfl)) (pgs_cons (pg_name (i := 3) sc_stations_fault.nd rfl (Or.inl rfl)) pgs_nil)))
      (pss_one (ps_if (PW.pt (pw_or (pt_not (pt_val (C8.pe_c G_is_one_ofD hr (by decide) rfl (pa_cons (pv 3) (pa_cons (pv 0) pa_nil))))) (pw_or1 (pt_cmpR op_in_seq (pv 3) (pe_slice sl_tupA (pv 1) po_none (po_some (pv 2))) (by rfl)))))
          (pss_one (ps_ret (pv 2)))
          pss_nil)))
    (pss_one (ps_ret pe_non)))), ?_⟩
    refine ⟨_, rfl, _, _, _, _, _, rfl, .ty _, tyTup hp, k_tt, _, rfl, ?_⟩
    refine iteF ⟨_, rfl, p, _, rfl, .inr hp, _, _, rfl, rfl, _, rfl, ?_⟩
    rw [decide_eq_false (show ¬ ((12 : Int) < (xs.map V.str).length) by rw [List.length_map]; omega)]
    refine iteF ?_
    refine ⟨_, rfl, p, _, rfl, hp, for_it walk_enumT (fun i σ' H' => ∃ v2 v3 : Option V, σ' = [some (.ref D), some (.ref p), v2, v3] ∧ Ext H H')
      ⟨_, _, rfl, fun _ _ z => z⟩ (fun i σ' H' _ ⟨_, _, _, e⟩ => SqT.ext hp e) ?_ ?_⟩
    · rintro i x σ' H1 H2 hi ⟨v2, v3, rfl, e⟩ ⟨T1, a1, b1, rfl, hT1, rfl, ha, hb⟩
      obtain ⟨x, hx, rfl⟩ := map_some hb
      cases ha
      have e2 : Ext H (upd H1 T1 (.tup [.int (0 + (i : Nat)), .str x])) := e.trans (Ext.upd hT1)
      refine ⟨T1, _, rfl, SqT.of upd_same, rfl, _, _, rfl, _, _, rfl, rfl, ?_⟩
      generalize upd H1 T1 (.tup [.int (0 + (i : Nat)), .str x]) = H2 at e2 ⊢
      refine ⟨_, rfl, _, rfl, x, D, _, rfl, DGet.k (k := .inr x) (e2 _ _ hD), true, by rw [hq x (List.mem_of_getElem? hx)], iteF ?_⟩
      refine ⟨_, rfl, _, rfl, _, rfl, _, rfl, p, _, rfl, SqT.ext hp e2, ?_⟩
      have hin := (List.getElem?_eq_some_iff.mp hx).1
      have hs : HT.sIx (xs.map V.str).length (xs.map V.str).length (some (0 + (i : Int))) = i := by
        rw [show (0 : Int) + (i : Int) = ((i : Nat) : Int) by omega, HT.sIx_nat, List.length_map]; omega
      have hc : cutV (xs.map V.str) none (some (0 + (i : Int))) = (xs.take i).map V.str := by
        unfold cutV
        rw [hs, HT.sIx_none, List.drop_zero, Nat.sub_zero, List.map_take]
      refine ⟨fun z => absurd (hs.symm.trans z.2) (by rw [List.length_map]; omega), fun _ q hq' => ?_⟩
      refine ⟨q, _, rfl, .inr (SqT.of upd_same), rfl, by rw [hc]; exact flat_strs _, false, ?_, iteF ⟨_, _, rfl, e2.trans (Ext.upd hq')⟩⟩
      rw [hc]
      show V.bl (inV (.str x) ((xs.take i).map V.str)) = _
      rw [inV_str, decide_eq_false]
      exact not_mem_take nd hx
    · rintro σ' H1 ⟨v2, v3, rfl, e⟩
      exact k H1 e
abbrev N_need : List Str := ["part", "at"]
theorem sc_need : FnScope N_need ["part", "at"] (defScope s_need) := ⟨rfl, rfl, rfl, by decide +kernel, rfl, by decide +kernel, by decide +kernel⟩
def sp_need : Sp := fun vs H Q _ => ∃ (x : Str), vs = [.str x, .non] ∧ Q .non H
theorem ok_need (T : Tx w K mg) : C8.Cal P w K mg base 1 "need" sp_need [] := by
  refine cal_mk T.F_need T.g_need sc_need (fun _ _ _ _ _ _ us hl => match us, hl with | [_, _], _ => rfl) (fun vs H Q E h => ?_) (fun cdv A outer s H vs Q E hr h => ?_)
  · obtain ⟨x, rfl, _⟩ := h
    rfl
  · obtain ⟨x, rfl, k⟩ := h
    refine ⟨_, (pss_one (ps_if (pt_cmpR op_notN (pv 1) pe_non (nomark _))
      (pss_one ps_never)
      pss_nil)), ?_⟩
    exact ⟨_, rfl, rfl, false, rfl, iteF k⟩
end
end K36
/-! text KP4 -/
namespace K36
open PySem PySem.Spec PyProof.Rows L2 SX
section
variable {P : Program} {w : World} {K : PySem.W.Frag} {mg : Str → Option Value} {base : Heap}
abbrev N_is_engine : List Str := ["stations", "thing"]
theorem sc_is_engine : FnScope N_is_engine ["stations", "thing"] (defScope s_is_engine) := ⟨rfl, rfl, rfl, by decide +kernel, rfl, by decide +kernel, by decide +kernel⟩
def EngOk (st : List Str) (e : Eng) : Prop := NameOk e.1 ∧ e.2.1 ∈ (["pump", "ladder", "tanker"] : List Str) ∧ e.2.2.1 ∈ st ∧ 1 ≤ e.2.2.2 ∧ e.2.2.2 ≤ 9
def sp_is_engine (K : PySem.W.Frag) : Sp := fun vs H Q _ => ∃ (S p : Addr) (st : List Str) (e : Eng), vs = [.ref S, .ref p] ∧ SqT K H S (st.map V.str) ∧ SqT K H p (encE e) ∧ EngOk st e ∧ ∀ H', Ext H H' → Q (.bl true) H'
theorem ok_is_engine (T : Tx w K mg) (Y : Ty K) (G_is_tuple_of : C8.Cal P w K mg base 1 "is_tuple_of" (sp_is_tuple_of K) []) (G_is_name : C8.Cal P w K mg base 1 "is_name" sp_is_name []) (G_is_one_of : C8.Cal P w K mg base 1 "is_one_of" (sp_is_one_of K) []) (G_is_whole : C8.Cal P w K mg base 1 "is_whole" sp_is_whole []) : C8.Cal P w K mg base 2 "is_engine" (sp_is_engine K) [] := by
  refine cal_mk T.F_is_engine T.g_is_engine sc_is_engine (fun _ _ _ _ _ _ us hl => match us, hl with | [_, _], _ => rfl) (fun vs H Q E h => ?_) (fun cdv A outer s H vs Q E hr h => ?_)
  · obtain ⟨x, _, _, _, rfl, _⟩ := h
    rfl
  · obtain ⟨S, p, st, e, rfl, hS, hp, ⟨q1, q2, q3, q4, q5⟩, k⟩ := h
    refine ⟨_, (pss_cons (ps_if (PW.pt (pw_or (pt_not (pt_val (C8.pe_c G_is_tuple_of hr (by decide) rfl (pa_cons (pv 1) (pa_cons pe_int pa_nil))))) (pw_or (pt_not (pt_val (C8.pe_c G_is_name hr (by decide) rfl (pa_cons (pe_ix ix_tup (pv 1) pe_int (fun _ _ => rfl)) pa_nil)))) (pw_or1 (pt_not (pt_val (C8.pe_c G_is_one_of hr (by decide) rfl (pa_cons (pe_ix ix_tup (pv 1) pe_int (fun _ _ => rfl)) (pa_cons (C8.pe_gc (v := .ref (He.ga K "SORTS")) rfl ⟨_, T.g_SORTS, rfl⟩) pa_nil)))))))))
      (pss_one (ps_ret pe_bl))
      pss_nil)
    (pss_one (ps_ret (pe_and (C8.pe_c G_is_one_of hr (by decide) rfl (pa_cons (pe_ix ix_tup (pv 1) pe_int (fun _ _ => rfl)) (pa_cons (pv 0) pa_nil))) (pe_one (C8.pe_c G_is_whole hr (by decide) rfl (pa_cons (pe_ix ix_tup (pv 1) pe_int (fun _ _ => rfl)) (pa_cons pe_int (pa_cons (C8.pe_gc rfl T.k_MOST_SEATS) pa_nil))))))))), ?_⟩
    refine ⟨_, rfl, p, _, 4, rfl, hp, true, rfl, iteF ⟨_, rfl, p, _, _, _, rfl, rfl, hp, rfl, e.1, rfl, q1, fun H1 e1 => ⟨true, rfl, iteF ?_⟩⟩⟩
    have hp1 := SqT.ext hp e1
    refine ⟨_, rfl, p, _, _, _, rfl, rfl, hp1, rfl, e.2.1, _, _, rfl, .inr (tupOk_sq Y.sorts), true, by rw [decide_eq_true q2], iteF ?_⟩
    refine ⟨_, rfl, p, _, _, _, rfl, rfl, hp1, rfl, _, rfl, e.2.2.1, S, st, rfl, .inr (SqT.ext hS e1), true, by rw [decide_eq_true q3], iteT ?_⟩
    refine ⟨_, rfl, p, _, _, _, rfl, rfl, hp1, rfl, e.2.2.2, 1, 9, rfl, ?_⟩
    rw [decide_eq_true ⟨q4, q5⟩]
    exact k _ e1
abbrev N_are_unlike : List Str := ["rows", "row"]
theorem sc_are_unlike : FnScope N_are_unlike ["rows"] (defScope s_are_unlike) := ⟨rfl, rfl, rfl, by decide +kernel, rfl, by decide +kernel, by decide +kernel⟩
def sp_are_unlike (K : PySem.W.Frag) : Sp := fun vs H Q _ => ∃ (p : Addr) (ts : List Addr) (es : List Eng), vs = [.ref p] ∧ SqT K H p (ts.map V.ref) ∧ Rows K H ts (es.map encE) ∧ es.length ≤ 24 ∧ (es.map (·.1)).Nodup ∧ ∀ H', Ext H H' → Q (.bl true) H'
theorem ok_are_unlike (T : Tx w K mg) : C8.Cal P w K mg base 1 "are_unlike" (sp_are_unlike K) [] := by
  refine cal_mk T.F_are_unlike T.g_are_unlike sc_are_unlike (fun _ _ _ _ _ _ us hl => match us, hl with | [_], _ => rfl) (fun vs H Q E h => ?_) (fun cdv A outer s H vs Q E hr h => ?_)
  · obtain ⟨p, _, _, rfl, _⟩ := h
    rfl
  · obtain ⟨p, ts, es, rfl, hp, hr', h24, nd, k⟩ := h
    refine ⟨_, (pss_one (ps_ret (pe_cmpR op_eq (pe_callB cr_lenS (by rfl) T.b_len (by decide +kernel) (pa_cons (pe_callTy (cr_setS rfl) (by rfl) T.b_set (by decide +kernel) (pa_cons (pe_lc (own := [("row", 1)]) (g := (gName 1)) (tt := tYes) rfl sc_are_unlike.nd (pi_tup (pv 0)) (blkOk_by (N := N_are_unlike) (sc := defScope s_are_unlike) (by decide +kernel)) (fun _ _ _ _ _ => (pg_name (i := 1) sc_are_unlike.nd rfl (Or.inl rfl))) (fun _ _ _ _ _ => pts_nil) (fun _ _ _ _ _ => (pe_ix (ix_tupK K) (pv 1) pe_int (fun _ _ => rfl)))) pa_nil)) pa_nil)) (pe_callB call_len_seq (by rfl) T.b_len (by decide +kernel) (pa_cons (pv 0) pa_nil)) (nomark _)))), ?_⟩
    have hl : ts.length = es.length := by have := hr'.length; rwa [List.length_map] at this
    refine ⟨_, rfl, p, rfl, ⟨_, hp⟩, fun D hD => ?_⟩
    refine lc_it walk_tup (fun i H' => Ext H H' ∧ H' D = some (.lst (((es.take i).map (·.1)).map V.str))) ⟨Ext.upd hD, upd_same⟩ (fun i H' _ ⟨e, _⟩ => SqT.ext hp e) ?_ ?_
    · rintro i y H1 H2 hi ⟨e, hDD⟩ ⟨rfl, hy⟩
      obtain ⟨t, ht, rfl⟩ := map_at hy
      obtain ⟨row, hrow, hT⟩ := Paired.at' hr' ht
      obtain ⟨x, hx, rfl⟩ := map_some hrow
      have hi' := (List.getElem?_eq_some_iff.mp hx).1
      refine ⟨rfl, _, rfl, t, _, _, _, rfl, rfl, SqT.ext hT e, rfl, _, hDD, szl (by rw [List.length_map, List.length_map, List.length_take]; omega), updE e hD, ?_⟩
      rw [upd_same, take_map_snoc hx, List.map_append]; rfl
    · rintro H1 ⟨e, hDD⟩
      rw [List.length_map, hl, List.take_length] at hDD
      refine ⟨D, _, rfl, SqL.of hDD, nd, by rw [List.length_map]; omega, fun a ha => ?_⟩
      refine ⟨a, _, rfl, upd_same, by rw [List.length_map]; omega, _, rfl, p, _, rfl, .inr (SqT.ext hp (e.trans (Ext.upd ha))), rfl, ?_⟩
      have e1 : decide (V.int (((es.map (·.1)).length : Nat) : Int) = V.int (((ts.map V.ref).length : Nat) : Int)) = true := decide_eq_true (by rw [List.length_map, List.length_map, hl])
      rw [e1]
      exact k _ (e.trans (Ext.upd ha))
abbrev N_are_engines : List Str := ["ground", "thing", "one"]
theorem sc_are_engines : FnScope N_are_engines ["ground", "thing"] (defScope s_are_engines) := ⟨rfl, rfl, rfl, by decide +kernel, rfl, by decide +kernel, by decide +kernel⟩
/-- a ground as an object -/
def GObj (K : PySem.W.Frag) (H : Hp) (a : Addr) (P R S D : Addr) : Prop := ∃ dx, H a = some (.ins (He.ga K "Ground") dx [("risks", .ref D), ("places", .ref P), ("roads", .ref R), ("stations", .ref S)])
def sp_are_engines (K : PySem.W.Frag) : Sp := fun vs H Q _ => ∃ (go p : Addr) (ts : List Addr) (es : List Eng) (P R S D : Addr) (st : List Str), vs = [.ref go, .ref p] ∧ GObj K H go P R S D ∧ SqT K H S (st.map V.str) ∧ SqT K H p (ts.map V.ref) ∧ Rows K H ts (es.map encE) ∧ es.length ≤ 24 ∧ (es.map (·.1)).Nodup ∧ (∀ e ∈ es, EngOk st e) ∧ ∀ H', Ext H H' → Q (.bl true) H'
theorem ok_are_engines (T : Tx w K mg) (G_is_engine : C8.Cal P w K mg base 2 "is_engine" (sp_is_engine K) []) (G_are_unlike : C8.Cal P w K mg base 1 "are_unlike" (sp_are_unlike K) []) : C8.Cal P w K mg base 3 "are_engines" (sp_are_engines K) [] := by
  refine cal_mk T.F_are_engines T.g_are_engines sc_are_engines (fun _ _ _ _ _ _ us hl => match us, hl with | [_, _], _ => rfl) (fun vs H Q E h => ?_) (fun cdv A outer s H vs Q E hr h => ?_)
  · obtain ⟨p, _, _, _, _, _, _, _, _, rfl, _⟩ := h
    rfl
  · obtain ⟨go, p, ts, es, aP, aR, aS, aD, st, rfl, ⟨dx, hg⟩, hS, hp, hr', h24, nd, hq, k⟩ := h
    refine ⟨_, (pss_cons (ps_if (PW.pt (pw_or (pt_not (pt_val (pe_callB call_isi (by rfl) T.b_isinstance (by decide +kernel) (pa_cons (pv 1) (pa_cons (pe_bltn (v := .ty "tuple") (by rfl) T.b_tuple (by decide +kernel) rfl) pa_nil))))) (pw_or1 (pt_cmpR op_gt (pe_callB call_len_seq (by rfl) T.b_len (by decide +kernel) (pa_cons (pv 1) pa_nil)) (C8.pe_gc rfl T.k_MOST_ENGINES) (nomark _)))))
      (pss_one (ps_ret pe_bl))
      pss_nil)
    (pss_one (ps_ret (pe_and (pe_callB (cr_all rfl) (by rfl) T.b_all (by decide +kernel) (pa_cons (pe_lc (own := [("one", 2)]) (g := (gName 2)) (tt := tYes) rfl sc_are_engines.nd (pi_tup (pv 1)) (blkOk_by (N := N_are_engines) (sc := defScope s_are_engines) (by decide +kernel)) (fun _ _ _ _ _ => (pg_name (i := 2) sc_are_engines.nd rfl (Or.inl rfl))) (fun _ _ _ _ _ => pts_nil) (fun _ _ _ _ _ => (C8.pe_c G_is_engine hr (by decide) rfl (pa_cons (pe_fldK K (pv 0) rfl) (pa_cons (pv 2) pa_nil))))) pa_nil)) (pe_one (C8.pe_c G_are_unlike hr (by decide) rfl (pa_cons (pv 1) pa_nil))))))), ?_⟩
    have hl : ts.length = es.length := by have := hr'.length; rwa [List.length_map] at this
    refine ⟨_, rfl, _, _, _, _, _, rfl, .ty _, tyTup hp, k_tt, _, rfl, ?_⟩
    refine iteF ⟨_, rfl, p, _, rfl, .inr hp, _, _, rfl, rfl, _, rfl, ?_⟩
    rw [decide_eq_false (show ¬ ((24 : Int) < (ts.map V.ref).length) by rw [List.length_map]; omega)]
    refine iteF ?_
    refine ⟨_, rfl, p, rfl, ⟨_, hp⟩, fun D hD => ?_⟩
    refine lc_it walk_tup (fun i H' => Ext H H' ∧ H' D = some (.lst ((List.replicate i true).map V.bl))) ⟨Ext.upd hD, upd_same⟩ (fun i H' _ ⟨e, _⟩ => SqT.ext hp e) ?_ ?_
    · rintro i y H1 H2 hi ⟨e, hDD⟩ ⟨rfl, hy⟩
      obtain ⟨t, ht, rfl⟩ := map_at hy
      obtain ⟨row, hrow, hT⟩ := Paired.at' hr' ht
      obtain ⟨x, hx, rfl⟩ := map_some hrow
      have hi' := (List.getElem?_eq_some_iff.mp hx).1
      refine ⟨rfl, ?_⟩
      refine ⟨_, rfl, go, _, dx, _, _, rfl, e _ _ hg, T.c_Ground, T.n_Ground_stations, rfl, _, rfl, aS, t, st, x, rfl, SqT.ext hS e, SqT.ext hT e, hq x (List.mem_of_getElem? hx), fun H3 e3 => ⟨_, e3 _ _ hDD, szl (by rw [List.length_map, List.length_replicate]; omega), updE (e.trans e3) hD, ?_⟩⟩
      rw [upd_same, List.replicate_succ', List.map_append]; rfl
    · rintro H1 ⟨e, hDD⟩
      refine ⟨D, _, rfl, SqL.of hDD, _, rfl, ?_⟩
      rw [show (List.replicate (ts.map V.ref).length true).all id = true by rw [List.all_eq_true]; intro b hb; exact (List.mem_replicate.mp hb).2]
      refine iteT ⟨_, rfl, p, ts, es, rfl, SqT.ext hp e, hr'.tm (tmE e), h24, nd, fun H2 e2 => k _ (e.trans e2)⟩
abbrev N_plain_roads : List Str := ["roads", "one"]
theorem sc_plain_roads : FnScope N_plain_roads ["roads"] (defScope s_plain_roads) := ⟨rfl, rfl, rfl, by decide +kernel, rfl, by decide +kernel, by decide +kernel⟩
def prD (r : Road) : List V := if leS r.1 r.2.1 = true then [.str r.1, .str r.2.1, .int r.2.2.1, .int r.2.2.2] else [.str r.2.1, .str r.1, .int r.2.2.1, .int r.2.2.2]
def sp_plain_roads (K : PySem.W.Frag) : Sp := fun vs H Q _ => ∃ (p : Addr) (ts : List Addr) (rs : List Road), vs = [.ref p] ∧ SqT K H p (ts.map V.ref) ∧ Rows K H ts (rs.map encR) ∧ rs.length ≤ 80 ∧ (∀ r ∈ rs, PyData.strOk r.1 = true ∧ PyData.strOk r.2.1 = true) ∧ ∀ (l : Addr) (ls : List Addr) H', Ext H H' → H' l = some (.lst (ls.map V.ref)) → Rows K H' ls ((rs.map prD).mergeSort leR) → Q (.ref l) H'
theorem ok_plain_roads (T : Tx w K mg) : C8.Cal P w K mg base 1 "plain_roads" (sp_plain_roads K) [] := by
  refine cal_mk T.F_plain_roads T.g_plain_roads sc_plain_roads (fun _ _ _ _ _ _ us hl => match us, hl with | [_], _ => rfl) (fun vs H Q E h => ?_) (fun cdv A outer s H vs Q E hr h => ?_)
  · obtain ⟨p, _, _, rfl, _⟩ := h
    rfl
  · obtain ⟨p, ts, rs, rfl, hp, hr', h80, hok, k⟩ := h
    refine ⟨_, (pss_one (ps_ret (pe_callB (cr_sortD (hu65 hr)) (by rfl) T.b_sorted (by decide +kernel) (pa_cons (pe_lc (own := [("one", 1)]) (g := (gName 1)) (tt := tYes) rfl sc_plain_roads.nd (pi_tup (pv 0)) (blkOk_by (N := N_plain_roads) (sc := defScope s_plain_roads) (by decide +kernel)) (fun _ _ _ _ _ => (pg_name (i := 1) sc_plain_roads.nd rfl (Or.inl rfl))) (fun _ _ _ _ _ => pts_nil) (fun _ _ _ _ _ => (pe_op (op_catAK K) (pe_callTy (call_tuple_ofK K) (by rfl) T.b_tuple (by decide +kernel) (pa_cons (pe_callB (cr_sortDK K (hu65 hr)) (by rfl) T.b_sorted (by decide +kernel) (pa_cons (pe_slice (sl_tupAK K) (pv 1) po_none (po_some pe_int)) pa_nil)) pa_nil)) (pe_slice (sl_tupAK K) (pv 1) (po_some pe_int) po_none)))) pa_nil)))), ?_⟩
    have hl : ts.length = rs.length := by have := hr'.length; rwa [List.length_map] at this
    refine ⟨_, rfl, p, rfl, ⟨_, hp⟩, fun D hD => ?_⟩
    refine lc_it walk_tup (fun i H' => ∃ ls : List Addr, Ext H H' ∧ Rows K H' ls ((rs.take i).map prD) ∧ H' D = some (.lst (ls.map V.ref))) ⟨[], Ext.upd hD, .nil, upd_same⟩ (fun i H' _ ⟨_, e, _⟩ => SqT.ext hp e) ?_ ?_
    · rintro i y H1 H2 hi ⟨ls, e, hrw, hDD⟩ ⟨rfl, hy⟩
      obtain ⟨t, ht, rfl⟩ := map_at hy
      obtain ⟨row, hrow, hT⟩ := Paired.at' hr' ht
      obtain ⟨r, hx, rfl⟩ := map_some hrow
      have hi' := (List.getElem?_eq_some_iff.mp hx).1
      have hT2 := SqT.ext hT e
      have lls : ls.length = i := by have := hrw.length; rw [List.length_map, List.length_take] at this; omega
      refine ⟨rfl, ?_⟩
      refine ⟨_, rfl, _, rfl, t, _, rfl, hT2, fun z => absurd (show (2 : Nat) = 4 from z.2) (by decide), fun _ a1 ha1 => ?_⟩
      generalize hga1 : upd H2 a1 _ = A1
      obtain ⟨ea1, ha1', _⟩ := newF ha1 hga1
      show rSortD K [V.ref a1] A1 _
      refine r_sortS [r.1, r.2.1] (.inr (SqT.of ha1')) (Nat.le_of_ble_eq_true rfl) fun b1 hb1 => ?_
      generalize hgb1 : upd A1 b1 _ = B1
      obtain ⟨eb1, hb1', _⟩ := newF hb1 hgb1
      rw [rk_vs] at hb1'
      refine ⟨b1, _, rfl, .inl ⟨SqL.of hb1', fun c1 hc1 => ?_⟩⟩
      generalize hgc1 : upd B1 c1 _ = C1
      obtain ⟨ec1, hc1', _⟩ := newF hc1 hgc1
      have E1 := (ea1.trans eb1).trans ec1
      refine ⟨_, rfl, _, rfl, t, _, rfl, SqT.ext hT2 E1, fun z => absurd (show (2 : Nat) = 0 from z.1) (by decide), fun _ d1 hd1 => ?_⟩
      generalize hgd1 : upd C1 d1 _ = D1
      obtain ⟨ed1, hd1', _⟩ := newF hd1 hgd1
      have hcl : ((rk r.1 r.2.1).map kV).length = 2 := by unfold rk; split <;> rfl
      have hcn : (rk r.1 r.2.1).map kV ≠ [] := fun z => by rw [z] at hcl; cases hcl
      refine ⟨c1, d1, _, [.int r.2.2.1, .int r.2.2.2], rfl, rfl, SqT.of (ed1 _ _ hc1'), SqT.of hd1', by rw [hcl, sizeLine_eq]; show 2 + 2 ≤ 16777216; decide, fun z => absurd z hcn, fun _ z => (by cases z), fun _ _ f1 hf1 => ?_⟩
      generalize hgf1 : upd D1 f1 _ = F1
      obtain ⟨ef1, hf1', _⟩ := newF hf1 hgf1
      have E2 := (E1.trans ed1).trans ef1
      have hpr : (rk r.1 r.2.1).map kV ++ [V.int r.2.2.1, V.int r.2.2.2] = prD r := by unfold rk prD; split <;> rfl
      rw [hpr] at hf1'
      refine ⟨_, E2 _ _ hDD, szl (by rw [List.length_map]; omega), ls ++ [f1], updE (e.trans E2) hD, ?_, ?_⟩
      · rw [take_map_snoc hx]
        have tm : TM K H2 (upd F1 D (.lst (ls.map V.ref ++ [V.ref f1]))) := (tmE E2).trans (tm_upd (E2 _ _ hDD) (fun _ z => by cases z) (fun _ _ z => by cases z))
        refine Paired.snoc (hrw.tm tm) ?_
        exact tm_upd (E2 _ _ hDD) (fun _ z => by cases z) (fun _ _ z => by cases z) _ _ (SqT.of hf1')
      · rw [upd_same, List.map_append]; rfl
    · rintro H1 ⟨ls, e, hrw, hDD⟩
      rw [List.length_map, hl, List.take_length] at hrw
      have hv : ∀ q ∈ rs.map prD, q.all isV = true := fun q hq => by
        obtain ⟨r, hr, rfl⟩ := List.mem_map.mp hq
        obtain ⟨o1, o2⟩ := hok r hr
        unfold prD
        split
        · show (isV (.str r.1) && (isV (.str r.2.1) && true)) = true
          rw [show isV (.str r.1) = true from o1, show isV (.str r.2.1) = true from o2]; rfl
        · show (isV (.str r.2.1) && (isV (.str r.1) && true)) = true
          rw [show isV (.str r.1) = true from o1, show isV (.str r.2.1) = true from o2]; rfl
      show rSortD K [V.ref D] H1 _
      refine r_sortR ls _ (.inl (SqL.of hDD)) hrw hv (fun q hq q' hq' => ?_) (fun q hq => ?_) (by rw [List.length_map]; omega) fun p2 ls' hp2 hR => ?_
      · obtain ⟨r, _, rfl⟩ := List.mem_map.mp hq
        obtain ⟨r', _, rfl⟩ := List.mem_map.mp hq'
        unfold prD
        split <;> split <;> rfl
      · obtain ⟨r, _, rfl⟩ := List.mem_map.mp hq
        unfold prD
        split <;> exact fun z => by cases z
      · exact k p2 ls' _ (e.trans (Ext.upd hp2)) upd_same (hR.tm (tmE (Ext.upd hp2)))
end
end K36
/-! text KS1 -/
namespace K36
open PySem PySem.Spec PyProof.Rows L2 SX
theorem getA_none {α β : Type} [DecidableEq α] {l : List (α × β)} {k : α} (h : ∀ p ∈ l, p.1 ≠ k) : getA l k = none := by
  unfold getA
  rw [List.find?_eq_none.mpr fun p hp => by simpa using h p hp]; rfl
section
variable {P : Program} {w : World} {K : PySem.W.Frag} {mg : Str → Option Value} {base : Heap}
abbrev N_State_init : List Str := ["self", "engines", "name", "sort", "station", "seats"]
theorem sc_State_init : FnScope N_State_init ["self", "engines"] (defScope s_State_init) := ⟨rfl, rfl, rfl, by decide +kernel, rfl, by decide +kernel, by decide +kernel⟩
def sp_State_init (K : PySem.W.Frag) : Sp := fun vs H Q _ => ∃ (H0 : Hp) (x dx : Addr) (A : Adr) (es : List Eng), vs = [.ref x, .ref A.E] ∧ H0 x = none ∧ Ext H0 H ∧ H x = some (.ins (He.ga K "State") dx []) ∧ EAt K H0 A es ∧ es.length ≤ 24 ∧ (es.map (·.1)).Nodup ∧ ∀ H', StX K H0 H' x (initS es) → Q .non H'
theorem ok_State_init (T : Tx w K mg) : C8.Mak P w K mg base 1 "State" (He.ga K "State") (sp_State_init K) [] := by
  refine mak_mk T.mk_State T.g_State T.F_State_init sc_State_init (fun _ _ _ _ _ _ us hl => match us, hl with | [_, _], _ => rfl) (fun vs H Q E h => ?_) (fun cdv A0 outer s H vs Q E hr h => ?_)
  · obtain ⟨H0, x, dx, A, es, rfl, _⟩ := h
    rfl
  · obtain ⟨H0, x, dx, A, es, rfl, x0, e0, hx, ea, h24, nd, k⟩ := h
    refine ⟨_, (pss_cons (ps_fld (pv 0) pe_dnewK rfl)
    (pss_cons (ps_for PassesOwn.never rfl (pi_tup (pv 1)) (pg_tup rfl (pgs_cons (pg_name (i := 2) sc_State_init.nd rfl (Or.inl rfl)) (pgs_cons (pg_name (i := 3) sc_State_init.nd rfl (Or.inl rfl)) (pgs_cons (pg_name (i := 4) sc_State_init.nd rfl (Or.inl rfl)) (pgs_cons (pg_name (i := 5) sc_State_init.nd rfl (Or.inl rfl)) pgs_nil)))))
      (pss_one (ps_dput (hu_of hr) (pe_fld (pv 0) rfl) (pv 2) (pe_tup (pa_cons pe_str (pa_cons (pv 4) (pa_cons (pv 4) (pa_cons pe_int pa_nil))))) rfl)))
    (pss_cons (ps_fld (pv 0) pe_dnewK rfl)
    (pss_one (ps_fld (pv 0) (pe_lst pa_nil) rfl))))), ?_⟩
    refine fun sA hsA => ?_
    have nsx : sA ≠ x := (ne_of_none hx hsA).symm
    have s0 : H0 sA = none := by
      cases q : H0 sA with
      | none => rfl
      | some o => rw [e0 _ _ q] at hsA; cases hsA
    refine ⟨_, rfl, x, _, dx, _, rfl, (upd_ne nsx.symm).trans hx, T.c_State, T.n_State_stands, (Nat.le_of_ble_eq_true rfl), ?_⟩
    have le : A.tE.length = es.length := by have := ea.es.length; rwa [List.length_map] at this
    refine ⟨_, rfl, A.E, rfl, ⟨_, SqT.ext ea.e (updE (updE e0 s0) x0)⟩, ?_⟩
    refine for_it walk_tup (fun i σ' H' => ∃ (v2 v3 v4 v5 : Option V) (kvs : List (Key × V)), σ' = [some (.ref x), some (.ref A.E), v2, v3, v4, v5] ∧ Ext H0 H' ∧ H' x = some (.ins (He.ga K "State") dx [("stands", .ref sA)]) ∧ H' sA = some (.dK kvs) ∧ DRel fN (StdR K H') kvs ((es.take i).map fun e => (e.1, (⟨"home", e.2.2.1, e.2.2.1, 0⟩ : Stand))))
      ⟨_, _, _, _, [], rfl, updE (updE e0 s0) x0, upd_same, (upd_ne nsx).trans upd_same, .nil⟩ (fun i σ' H' _ ⟨_, _, _, _, _, _, e, _⟩ => SqT.ext ea.e e) ?_ ?_
    · rintro i y σ' H1 H2 hi ⟨v2, v3, v4, v5, kvs, rfl, e, hx1, hs1, hd⟩ ⟨rfl, hy⟩
      obtain ⟨t, ht, rfl⟩ := map_at hy
      obtain ⟨row, hrow, hT⟩ := Paired.at' ea.es ht
      obtain ⟨z, hz, rfl⟩ := map_some hrow
      have hi' := (List.getElem?_eq_some_iff.mp hz).1
      refine ⟨t, _, rfl, SqT.ext hT e, rfl, _, _, rfl, _, _, rfl, _, _, rfl, _, _, rfl, rfl, ?_⟩
      refine ⟨_, rfl, _, rfl, sz rfl, fun t1 ht1 => ?_⟩
      generalize hg1 : upd H2 t1 _ = H3
      obtain ⟨e3, h3, _⟩ := newF ht1 hg1
      have lk : kvs.length = i := by rw [hd.length, List.length_map, List.length_take]; omega
      have hn : getA ((es.take i).map fun e => (e.1, (⟨"home", e.2.2.1, e.2.2.1, 0⟩ : Stand))) z.1 = none := getA_none fun p hp => by
        obtain ⟨q, hq, rfl⟩ := List.mem_map.mp hp
        exact name_new (f := fun q : Eng => q.1) nd hz q hq
      have hv := hd.none inr_inj hn
      refine ⟨_, rfl, x, _, dx, _, _, rfl, e3 _ _ hx1, T.c_State, T.n_State_stands, rfl, _, rfl, sA, _, rfl, DPut.k (k := .inr z.1) (e3 _ _ hs1) (by rw [lk, sizeLine_eq]; omega), ?_⟩
      rw [putK_new _ hv]
      have tm : TM K H3 (upd H3 sA (.dK (kvs ++ [(.inr z.1, .ref t1)]))) := tm_upd (e3 _ _ hs1) (fun _ z => by cases z) (fun _ _ z => by cases z)
      refine ⟨_, _, _, _, _, rfl, updE (e.trans e3) s0, (upd_ne nsx.symm).trans (e3 _ _ hx1), upd_same, ?_⟩
      rw [take_map_snoc hz]
      exact (hd.mono fun _ _ ⟨t, a, b⟩ => ⟨t, a, tm _ _ (SqT.ext b e3)⟩).snoc ⟨t1, rfl, tm _ _ (SqT.of h3)⟩
    · rintro σ' H1 ⟨v2, v3, v4, v5, kvs, rfl, e, hx1, hs1, hd⟩
      rw [List.length_map, le, List.take_length] at hd
      refine fun tA htA => ?_
      have t0 : H0 tA = none := by
        cases q : H0 tA with
        | none => rfl
        | some o => rw [e _ _ q] at htA; cases htA
      have ntx : tA ≠ x := (ne_of_none hx1 htA).symm
      have nts : sA ≠ tA := ne_of_none hs1 htA
      have eA : Ext H1 (upd H1 tA (.dK [])) := Ext.upd htA
      refine ⟨_, rfl, x, _, dx, _, rfl, eA _ _ hx1, T.c_State, T.n_State_told, (Nat.le_of_ble_eq_true rfl), ?_⟩
      refine ⟨sz rfl, fun cA hcA => ?_⟩
      have hx2 : upd (upd H1 tA (.dK [])) x (.ins (He.ga K "State") dx (putF "told" (.ref tA) [("stands", .ref sA)])) x = some (.ins (He.ga K "State") dx [("stands", .ref sA), ("told", .ref tA)]) := upd_same
      have hs2 : upd (upd H1 tA (.dK [])) x (.ins (He.ga K "State") dx (putF "told" (.ref tA) [("stands", .ref sA)])) sA = some (.dK kvs) := (upd_ne nsx).trans (eA _ _ hs1)
      have ht2 : upd (upd H1 tA (.dK [])) x (.ins (He.ga K "State") dx (putF "told" (.ref tA) [("stands", .ref sA)])) tA = some (.dK []) := (upd_ne ntx).trans upd_same
      have tm2 : TM K H1 (upd (upd H1 tA (.dK [])) x (.ins (He.ga K "State") dx (putF "told" (.ref tA) [("stands", .ref sA)]))) := (tmE eA).trans (tm_upd (eA _ _ hx1) (fun _ z => by cases z) (fun _ _ z => by cases z))
      have e2 : Ext H0 (upd (upd H1 tA (.dK [])) x (.ins (He.ga K "State") dx (putF "told" (.ref tA) [("stands", .ref sA)]))) := updE (updE e t0) x0
      generalize upd (upd H1 tA (.dK [])) x (.ins (He.ga K "State") dx (putF "told" (.ref tA) [("stands", .ref sA)])) = H2 at hcA hx2 hs2 ht2 tm2 e2 ⊢
      generalize hg3 : upd H2 cA _ = H3
      obtain ⟨e3, h3, _⟩ := newF hcA hg3
      refine ⟨_, rfl, x, _, dx, _, rfl, e3 _ _ hx2, T.c_State, T.n_State_closed, (Nat.le_of_ble_eq_true rfl), ?_⟩
      have tm4 : TM K H3 (upd H3 x (.ins (He.ga K "State") dx (stF sA tA cA))) := tm_upd (e3 _ _ hx2) (fun _ z => by cases z) (fun _ _ z => by cases z)
      have ncx : cA ≠ x := (ne_of_none hx2 hcA).symm
      have c0 : H0 cA = none := by
        cases q : H0 cA with
        | none => rfl
        | some o => rw [e2 _ _ q] at hcA; cases hcA
      exact k _ ⟨dx, sA, tA, cA, kvs, [], updE (e2.trans e3) x0, x0, s0, t0, c0, upd_same, (upd_ne nsx).trans (e3 _ _ hs2), (upd_ne ntx).trans (e3 _ _ ht2), (upd_ne ncx).trans h3, nts, hd.mono fun _ _ ⟨t, a, b⟩ => ⟨t, a, tm4 _ _ (SqT.ext (tm2 _ _ b) e3)⟩, .nil⟩
abbrev N_State_is_open : List Str := ["self", "call"]
theorem sc_State_is_open : FnScope N_State_is_open ["self", "call"] (defScope s_State_is_open) := ⟨rfl, rfl, rfl, by decide +kernel, rfl, by decide +kernel, by decide +kernel⟩
def sp_is_open (K : PySem.W.Frag) : Sp := fun vs H Q _ => ∃ (x : Addr) (c : Int) (s : RS) (dx sA tA cA : Addr) (tk : List (Key × V)), vs = [.ref x, .int c] ∧ H x = some (.ins (He.ga K "State") dx (stF sA tA cA)) ∧ Rd H tA (.dK tk) ∧ DRel fI (TolR K H) tk s.told ∧ Q (.bl (s.isOpen c)) H
theorem ok_is_open (T : Tx w K mg) : C8.Met P w K mg base 1 (He.ga K "State") "is_open" (sp_is_open K) [] := by
  refine met_mk T.c_State T.m_State_is_open T.F_State_is_open sc_State_is_open (fun _ _ _ _ _ _ us hl => match us, hl with | [_, _], _ => rfl) (fun vs H Q E h => ?_) (fun cdv A outer s H vs Q E hr h => ?_)
  · obtain ⟨x, c, s, _, _, _, _, _, rfl, _⟩ := h
    rfl
  · obtain ⟨x, c, s, dx, sA, tA, cA, tk, rfl, hx, ht, hd, k⟩ := h
    refine ⟨_, (pss_one (ps_ret (pe_and (pe_cmp (pc_din (hu_of hr) (pv 1) (pe_fld (pv 0) rfl)) rfl) (pe_one (pe_ix ix_tup (pe_dget (hu_of hr) (pe_fld (pv 0) rfl) (pv 1) (fun _ _ => rfl)) pe_int (fun _ _ => rfl)))))), ?_⟩
    refine ⟨_, rfl, _, rfl, x, _, dx, _, _, rfl, hx, T.c_State, T.n_State_told, rfl, tA, _, rfl, .inl ⟨tk, fI c, ht, rfl, rfl⟩, _, rfl, ?_⟩
    rw [hd.isSome inl_inj]
    unfold RS.isOpen at k
    cases hg : getA s.told c with
    | none => rw [hg] at k; exact iteF k
    | some cd =>
      rw [hg] at k
      obtain ⟨v, h1, t, rfl, h2⟩ := hd.some inl_inj hg
      refine iteT ⟨_, rfl, x, _, dx, _, _, rfl, hx, T.c_State, T.n_State_told, rfl, _, rfl, tA, .ref t, rfl, .inl ⟨tk, fI c, ht, rfl, h1.symm⟩, t, _, _, _, rfl, rfl, h2, rfl, k⟩
abbrev N_State_put : List Str := ["self", "name", "word", "place", "call"]
theorem sc_State_put : FnScope N_State_put ["self", "name", "word", "place", "call"] (defScope s_State_put) := ⟨rfl, rfl, rfl, by decide +kernel, rfl, by decide +kernel, by decide +kernel⟩
def sp_put (K : PySem.W.Frag) : Sp := fun vs H Q _ => ∃ (x : Addr) (e wd pl : Str) (c : Int) (H0 : Hp) (s : RS) (st : Stand), vs = [.ref x, .str e, .str wd, .str pl, .int c] ∧ StX K H0 H x s ∧ s.stands.length ≤ 24 ∧ getA s.stands e = some st ∧ ∀ H', StX K H0 H' x (s.put e wd pl st.own c) → Q (.str "") H'
theorem ok_put (T : Tx w K mg) : FnM P w K mg base 1 "put" "State.put" (defArgs s_State_put) (defBody s_State_put) (defScope s_State_put) [.int 0] (He.ma K (He.ga K "State") "put") ["self", "name", "word", "place", "call"] (sp_put K) := by
  refine fnM_mk T.F_State_put sc_State_put (fun vs H Q E h => ?_) (fun cdv A outer s H vs Q E hr h => ?_)
  · obtain ⟨x, e, wd, pl, c, _, _, _, rfl, _⟩ := h
    rfl
  · obtain ⟨x, e, wd, pl, c, H0, s, st, rfl, ⟨dx, sA, tA, cA, sk, tk, hS⟩, h24, hg, k⟩ := h
    refine ⟨_, (pss_cons (ps_dput (hu_of hr) (pe_fld (pv 0) rfl) (pv 1) (pe_tup (pa_cons (pv 2) (pa_cons (pv 3) (pa_cons (pe_ix ix_tup (pe_dget (hu_of hr) (pe_fld (pv 0) rfl) (pv 1) (fun _ _ => rfl)) pe_int (fun _ _ => rfl)) (pa_cons (pv 4) pa_nil))))) rfl)
    (pss_one (ps_ret pe_str))), ?_⟩
    obtain ⟨t, hv, ht⟩ := hS.getS hg
    refine ⟨_, rfl, _, rfl, _, rfl, x, _, dx, _, _, rfl, hS.x, T.c_State, T.n_State_stands, rfl, _, rfl, sA, .ref t, rfl, .inl ⟨sk, fN e, .inl hS.st, rfl, hv.symm⟩, t, _, _, _, rfl, rfl, ht, rfl, _, rfl, sz rfl, fun t1 ht1 => ?_⟩
    generalize hg1 : upd H t1 _ = H1
    obtain ⟨e1, h1, _⟩ := newF ht1 hg1
    have hS1 := hS.grow e1
    refine ⟨_, rfl, x, _, dx, _, _, rfl, hS1.x, T.c_State, T.n_State_stands, rfl, _, rfl, sA, _, rfl, DPut.k (k := fN e) hS1.st (by rw [hS.sr.length, sizeLine_eq]; omega), ?_⟩
    exact k _ ⟨dx, sA, tA, cA, _, tk, hS1.setS (st := ⟨wd, pl, st.own, c⟩) (SqT.of h1)⟩
end
end K36
/-! text KS2 -/
namespace K36
open PySem PySem.Spec PyProof.Rows L2 SX
theorem paired_at2' {α β : Type} {F : α → β → Prop} : ∀ {l : List α} {m : List β}, Paired F l m → ∀ {i : Nat} {a : α} {b : β}, l[i]? = some a → m[i]? = some b → F a b
  | _, _, .nil, i, a, b, h, _ => by simp at h
  | _, _, .cons f r, 0, a, b, h, h' => by
    cases (Option.some.inj h); cases (Option.some.inj h'); exact f
  | _, _, .cons f r, i + 1, a, b, h, h' => paired_at2' r (by simpa using h) (by simpa using h')
theorem isOpen_at {s : RS} {c : Int} (h : s.isOpen c = true) : ∃ cd, getA s.told c = some cd ∧ cd.opn = true := by
  unfold RS.isOpen at h
  cases hg : getA s.told c with
  | none => rw [hg] at h; cases h
  | some cd => rw [hg] at h; exact ⟨cd, rfl, h⟩
theorem make_no {s : RS} {c p n m : Int} (h : s.isOpen c = false) : doneP s (.make c p) n m = (("call" : Str), s) := by
  unfold RS.isOpen at h
  unfold doneP
  cases hg : getA s.told c with
  | none => simp only [hg]
  | some cd =>
    rw [hg] at h
    simp only [hg]
    rw [if_neg (by rw [show cd.opn = false from h]; decide)]
theorem make_yes {s : RS} {c p n m : Int} {cd : CallD} (hg : getA s.told c = some cd) (h : cd.opn = true) : doneP s (.make c p) n m = (("" : Str), { s with told := putA s.told c { cd with pumps := p } }) := by
  unfold doneP
  simp only [hg, h, if_true]
theorem stop_no {s : RS} {c n m : Int} (h : s.isOpen c = false) : doneP s (.stop c) n m = (("call" : Str), s) := by
  unfold RS.isOpen at h
  unfold doneP
  cases hg : getA s.told c with
  | none => simp only [hg]
  | some cd =>
    rw [hg] at h
    simp only [hg]
    rw [if_neg (by rw [show cd.opn = false from h]; decide)]
theorem stop_yes {s : RS} {c n m : Int} {cd : CallD} (hg : getA s.told c = some cd) (h : cd.opn = true) : doneP s (.stop c) n m = (("" : Str), { s with stands := s.stands.map (stopS c), told := putA s.told c { cd with opn := false } }) := by
  unfold doneP
  simp only [hg, h, if_true]
section
variable {P : Program} {w : World} {K : PySem.W.Frag} {mg : Str → Option Value} {base : Heap}
abbrev N_State_under : List Str := ["self", "call", "name", "stand"]
theorem sc_State_under : FnScope N_State_under ["self", "call"] (defScope s_State_under) := ⟨rfl, rfl, rfl, by decide +kernel, rfl, by decide +kernel, by decide +kernel⟩
def underN (s : RS) (c : Int) : List Str := (s.stands.filter fun q => decide (q.2.call = c)).map (·.1)
def sp_under (K : PySem.W.Frag) : Sp := fun vs H Q _ => ∃ (x : Addr) (c : Int) (H0 : Hp) (s : RS), vs = [.ref x, .int c] ∧ StX K H0 H x s ∧ s.stands.length ≤ 24 ∧ ∀ (l : Addr) (ns : List Str) H', ns.Perm (underN s c) → Ext H H' → H' l = some (.lst (ns.map V.str)) → H l = none → Q (.ref l) H'
theorem ok_under (T : Tx w K mg) : C8.Met P w K mg base 1 (He.ga K "State") "under" (sp_under K) [] := by
  refine met_mk T.c_State T.m_State_under T.F_State_under sc_State_under (fun _ _ _ _ _ _ us hl => match us, hl with | [_, _], _ => rfl) (fun vs H Q E h => ?_) (fun cdv A outer s H vs Q E hr h => ?_)
  · obtain ⟨x, c, _, _, rfl, _⟩ := h
    rfl
  · obtain ⟨x, c, H0, s, rfl, ⟨dx, sA, tA, cA, sk, tk, hS⟩, h24, k⟩ := h
    refine ⟨_, (pss_one (ps_ret (pe_callB (cr_sortD (hu65 hr)) (by rfl) T.b_sorted (by decide +kernel) (pa_cons (pe_lock (pe_lc (own := [("name", 2), ("stand", 3)]) (g := (gTup _ 2 (gCons (gName 2) (gCons (gName 3) gNil)))) rfl sc_State_under.nd (pi_items (pe_fld (pv 0) rfl)) (blkOk_by (N := N_State_under) (sc := defScope s_State_under) (by decide +kernel)) (fun _ _ _ _ _ => (pg_tup rfl (pgs_cons (pg_name (i := 2) sc_State_under.nd rfl (Or.inl rfl)) (pgs_cons (pg_name (i := 3) sc_State_under.nd rfl (Or.inl rfl)) pgs_nil)))) (fun _ _ _ _ _ => (pts_one (pt_cmpR op_eq (pe_ix (ix_tupK K) (pv 3) pe_int (fun _ _ => rfl)) (pv 1) (nomark _)))) (fun _ _ _ _ _ => (pv 2)))) pa_nil)))), ?_⟩
    refine ⟨sA, _, hS.st, True.intro, fun od => ?_⟩
    have hx1 : upd H sA (.frz od (.dK sk)) x = _ := (upd_ne (fun z => by have := hS.x; rw [z, hS.st] at this; cases this)).trans hS.x
    have hs1 : upd H sA (.frz od (.dK sk)) sA = _ := upd_same
    have tm1 : TM K H (upd H sA (.frz od (.dK sk))) := tm_upd hS.st (fun _ z => by cases z) (fun _ _ z => by cases z)
    have back : ∀ H', Ext (upd H sA (.frz od (.dK sk))) H' → Ext H (upd H' sA (.dK sk)) := fun H' e a o ha => by
      by_cases z : a = sA
      · rw [z, hS.st] at ha; cases ha; rw [z]; exact upd_same
      · exact (upd_ne z).trans (e _ _ ((upd_ne z).trans ha))
    have hsl : sk.length = s.stands.length := hS.sr.length
    generalize hgH1 : upd H sA (.frz od (.dK sk)) = H1 at hx1 hs1 tm1 back ⊢
    refine ⟨_, rfl, x, _, dx, _, _, rfl, hx1, T.c_State, T.n_State_stands, rfl, sA, od, sk, rfl, hs1, fun D hD => ?_⟩
    have nDs : D ≠ sA := (ne_of_none hs1 hD).symm
    refine lc_it walk_items (fun i H' => Ext H1 H' ∧ H' D = some (.lst ((((s.stands.take i).filter fun q => decide (q.2.call = c)).map (·.1)).map V.str))) ⟨Ext.upd hD, upd_same⟩ (fun i H' _ ⟨e, _⟩ => e _ _ hs1) ?_ ?_
    · rintro i y H2 H3 hi ⟨e, hDD⟩ ⟨T1, a1, b1, rfl, hT1, rfl, ha, hb⟩
      have hi' : i < s.stands.length := by omega
      have hq : s.stands[i]? = some s.stands[i] := List.getElem?_eq_getElem hi'
      have hp : sk[i]? = some sk[i] := List.getElem?_eq_getElem hi
      obtain ⟨p1, t, p2, hT⟩ := paired_at2' hS.sr hp hq
      have ha : sk[i]?.map (fun kv => kV kv.1) = some a1 := ha
      have hb : sk[i]?.map (fun kv => kv.2) = some b1 := hb
      rw [hp] at ha hb
      generalize s.stands[i] = q at hq p1 hT
      generalize sk[i] = p at p1 p2 ha hb
      have ea : a1 = .str q.1 := by have := Option.some.inj ha; rw [← this]; show kV p.1 = _; rw [p1]; rfl
      have eb : b1 = .ref t := by have := Option.some.inj hb; rw [← this]; exact p2
      subst ea eb
      have e2 := e.trans (Ext.upd (o := .tup [.str q.1, .ref t]) hT1)
      have hD2 : upd H2 T1 (.tup [.str q.1, .ref t]) D = _ := (upd_ne (ne_of_none hDD hT1)).trans hDD
      refine ⟨T1, _, rfl, SqT.of upd_same, rfl, _, _, rfl, _, _, rfl, rfl, rfl, ?_⟩
      generalize upd H2 T1 (.tup [.str q.1, .ref t]) = H3 at e2 hD2 ⊢
      refine ⟨_, rfl, t, _, _, _, rfl, rfl, SqT.ext (tm1 _ _ hT) e2, rfl, _, rfl, rfl, _, rfl, ?_⟩
      have ff : ∀ b, (decide (q.2.call = c)) = b → ((s.stands.take (i + 1)).filter fun q => decide (q.2.call = c)).map (·.1) = ((s.stands.take i).filter fun q => decide (q.2.call = c)).map (·.1) ++ (if b = true then [q.1] else []) := fun b hb => by
        rw [List.take_add_one, hq, List.filter_append, List.map_append]
        show _ ++ (List.filter _ [q]).map _ = _
        rw [List.filter_cons, hb]
        cases b <;> rfl
      refine ite2 (fun z0 => ?_) (fun z0 => ?_)
      · have z : q.2.call = c := V.int.inj (of_decide_eq_true z0)
        refine ⟨_, rfl, _, hD2, szl (by rw [List.length_map, List.length_map]; have := List.length_filter_le (fun q : Str × Stand => decide (q.2.call = c)) (s.stands.take i); rw [List.length_take] at this; omega), updE e2 hD, ?_⟩
        rw [upd_same, ff true (decide_eq_true z), List.map_append]; rfl
      · have z : ¬ q.2.call = c := fun y => z0 (decide_eq_true (by rw [y]))
        refine ⟨e2, ?_⟩
        rw [ff false (decide_eq_false z), hD2]
        simp
    · rintro H2 ⟨e, hDD⟩
      rw [hsl, List.take_length] at hDD
      refine ⟨e _ _ hs1, ?_⟩
      have hl2 : (underN s c).length ≤ 1000 := by
        unfold underN
        rw [List.length_map]
        have := List.length_filter_le (fun q : Str × Stand => decide (q.2.call = c)) s.stands
        omega
      have hD3 : upd H2 sA (.dK sk) D = some (.lst ((underN s c).map V.str)) := (upd_ne nDs).trans hDD
      have E2 := back _ e
      show rSortD K [V.ref D] _ _
      refine r_sortS (underN s c) (.inl (SqL.of hD3)) hl2 fun l hl => ?_
      refine k l _ _ (List.mergeSort_perm _ _) (E2.trans (Ext.upd hl)) upd_same ?_
      cases q : H l with
      | none => rfl
      | some o => rw [E2 _ _ q] at hl; cases hl
/-- what a deed does, of the deeds of p -/
def sp_do (K : PySem.W.Frag) (p : Deed → Prop) : Sp := fun vs H Q _ => ∃ (x dA : Addr) (n m : Int) (H0 : Hp) (s : RS) (d : Deed) (g : Gd) (es : List Eng) (j : Nat), vs = [.ref x, .ref dA, .int n, .int m] ∧ p d ∧ StX K H0 H x s ∧ SqT K H0 dA d.vs ∧ RSOk es j s ∧ DOk g es d ∧ (es.length ≤ 24 ∧ (es.map (·.1)).Nodup) ∧ j ≤ 300 ∧ ∀ H', StX K H0 H' x (doneP s d n m).2 → Q (.str (doneP s d n m).1) H'
abbrev N_do_call : List Str := ["state", "deed", "number", "at"]
theorem sc_do_call : FnScope N_do_call ["state", "deed", "number", "at"] (defScope s_do_call) := ⟨rfl, rfl, rfl, by decide +kernel, rfl, by decide +kernel, by decide +kernel⟩
theorem ok_do_call (T : Tx w K mg) : C8.Cal P w K mg base 2 "do_call" (sp_do K fun d => ∃ p k, d = .call p k) [] := by
  refine cal_mk T.F_do_call T.g_do_call sc_do_call (fun _ _ _ _ _ _ us hl => match us, hl with | [_, _, _, _], _ => rfl) (fun vs H Q E h => ?_) (fun cdv A outer s0 H vs Q E hr h => ?_)
  · obtain ⟨x, dA, n, m, _, _, _, _, _, _, rfl, _⟩ := h
    rfl
  · obtain ⟨x, dA, n, m, H0, s, d, g, es, j, rfl, ⟨pl, kd, rfl⟩, ⟨dx, sA, tA, cA, sk, tk, hS⟩, hdA, ok, hd, h24, hj, k⟩ := h
    refine ⟨_, (pss_cons (ps_dput (hu_of hr) (pe_fld (pv 0) rfl) (pv 2) (pe_tup (pa_cons (pe_ix ix_tup (pv 1) pe_int (fun _ _ => rfl)) (pa_cons (pe_ix ix_tup (pv 1) pe_int (fun _ _ => rfl)) (pa_cons (pv 3) (pa_cons pe_int (pa_cons pe_bl pa_nil)))))) rfl)
    (pss_one (ps_ret pe_str))), ?_⟩
    have hdA' := SqT.ext hdA hS.ext
    refine ⟨_, rfl, dA, _, _, _, rfl, rfl, hdA', rfl, _, rfl, dA, _, _, _, rfl, rfl, hdA', rfl, _, rfl, sz rfl, fun t1 ht1 => ?_⟩
    generalize hg1 : upd H t1 _ = H1
    obtain ⟨e1, h1, _⟩ := newF ht1 hg1
    have hS1 := hS.grow e1
    have tl := ok.tl
    refine ⟨_, rfl, x, _, dx, _, _, rfl, hS1.x, T.c_State, T.n_State_told, rfl, _, rfl, tA, _, rfl, DPut.k (k := fI n) hS1.td (by rw [hS.tr.length, sizeLine_eq]; omega), ?_⟩
    exact k _ ⟨dx, sA, tA, cA, sk, _, hS1.setT (cd := ⟨pl, kd, m, 0, true⟩) (SqT.of h1)⟩
abbrev N_do_nothing : List Str := ["state", "deed", "number", "at"]
theorem sc_do_nothing : FnScope N_do_nothing ["state", "deed", "number", "at"] (defScope s_do_nothing) := ⟨rfl, rfl, rfl, by decide +kernel, rfl, by decide +kernel, by decide +kernel⟩
theorem ok_do_nothing (T : Tx w K mg) : C8.Cal P w K mg base 2 "do_nothing" (sp_do K fun d => d = .nothing) [] := by
  refine cal_mk T.F_do_nothing T.g_do_nothing sc_do_nothing (fun _ _ _ _ _ _ us hl => match us, hl with | [_, _, _, _], _ => rfl) (fun vs H Q E h => ?_) (fun cdv A outer s0 H vs Q E hr h => ?_)
  · obtain ⟨x, dA, n, m, _, _, _, _, _, _, rfl, _⟩ := h
    rfl
  · obtain ⟨x, dA, n, m, H0, s, d, g, es, j, rfl, rfl, hS, hdA, ok, hd, h24, hj, k⟩ := h
    exact ⟨_, (pss_one (ps_ret pe_str)), k _ hS⟩
abbrev N_do_again : List Str := ["state", "deed", "number", "at"]
theorem sc_do_again : FnScope N_do_again ["state", "deed", "number", "at"] (defScope s_do_again) := ⟨rfl, rfl, rfl, by decide +kernel, rfl, by decide +kernel, by decide +kernel⟩
theorem ok_do_again (T : Tx w K mg) (G_is_open : C8.Met P w K mg base 1 (He.ga K "State") "is_open" (sp_is_open K) []) : C8.Cal P w K mg base 2 "do_again" (sp_do K fun d => ∃ c, d = .again c) [] := by
  refine cal_mk T.F_do_again T.g_do_again sc_do_again (fun _ _ _ _ _ _ us hl => match us, hl with | [_, _, _, _], _ => rfl) (fun vs H Q E h => ?_) (fun cdv A outer s0 H vs Q E hr h => ?_)
  · obtain ⟨x, dA, n, m, _, _, _, _, _, _, rfl, _⟩ := h
    rfl
  · obtain ⟨x, dA, n, m, H0, s, d, g, es, j, rfl, ⟨c, rfl⟩, ⟨dx, sA, tA, cA, sk, tk, hS⟩, hdA, ok, hd, h24, hj, k⟩ := h
    refine ⟨_, (pss_one (ps_ret (pe_ifExp (pt_val (C8.pe_mt G_is_open hr (by decide) (pv 0) (pa_cons (pe_ix ix_tup (pv 1) pe_int (fun _ _ => rfl)) pa_nil))) pe_str pe_str))), ?_⟩
    have hdA' := SqT.ext hdA hS.ext
    refine ⟨_, rfl, x, dx, _, rfl, hS.x, rfl, _, rfl, dA, _, _, _, rfl, rfl, hdA', rfl, x, c, s, dx, sA, tA, cA, tk, rfl, hS.x, .inl hS.td, hS.tr, _, rfl, ?_⟩
    have k' := k H ⟨dx, sA, tA, cA, sk, tk, hS⟩
    refine ite2 (fun q => ?_) (fun q => ?_)
    · have e : (doneP s (.again c) n m).1 = "" := if_pos q
      rw [e] at k'; exact k'
    · have e : (doneP s (.again c) n m).1 = "call" := if_neg q
      rw [e] at k'; exact k'
abbrev N_do_make : List Str := ["state", "deed", "number", "at", "place", "kind", "minute", "pumps", "is_so"]
theorem sc_do_make : FnScope N_do_make ["state", "deed", "number", "at"] (defScope s_do_make) := ⟨rfl, rfl, rfl, by decide +kernel, rfl, by decide +kernel, by decide +kernel⟩
theorem ok_do_make (T : Tx w K mg) (G_is_open : C8.Met P w K mg base 1 (He.ga K "State") "is_open" (sp_is_open K) []) : C8.Cal P w K mg base 2 "do_make" (sp_do K fun d => ∃ c p, d = .make c p) [] := by
  refine cal_mk T.F_do_make T.g_do_make sc_do_make (fun _ _ _ _ _ _ us hl => match us, hl with | [_, _, _, _], _ => rfl) (fun vs H Q E h => ?_) (fun cdv A outer s0 H vs Q E hr h => ?_)
  · obtain ⟨x, dA, n, m, _, _, _, _, _, _, rfl, _⟩ := h
    rfl
  · obtain ⟨x, dA, n, m, H0, s, d, g, es, j, rfl, ⟨c, pu, rfl⟩, ⟨dx, sA, tA, cA, sk, tk, hS⟩, hdA, ok, hd, h24, hj, k⟩ := h
    refine ⟨_, (pss_cons (ps_if (pt_not (pt_val (C8.pe_mt G_is_open hr (by decide) (pv 0) (pa_cons (pe_ix ix_tup (pv 1) pe_int (fun _ _ => rfl)) pa_nil))))
      (pss_one (ps_ret pe_str))
      pss_nil)
    (pss_cons (ps_asg (pe_dget (hu_of hr) (pe_fld (pv 0) rfl) (pe_ix ix_tup (pv 1) pe_int (fun _ _ => rfl)) (fun _ _ => rfl)) (pg_tup rfl (pgs_cons (pg_name (i := 4) sc_do_make.nd rfl (Or.inl rfl)) (pgs_cons (pg_name (i := 5) sc_do_make.nd rfl (Or.inl rfl)) (pgs_cons (pg_name (i := 6) sc_do_make.nd rfl (Or.inl rfl)) (pgs_cons (pg_name (i := 7) sc_do_make.nd rfl (Or.inl rfl)) (pgs_cons (pg_name (i := 8) sc_do_make.nd rfl (Or.inl rfl)) pgs_nil)))))))
    (pss_cons (ps_dput (hu_of hr) (pe_fld (pv 0) rfl) (pe_ix ix_tup (pv 1) pe_int (fun _ _ => rfl)) (pe_tup (pa_cons (pv 4) (pa_cons (pv 5) (pa_cons (pv 6) (pa_cons (pe_ix ix_tup (pv 1) pe_int (fun _ _ => rfl)) (pa_cons (pv 8) pa_nil)))))) rfl)
    (pss_one (ps_ret pe_str))))), ?_⟩
    have hdA' := SqT.ext hdA hS.ext
    refine ⟨_, rfl, x, dx, _, rfl, hS.x, rfl, _, rfl, dA, _, _, _, rfl, rfl, hdA', rfl, x, c, s, dx, sA, tA, cA, tk, rfl, hS.x, .inl hS.td, hS.tr, _, rfl, ?_⟩
    have hX : StX K H0 H x s := ⟨dx, sA, tA, cA, sk, tk, hS⟩
    cases ho : s.isOpen c with
    | false =>
      have hk := make_no (n := n) (m := m) (p := pu) ho
      rw [hk] at k
      exact iteT (k _ hX)
    | true =>
        obtain ⟨cd, hg, hop⟩ := isOpen_at ho
        obtain ⟨t, hv, ht⟩ := hS.getT hg
        have hk := make_yes (n := n) (m := m) (p := pu) hg hop
        rw [hk] at k
        refine iteF ⟨_, rfl, x, _, dx, _, _, rfl, hS.x, T.c_State, T.n_State_told, rfl, _, rfl, dA, _, _, _, rfl, rfl, hdA', rfl, tA, .ref t, rfl, .inl ⟨tk, fI c, .inl hS.td, rfl, hv.symm⟩, t, _, rfl, ht, rfl, _, _, rfl, _, _, rfl, _, _, rfl, _, _, rfl, _, _, rfl, rfl, ?_⟩
        refine ⟨_, rfl, _, rfl, _, rfl, _, rfl, dA, _, _, _, rfl, rfl, hdA', rfl, _, rfl, sz rfl, fun t1 ht1 => ?_⟩
        generalize hg1 : upd H t1 _ = H1
        obtain ⟨e1, h1, _⟩ := newF ht1 hg1
        have hS1 := hS.grow e1
        have tl := ok.tl
        refine ⟨_, rfl, x, _, dx, _, _, rfl, hS1.x, T.c_State, T.n_State_told, rfl, _, rfl, dA, _, _, _, rfl, rfl, SqT.ext hdA' e1, rfl, tA, _, rfl, DPut.k (k := fI c) hS1.td (by rw [hS.tr.length, sizeLine_eq]; omega), ?_⟩
        exact k _ ⟨dx, sA, tA, cA, sk, _, hS1.setT (cd := { cd with pumps := pu }) (SqT.of h1)⟩
end
end K36
/-! text KS3 -/
namespace K36
open PySem PySem.Spec PyProof.Rows L2 SX
theorem withE_at {s : RS} {e : Str} {x : Stand} {f : Stand → Str × RS} (h : getA s.stands e = some x) : withE s e f = f x := by unfold withE; rw [h]
theorem st_len {es : List Eng} {j : Nat} {s : RS} (h : RSOk es j s) (h24 : es.length ≤ 24 ∧ (es.map (·.1)).Nodup) : s.stands.length ≤ 24 := by
  have h24 := h24.1
  have := congrArg List.length h.keys
  rw [List.length_map, List.length_map] at this; omega
theorem st_at {es : List Eng} {j : Nat} {s : RS} {e : Str} (h : RSOk es j s) (he : e ∈ es.map (·.1)) : ∃ st, getA s.stands e = some st := getA_in (by rw [h.keys]; exact he)
section
variable {P : Program} {w : World} {K : PySem.W.Frag} {mg : Str → Option Value} {base : Heap}
abbrev MetPut (P : Program) (w : World) (K : PySem.W.Frag) (mg : Str → Option Value) (base : Heap) : Prop := C8.Met P w K mg base 1 (He.ga K "State") "put" (sp_put K) [.int 0]
abbrev MetPutK (P : Program) (w : World) (K : PySem.W.Frag) (mg : Str → Option Value) (base : Heap) : Prop := MetN P w K mg base 1 (He.ga K "State") "put" (sp_put K) 4 ["call"] (fun vs zs => vs ++ zs)
theorem met_put (T : Tx w K mg) : MetPut P w K mg base := FnM.met (ok_put T) T.c_State T.m_State_put 4 0 (by simp) rfl fun T kV doc pm an cdv ct us its h1 h2 => match us, its, h1, h2 with | [_, _, _, _], [_], _, _ => ⟨_, rfl, rfl⟩
theorem met_putk (T : Tx w K mg) : MetPutK P w K mg base := FnM.metN (ok_put T) T.c_State T.m_State_put 4 ["call"] (by simp) fun T kV doc pm an cdv ct us its ws h1 h2 h3 => match us, its, ws, h1, h2, h3 with | [_, _, _, _], [_], [_], _, _, _ => ⟨_, rfl, rfl⟩
abbrev N_do_back : List Str := ["state", "deed", "number", "at", "word", "place", "own", "call"]
theorem sc_do_back : FnScope N_do_back ["state", "deed", "number", "at"] (defScope s_do_back) := ⟨rfl, rfl, rfl, by decide +kernel, rfl, by decide +kernel, by decide +kernel⟩
theorem ok_do_back (T : Tx w K mg) (G_put : MetPut P w K mg base) : C8.Cal P w K mg base 2 "do_back" (sp_do K fun d => ∃ e, d = .back e) [] := by
  refine cal_mk T.F_do_back T.g_do_back sc_do_back (fun _ _ _ _ _ _ us hl => match us, hl with | [_, _, _, _], _ => rfl) (fun vs H Q E h => ?_) (fun cdv A outer s0 H vs Q E hr h => ?_)
  · obtain ⟨x, dA, n, m, _, _, _, _, _, _, rfl, _⟩ := h
    rfl
  · obtain ⟨x, dA, n, m, H0, s, d, g, es, j, rfl, ⟨e, rfl⟩, ⟨dx, sA, tA, cA, sk, tk, hS⟩, hdA, ok, hd, h24, hj, k⟩ := h
    refine ⟨_, (pss_cons (ps_asg (pe_dget (hu_of hr) (pe_fld (pv 0) rfl) (pe_ix ix_tup (pv 1) pe_int (fun _ _ => rfl)) (fun _ _ => rfl)) (pg_tup rfl (pgs_cons (pg_name (i := 4) sc_do_back.nd rfl (Or.inl rfl)) (pgs_cons (pg_name (i := 5) sc_do_back.nd rfl (Or.inl rfl)) (pgs_cons (pg_name (i := 6) sc_do_back.nd rfl (Or.inl rfl)) (pgs_cons (pg_name (i := 7) sc_do_back.nd rfl (Or.inl rfl)) pgs_nil))))))
    (pss_one (ps_ret (pe_ifExp (pt_cmpR op_in_seq (pv 4) (pe_tup (pa_cons pe_str (pa_cons pe_str pa_nil))) (by rfl)) (C8.pe_mt G_put hr (by decide) (pv 0) (pa_cons (pe_ix ix_tup (pv 1) pe_int (fun _ _ => rfl)) (pa_cons pe_str (pa_cons (pv 5) pa_nil)))) pe_str)))), ?_⟩
    have hdA' := SqT.ext hdA hS.ext
    obtain ⟨st, hg⟩ := st_at ok hd
    obtain ⟨t, hv, ht⟩ := hS.getS hg
    have hX : StX K H0 H x s := ⟨dx, sA, tA, cA, sk, tk, hS⟩
    have hl := st_len ok h24
    refine ⟨_, rfl, x, _, dx, _, _, rfl, hS.x, T.c_State, T.n_State_stands, rfl, _, rfl, dA, _, _, _, rfl, rfl, hdA', rfl, sA, .ref t, rfl, .inl ⟨sk, fN e, .inl hS.st, rfl, hv.symm⟩, t, _, rfl, ht, rfl, _, _, rfl, _, _, rfl, _, _, rfl, _, _, rfl, rfl, ?_⟩
    refine ⟨_, rfl, sz rfl, fun t1 ht1 => ?_⟩
    generalize hg1 : upd H t1 _ = H1
    obtain ⟨e1, h1, _⟩ := newF ht1 hg1
    have hS1 := hS.grow e1
    have hin : inV (V.str st.word) [V.str "sent", V.str "there"] = decide (st.word ∈ (["sent", "there"] : List Str)) := inV_str (xs := ["sent", "there"])
    refine ⟨t1, _, rfl, .inr (SqT.of h1), rfl, rfl, _, rfl, ?_⟩
    refine ite2 (fun q => ?_) (fun q => ?_)
    · have q : inV (V.str st.word) [V.str "sent", V.str "there"] = true := q
      rw [hin, decide_eq_true_eq] at q
      have hk : doneP s (.back e) n m = (("" : Str), s.put e "back" st.place st.own 0) := (withE_at hg).trans (if_pos (by simpa using q))
      rw [hk] at k
      exact ⟨_, rfl, x, dx, _, rfl, hS1.x, rfl, _, rfl, dA, _, _, _, rfl, rfl, SqT.ext hdA' e1, rfl, _, rfl, x, e, "back", st.place, 0, H0, s, st, rfl, ⟨dx, sA, tA, cA, sk, tk, hS1⟩, hl, hg, fun H' h => k _ h⟩
    · have q : ¬ inV (V.str st.word) [V.str "sent", V.str "there"] = true := q
      rw [hin, decide_eq_true_eq] at q
      have hk : doneP s (.back e) n m = (("engine" : Str), s) := (withE_at hg).trans (if_neg (by simpa using q))
      rw [hk] at k
      exact k _ ⟨dx, sA, tA, cA, sk, tk, hS1⟩
abbrev N_do_home : List Str := ["state", "deed", "number", "at", "word", "place", "own", "call"]
theorem sc_do_home : FnScope N_do_home ["state", "deed", "number", "at"] (defScope s_do_home) := ⟨rfl, rfl, rfl, by decide +kernel, rfl, by decide +kernel, by decide +kernel⟩
theorem ok_do_home (T : Tx w K mg) (G_put : MetPut P w K mg base) : C8.Cal P w K mg base 2 "do_home" (sp_do K fun d => ∃ e, d = .home e) [] := by
  refine cal_mk T.F_do_home T.g_do_home sc_do_home (fun _ _ _ _ _ _ us hl => match us, hl with | [_, _, _, _], _ => rfl) (fun vs H Q E h => ?_) (fun cdv A outer s0 H vs Q E hr h => ?_)
  · obtain ⟨x, dA, n, m, _, _, _, _, _, _, rfl, _⟩ := h
    rfl
  · obtain ⟨x, dA, n, m, H0, s, d, g, es, j, rfl, ⟨e, rfl⟩, ⟨dx, sA, tA, cA, sk, tk, hS⟩, hdA, ok, hd, h24, hj, k⟩ := h
    refine ⟨_, (pss_cons (ps_asg (pe_dget (hu_of hr) (pe_fld (pv 0) rfl) (pe_ix ix_tup (pv 1) pe_int (fun _ _ => rfl)) (fun _ _ => rfl)) (pg_tup rfl (pgs_cons (pg_name (i := 4) sc_do_home.nd rfl (Or.inl rfl)) (pgs_cons (pg_name (i := 5) sc_do_home.nd rfl (Or.inl rfl)) (pgs_cons (pg_name (i := 6) sc_do_home.nd rfl (Or.inl rfl)) (pgs_cons (pg_name (i := 7) sc_do_home.nd rfl (Or.inl rfl)) pgs_nil))))))
    (pss_one (ps_ret (pe_ifExp (pt_cmpR op_eq (pv 4) pe_str (nomark _)) (C8.pe_mt G_put hr (by decide) (pv 0) (pa_cons (pe_ix ix_tup (pv 1) pe_int (fun _ _ => rfl)) (pa_cons pe_str (pa_cons (pv 6) pa_nil)))) pe_str)))), ?_⟩
    have hdA' := SqT.ext hdA hS.ext
    obtain ⟨st, hg⟩ := st_at ok hd
    obtain ⟨t, hv, ht⟩ := hS.getS hg
    have hX : StX K H0 H x s := ⟨dx, sA, tA, cA, sk, tk, hS⟩
    have hl := st_len ok h24
    refine ⟨_, rfl, x, _, dx, _, _, rfl, hS.x, T.c_State, T.n_State_stands, rfl, _, rfl, dA, _, _, _, rfl, rfl, hdA', rfl, sA, .ref t, rfl, .inl ⟨sk, fN e, .inl hS.st, rfl, hv.symm⟩, t, _, rfl, ht, rfl, _, _, rfl, _, _, rfl, _, _, rfl, _, _, rfl, rfl, ?_⟩
    refine ⟨_, rfl, rfl, _, rfl, ?_⟩
    refine ite2 (fun q => ?_) (fun q => ?_)
    · have q := V.str.inj (of_decide_eq_true q)
      have hk : doneP s (.home e) n m = (("" : Str), s.put e "home" st.own st.own 0) := (withE_at hg).trans (if_pos q)
      rw [hk] at k
      exact ⟨_, rfl, x, dx, _, rfl, hS.x, rfl, _, rfl, dA, _, _, _, rfl, rfl, hdA', rfl, _, rfl, x, e, "home", st.own, 0, H0, s, st, rfl, hX, hl, hg, fun H' h => k _ h⟩
    · have hk : doneP s (.home e) n m = (("engine" : Str), s) := (withE_at hg).trans (if_neg fun z => q (decide_eq_true (by rw [z])))
      rw [hk] at k
      exact k _ hX
abbrev N_do_stand : List Str := ["state", "deed", "number", "at", "word", "place", "own", "call"]
theorem sc_do_stand : FnScope N_do_stand ["state", "deed", "number", "at"] (defScope s_do_stand) := ⟨rfl, rfl, rfl, by decide +kernel, rfl, by decide +kernel, by decide +kernel⟩
theorem ok_do_stand (T : Tx w K mg) (G_put : MetPut P w K mg base) : C8.Cal P w K mg base 2 "do_stand" (sp_do K fun d => ∃ e z, d = .stand e z) [] := by
  refine cal_mk T.F_do_stand T.g_do_stand sc_do_stand (fun _ _ _ _ _ _ us hl => match us, hl with | [_, _, _, _], _ => rfl) (fun vs H Q E h => ?_) (fun cdv A outer s0 H vs Q E hr h => ?_)
  · obtain ⟨x, dA, n, m, _, _, _, _, _, _, rfl, _⟩ := h
    rfl
  · obtain ⟨x, dA, n, m, H0, s, d, g, es, j, rfl, ⟨e, z, rfl⟩, ⟨dx, sA, tA, cA, sk, tk, hS⟩, hdA, ok, hd, h24, hj, k⟩ := h
    refine ⟨_, (pss_cons (ps_asg (pe_dget (hu_of hr) (pe_fld (pv 0) rfl) (pe_ix ix_tup (pv 1) pe_int (fun _ _ => rfl)) (fun _ _ => rfl)) (pg_tup rfl (pgs_cons (pg_name (i := 4) sc_do_stand.nd rfl (Or.inl rfl)) (pgs_cons (pg_name (i := 5) sc_do_stand.nd rfl (Or.inl rfl)) (pgs_cons (pg_name (i := 6) sc_do_stand.nd rfl (Or.inl rfl)) (pgs_cons (pg_name (i := 7) sc_do_stand.nd rfl (Or.inl rfl)) pgs_nil))))))
    (pss_cons (ps_if (pt_cmpR op_ne (pv 4) pe_str (nomark _))
      (pss_one (ps_ret pe_str))
      pss_nil)
    (pss_one (ps_ret (pe_ifExp (pt_cmpR op_ne (pv 5) (pe_ix ix_tup (pv 1) pe_int (fun _ _ => rfl)) (nomark _)) (C8.pe_mt G_put hr (by decide) (pv 0) (pa_cons (pe_ix ix_tup (pv 1) pe_int (fun _ _ => rfl)) (pa_cons pe_str (pa_cons (pe_ix ix_tup (pv 1) pe_int (fun _ _ => rfl)) pa_nil)))) pe_str))))), ?_⟩
    have hdA' := SqT.ext hdA hS.ext
    obtain ⟨st, hg⟩ := st_at ok hd.1
    obtain ⟨t, hv, ht⟩ := hS.getS hg
    have hX : StX K H0 H x s := ⟨dx, sA, tA, cA, sk, tk, hS⟩
    have hl := st_len ok h24
    refine ⟨_, rfl, x, _, dx, _, _, rfl, hS.x, T.c_State, T.n_State_stands, rfl, _, rfl, dA, _, _, _, rfl, rfl, hdA', rfl, sA, .ref t, rfl, .inl ⟨sk, fN e, .inl hS.st, rfl, hv.symm⟩, t, _, rfl, ht, rfl, _, _, rfl, _, _, rfl, _, _, rfl, _, _, rfl, rfl, ?_⟩
    refine ⟨_, rfl, rfl, _, rfl, ?_⟩
    by_cases q : st.word = "home"
    · rw [q, decide_eq_true rfl]
      refine iteF ?_
      refine ⟨_, rfl, _, rfl, dA, _, _, _, rfl, rfl, hdA', rfl, rfl, _, rfl, ?_⟩
      by_cases q2 : st.place = z
      · rw [q2, decide_eq_true rfl]
        have hk : doneP s (.stand e z) n m = (("station" : Str), s) := (withE_at hg).trans ((if_pos q).trans (if_pos q2))
        rw [hk] at k
        exact iteF (k _ hX)
      · rw [decide_eq_false (fun y => q2 (V.str.inj y))]
        have hk : doneP s (.stand e z) n m = (("" : Str), s.put e "home" z st.own 0) := (withE_at hg).trans ((if_pos q).trans (if_neg q2))
        rw [hk] at k
        exact iteT ⟨_, rfl, x, dx, _, rfl, hS.x, rfl, _, rfl, dA, _, _, _, rfl, rfl, hdA', rfl, _, rfl, dA, _, _, _, rfl, rfl, hdA', rfl, x, e, "home", z, 0, H0, s, st, rfl, hX, hl, hg, fun H' h => k _ h⟩
    · rw [decide_eq_false (fun y => q (V.str.inj y))]
      have hk : doneP s (.stand e z) n m = (("engine" : Str), s) := (withE_at hg).trans (if_neg q)
      rw [hk] at k
      exact iteT (k _ hX)
abbrev N_do_lend : List Str := ["state", "deed", "number", "at", "word", "place", "own", "call"]
theorem sc_do_lend : FnScope N_do_lend ["state", "deed", "number", "at"] (defScope s_do_lend) := ⟨rfl, rfl, rfl, by decide +kernel, rfl, by decide +kernel, by decide +kernel⟩
theorem ok_do_lend (T : Tx w K mg)  : C8.Cal P w K mg base 2 "do_lend" (sp_do K fun d => ∃ e z, d = .lend e z) [] := by
  refine cal_mk T.F_do_lend T.g_do_lend sc_do_lend (fun _ _ _ _ _ _ us hl => match us, hl with | [_, _, _, _], _ => rfl) (fun vs H Q E h => ?_) (fun cdv A outer s0 H vs Q E hr h => ?_)
  · obtain ⟨x, dA, n, m, _, _, _, _, _, _, rfl, _⟩ := h
    rfl
  · obtain ⟨x, dA, n, m, H0, s, d, g, es, j, rfl, ⟨e, z, rfl⟩, ⟨dx, sA, tA, cA, sk, tk, hS⟩, hdA, ok, hd, h24, hj, k⟩ := h
    refine ⟨_, (pss_cons (ps_asg (pe_dget (hu_of hr) (pe_fld (pv 0) rfl) (pe_ix ix_tup (pv 1) pe_int (fun _ _ => rfl)) (fun _ _ => rfl)) (pg_tup rfl (pgs_cons (pg_name (i := 4) sc_do_lend.nd rfl (Or.inl rfl)) (pgs_cons (pg_name (i := 5) sc_do_lend.nd rfl (Or.inl rfl)) (pgs_cons (pg_name (i := 6) sc_do_lend.nd rfl (Or.inl rfl)) (pgs_cons (pg_name (i := 7) sc_do_lend.nd rfl (Or.inl rfl)) pgs_nil))))))
    (pss_cons (ps_if (PW.pt (pw_or (pt_cmpR op_ne (pv 4) pe_str (nomark _)) (pw_or1 (pt_cmpR op_ne (pv 5) (pv 6) (nomark _)))))
      (pss_one (ps_ret pe_str))
      pss_nil)
    (pss_cons (ps_if (pt_cmpR op_eq (pv 5) (pe_ix ix_tup (pv 1) pe_int (fun _ _ => rfl)) (nomark _))
      (pss_one (ps_ret pe_str))
      pss_nil)
    (pss_cons (ps_dput (hu_of hr) (pe_fld (pv 0) rfl) (pe_ix ix_tup (pv 1) pe_int (fun _ _ => rfl)) (pe_tup (pa_cons pe_str (pa_cons (pe_ix ix_tup (pv 1) pe_int (fun _ _ => rfl)) (pa_cons (pe_ix ix_tup (pv 1) pe_int (fun _ _ => rfl)) (pa_cons pe_int pa_nil))))) rfl)
    (pss_one (ps_ret pe_str)))))), ?_⟩
    have hdA' := SqT.ext hdA hS.ext
    obtain ⟨st, hg⟩ := st_at ok hd.1
    obtain ⟨t, hv, ht⟩ := hS.getS hg
    have hX : StX K H0 H x s := ⟨dx, sA, tA, cA, sk, tk, hS⟩
    have hl := st_len ok h24
    refine ⟨_, rfl, x, _, dx, _, _, rfl, hS.x, T.c_State, T.n_State_stands, rfl, _, rfl, dA, _, _, _, rfl, rfl, hdA', rfl, sA, .ref t, rfl, .inl ⟨sk, fN e, .inl hS.st, rfl, hv.symm⟩, t, _, rfl, ht, rfl, _, _, rfl, _, _, rfl, _, _, rfl, _, _, rfl, rfl, ?_⟩
    refine ⟨_, rfl, rfl, _, rfl, ?_⟩
    by_cases q : st.word = "home"
    · rw [q, decide_eq_true rfl]
      refine iteF ⟨_, rfl, _, rfl, rfl, _, rfl, ?_⟩
      by_cases q1 : st.place = st.own
      · rw [q1, decide_eq_true rfl]
        refine iteF ⟨_, rfl, _, rfl, dA, _, _, _, rfl, rfl, hdA', rfl, rfl, _, rfl, ?_⟩
        by_cases q2 : st.place = z
        · rw [← q1, q2, decide_eq_true rfl]
          have hk : doneP s (.lend e z) n m = (("station" : Str), s) := (withE_at hg).trans ((if_pos ⟨q, q1⟩).trans (if_pos q2))
          rw [hk] at k
          exact iteT (k _ hX)
        · rw [← q1, decide_eq_false (fun y => q2 (V.str.inj y))]
          have hk : doneP s (.lend e z) n m = (("" : Str), s.put e "home" z z 0) := (withE_at hg).trans ((if_pos ⟨q, q1⟩).trans (if_neg q2))
          rw [hk] at k
          refine iteF ⟨_, rfl, dA, _, _, _, rfl, rfl, hdA', rfl, _, rfl, dA, _, _, _, rfl, rfl, hdA', rfl, sz rfl, fun t1 ht1 => ?_⟩
          generalize hg1 : upd H t1 _ = H1
          obtain ⟨e1, h1, _⟩ := newF ht1 hg1
          have hS1 := hS.grow e1
          refine ⟨_, rfl, x, _, dx, _, _, rfl, hS1.x, T.c_State, T.n_State_stands, rfl, _, rfl, dA, _, _, _, rfl, rfl, SqT.ext hdA' e1, rfl, sA, _, rfl, DPut.k (k := fN e) hS1.st (by rw [hS.sr.length, sizeLine_eq]; omega), ?_⟩
          exact k _ ⟨dx, sA, tA, cA, _, tk, hS1.setS (st := ⟨"home", z, z, 0⟩) (SqT.of h1)⟩
      · rw [decide_eq_false (fun y => q1 (V.str.inj y))]
        have hk : doneP s (.lend e z) n m = (("engine" : Str), s) := (withE_at hg).trans (if_neg fun y => q1 y.2)
        rw [hk] at k
        exact iteT (k _ hX)
    · rw [decide_eq_false (fun y => q (V.str.inj y))]
      have hk : doneP s (.lend e z) n m = (("engine" : Str), s) := (withE_at hg).trans (if_neg fun y => q y.1)
      rw [hk] at k
      exact iteT (k _ hX)
abbrev N_do_there : List Str := ["state", "deed", "number", "at", "word", "place", "own", "call"]
theorem sc_do_there : FnScope N_do_there ["state", "deed", "number", "at"] (defScope s_do_there) := ⟨rfl, rfl, rfl, by decide +kernel, rfl, by decide +kernel, by decide +kernel⟩
theorem ok_do_there (T : Tx w K mg) (G_putk : MetPutK P w K mg base) : C8.Cal P w K mg base 2 "do_there" (sp_do K fun d => ∃ e, d = .there e) [] := by
  refine cal_mk T.F_do_there T.g_do_there sc_do_there (fun _ _ _ _ _ _ us hl => match us, hl with | [_, _, _, _], _ => rfl) (fun vs H Q E h => ?_) (fun cdv A outer s0 H vs Q E hr h => ?_)
  · obtain ⟨x, dA, n, m, _, _, _, _, _, _, rfl, _⟩ := h
    rfl
  · obtain ⟨x, dA, n, m, H0, s, d, g, es, j, rfl, ⟨e, rfl⟩, ⟨dx, sA, tA, cA, sk, tk, hS⟩, hdA, ok, hd, h24, hj, k⟩ := h
    refine ⟨_, (pss_cons (ps_asg (pe_dget (hu_of hr) (pe_fld (pv 0) rfl) (pe_ix ix_tup (pv 1) pe_int (fun _ _ => rfl)) (fun _ _ => rfl)) (pg_tup rfl (pgs_cons (pg_name (i := 4) sc_do_there.nd rfl (Or.inl rfl)) (pgs_cons (pg_name (i := 5) sc_do_there.nd rfl (Or.inl rfl)) (pgs_cons (pg_name (i := 6) sc_do_there.nd rfl (Or.inl rfl)) (pgs_cons (pg_name (i := 7) sc_do_there.nd rfl (Or.inl rfl)) pgs_nil))))))
    (pss_cons (ps_if (pt_cmpR op_ne (pv 4) pe_str (nomark _))
      (pss_one (ps_ret pe_str))
      pss_nil)
    (pss_one (ps_ret (pe_mtN G_putk hr (by decide) (pv 0) (pa_cons (pe_ix ix_tup (pv 1) pe_int (fun _ _ => rfl)) (pa_cons pe_str (pa_cons (pe_ix ix_tup (pe_dget (hu_of hr) (pe_fld (pv 0) rfl) (pv 7) (fun _ _ => rfl)) pe_int (fun _ _ => rfl)) pa_nil))) (pk_cons (pv 7) pk_nil)))))), ?_⟩
    have hdA' := SqT.ext hdA hS.ext
    obtain ⟨st, hg⟩ := st_at ok hd
    obtain ⟨t, hv, ht⟩ := hS.getS hg
    have hX : StX K H0 H x s := ⟨dx, sA, tA, cA, sk, tk, hS⟩
    have hl := st_len ok h24
    refine ⟨_, rfl, x, _, dx, _, _, rfl, hS.x, T.c_State, T.n_State_stands, rfl, _, rfl, dA, _, _, _, rfl, rfl, hdA', rfl, sA, .ref t, rfl, .inl ⟨sk, fN e, .inl hS.st, rfl, hv.symm⟩, t, _, rfl, ht, rfl, _, _, rfl, _, _, rfl, _, _, rfl, _, _, rfl, rfl, ?_⟩
    refine ⟨_, rfl, rfl, _, rfl, ?_⟩
    by_cases q : st.word = "sent"
    · rw [q, decide_eq_true rfl]
      have hs := ok.sent (e, st) (getA_mem hg) q
      obtain ⟨cd, hcd⟩ := Option.isSome_iff_exists.mp hs
      obtain ⟨t2, hv2, ht2⟩ := hS.getT hcd
      have hk : doneP s (.there e) n m = (("" : Str), s.put e "there" cd.place st.own st.call) := (withE_at hg).trans ((if_pos q).trans (by rw [show getA s.told st.call = some cd from hcd]))
      rw [hk] at k
      exact iteF ⟨_, rfl, x, dx, _, rfl, hS.x, rfl, _, rfl, dA, _, _, _, rfl, rfl, hdA', rfl, _, rfl, x, _, dx, _, _, rfl, hS.x, T.c_State, T.n_State_told, rfl, _, rfl, tA, .ref t2, rfl, .inl ⟨tk, fI st.call, .inl hS.td, rfl, hv2.symm⟩, t2, _, _, _, rfl, rfl, ht2, rfl, _, rfl, rfl, rfl, x, e, "there", cd.place, st.call, H0, s, st, rfl, hX, hl, hg, fun H' h => k _ h⟩
    · rw [decide_eq_false (fun y => q (V.str.inj y))]
      have hk : doneP s (.there e) n m = (("engine" : Str), s) := (withE_at hg).trans (if_neg q)
      rw [hk] at k
      exact iteT (k _ hX)
abbrev N_do_send : List Str := ["state", "deed", "number", "at", "word", "place", "own", "call"]
theorem sc_do_send : FnScope N_do_send ["state", "deed", "number", "at"] (defScope s_do_send) := ⟨rfl, rfl, rfl, by decide +kernel, rfl, by decide +kernel, by decide +kernel⟩
theorem ok_do_send (T : Tx w K mg) (G_is_open : C8.Met P w K mg base 1 (He.ga K "State") "is_open" (sp_is_open K) []) (G_putk : MetPutK P w K mg base) : C8.Cal P w K mg base 2 "do_send" (sp_do K fun d => ∃ e c, d = .send e c) [] := by
  refine cal_mk T.F_do_send T.g_do_send sc_do_send (fun _ _ _ _ _ _ us hl => match us, hl with | [_, _, _, _], _ => rfl) (fun vs H Q E h => ?_) (fun cdv A outer s0 H vs Q E hr h => ?_)
  · obtain ⟨x, dA, n, m, _, _, _, _, _, _, rfl, _⟩ := h
    rfl
  · obtain ⟨x, dA, n, m, H0, s, d, g, es, j, rfl, ⟨e, c, rfl⟩, ⟨dx, sA, tA, cA, sk, tk, hS⟩, hdA, ok, hd, h24, hj, k⟩ := h
    refine ⟨_, (pss_cons (ps_asg (pe_dget (hu_of hr) (pe_fld (pv 0) rfl) (pe_ix ix_tup (pv 1) pe_int (fun _ _ => rfl)) (fun _ _ => rfl)) (pg_tup rfl (pgs_cons (pg_name (i := 4) sc_do_send.nd rfl (Or.inl rfl)) (pgs_cons (pg_name (i := 5) sc_do_send.nd rfl (Or.inl rfl)) (pgs_cons (pg_name (i := 6) sc_do_send.nd rfl (Or.inl rfl)) (pgs_cons (pg_name (i := 7) sc_do_send.nd rfl (Or.inl rfl)) pgs_nil))))))
    (pss_cons (ps_if (pt_not (pt_val (C8.pe_mt G_is_open hr (by decide) (pv 0) (pa_cons (pe_ix ix_tup (pv 1) pe_int (fun _ _ => rfl)) pa_nil))))
      (pss_one (ps_ret pe_str))
      pss_nil)
    (pss_cons (ps_if (pt_cmpR op_notIn_seq (pv 4) (pe_tup (pa_cons pe_str (pa_cons pe_str pa_nil))) (by rfl))
      (pss_one (ps_ret pe_str))
      pss_nil)
    (pss_one (ps_ret (pe_mtN G_putk hr (by decide) (pv 0) (pa_cons (pe_ix ix_tup (pv 1) pe_int (fun _ _ => rfl)) (pa_cons pe_str (pa_cons (pv 5) pa_nil))) (pk_cons (pe_ix ix_tup (pv 1) pe_int (fun _ _ => rfl)) pk_nil))))))), ?_⟩
    have hdA' := SqT.ext hdA hS.ext
    obtain ⟨st, hg⟩ := st_at ok hd.1
    obtain ⟨t, hv, ht⟩ := hS.getS hg
    have hX : StX K H0 H x s := ⟨dx, sA, tA, cA, sk, tk, hS⟩
    have hl := st_len ok h24
    refine ⟨_, rfl, x, _, dx, _, _, rfl, hS.x, T.c_State, T.n_State_stands, rfl, _, rfl, dA, _, _, _, rfl, rfl, hdA', rfl, sA, .ref t, rfl, .inl ⟨sk, fN e, .inl hS.st, rfl, hv.symm⟩, t, _, rfl, ht, rfl, _, _, rfl, _, _, rfl, _, _, rfl, _, _, rfl, rfl, ?_⟩
    refine ⟨_, rfl, x, dx, _, rfl, hS.x, rfl, _, rfl, dA, _, _, _, rfl, rfl, hdA', rfl, x, c, s, dx, sA, tA, cA, tk, rfl, hS.x, .inl hS.td, hS.tr, _, rfl, ?_⟩
    cases ho : s.isOpen c with
    | false =>
      have hk : doneP s (.send e c) n m = (("call" : Str), s) := (withE_at hg).trans (if_neg (by rw [ho]; decide))
      rw [hk] at k
      exact iteT (k _ hX)
    | true =>
      refine iteF ⟨_, rfl, sz rfl, fun t1 ht1 => ?_⟩
      generalize hg1 : upd H t1 _ = H1
      obtain ⟨e1, h1, _⟩ := newF ht1 hg1
      have hS1 := hS.grow e1
      have hin : inV (V.str st.word) [V.str "home", V.str "back"] = decide (st.word ∈ (["home", "back"] : List Str)) := inV_str (xs := ["home", "back"])
      refine ⟨t1, _, rfl, .inr (SqT.of h1), rfl, rfl, !decide (st.word ∈ (["home", "back"] : List Str)), by rw [← hin]; rfl, ?_⟩
      by_cases q : st.word ∈ (["home", "back"] : List Str)
      · rw [decide_eq_true q]
        have hk : doneP s (.send e c) n m = (("" : Str), s.put e "sent" st.place st.own c) := (withE_at hg).trans ((if_pos ho).trans (if_pos (by simpa using q)))
        rw [hk] at k
        exact iteF ⟨_, rfl, x, dx, _, rfl, hS1.x, rfl, _, rfl, dA, _, _, _, rfl, rfl, SqT.ext hdA' e1, rfl, _, rfl, _, rfl, dA, _, _, _, rfl, rfl, SqT.ext hdA' e1, rfl, rfl, rfl, x, e, "sent", st.place, c, H0, s, st, rfl, ⟨dx, sA, tA, cA, sk, tk, hS1⟩, hl, hg, fun H' h => k _ h⟩
      · rw [decide_eq_false q]
        have hk : doneP s (.send e c) n m = (("engine" : Str), s) := (withE_at hg).trans ((if_pos ho).trans (if_neg (by simpa using q)))
        rw [hk] at k
        exact iteT (k _ ⟨dx, sA, tA, cA, sk, tk, hS1⟩)
end
end K36
/-! text KP6 -/
namespace K36
open PySem PySem.Spec PyProof.Rows L2 SX
/-- a thing is of a sort -/
inductive SortOk (g : Gd) (es : List Eng) : Str → V → Prop
  | call {c : Int} : 1 ≤ c → c ≤ 200 → SortOk g es "call" (.int c)
  | pumps {c : Int} : 1 ≤ c → c ≤ 20 → SortOk g es "pumps" (.int c)
  | road {r : Int} : 0 ≤ r → r < g.roads.length → SortOk g es "road" (.int r)
  | kind {x : Str} : x ∈ kinds → SortOk g es "kind" (.str x)
  | place {x : Str} : x ∈ g.names → SortOk g es "place" (.str x)
  | station {x : Str} : x ∈ g.stations → SortOk g es "station" (.str x)
  | engine {x : Str} : x ∈ es.map (·.1) → SortOk g es "engine" (.str x)
theorem paired_at2 {α β : Type} {F : α → β → Prop} : ∀ {l : List α} {m : List β}, Paired F l m → ∀ {i : Nat} {a : α} {b : β}, l[i]? = some a → m[i]? = some b → F a b
  | _, _, .nil, i, a, b, h, _ => by simp at h
  | _, _, .cons f r, 0, a, b, h, h' => by
    cases (Option.some.inj h); cases (Option.some.inj h'); exact f
  | _, _, .cons f r, i + 1, a, b, h, h' => paired_at2 r (by simpa using h) (by simpa using h')
def Deed.word : Deed → Str
  | .call _ _ => "call" | .again _ => "again" | .make _ _ => "make" | .stop _ => "stop" | .send _ _ => "send" | .there _ => "there" | .back _ => "back" | .home _ => "home" | .off _ => "off" | .on _ => "on" | .stand _ _ => "stand" | .lend _ _ => "lend" | .shut _ => "shut" | .clear _ => "clear" | .nothing => "nothing"
def Deed.sorts : Deed → List Str
  | .call _ _ => ["place", "kind"] | .again _ => ["call"] | .make _ _ => ["call", "pumps"] | .stop _ => ["call"] | .send _ _ => ["engine", "call"] | .there _ => ["engine"] | .back _ => ["engine"] | .home _ => ["engine"] | .off _ => ["engine"] | .on _ => ["engine"] | .stand _ _ => ["engine", "station"] | .lend _ _ => ["engine", "station"] | .shut _ => ["road"] | .clear _ => ["road"] | .nothing => []
def Deed.args : Deed → List V
  | .call p k => [.str p, .str k]
  | .again c => [.int c]
  | .make c p => [.int c, .int p]
  | .stop c => [.int c]
  | .send e c => [.str e, .int c]
  | .there e => [.str e]
  | .back e => [.str e]
  | .home e => [.str e]
  | .off e => [.str e]
  | .on e => [.str e]
  | .stand e s => [.str e, .str s]
  | .lend e s => [.str e, .str s]
  | .shut r => [.int r]
  | .clear r => [.int r]
  | .nothing => []
theorem deed_vs (d : Deed) : d.vs = .str d.word :: d.args := by cases d <;> rfl
theorem deed_sorts {g : Gd} {es : List Eng} {d : Deed} (h : DOk g es d) : Paired (SortOk g es) d.sorts d.args := by
  cases d with
  | call p k => exact .cons (.place h.1) (.cons (.kind h.2) .nil)
  | again c => exact .cons (.call h.1 h.2) .nil
  | make c p => exact .cons (.call h.1.1 h.1.2) (.cons (.pumps h.2.1 h.2.2) .nil)
  | stop c => exact .cons (.call h.1 h.2) .nil
  | send e c => exact .cons (.engine h.1) (.cons (.call h.2.1 h.2.2) .nil)
  | there e => exact .cons (.engine h) .nil
  | back e => exact .cons (.engine h) .nil
  | home e => exact .cons (.engine h) .nil
  | off e => exact .cons (.engine h) .nil
  | on e => exact .cons (.engine h) .nil
  | stand e s => exact .cons (.engine h.1) (.cons (.station h.2) .nil)
  | lend e s => exact .cons (.engine h.1) (.cons (.station h.2) .nil)
  | shut r => exact .cons (.road h.1 h.2) .nil
  | clear r => exact .cons (.road h.1 h.2) .nil
  | nothing => exact .nil
theorem word_in (d : Deed) : d.word ∈ formsK := by cases d <;> simp [Deed.word, formsK]
theorem form_of {K : PySem.W.Frag} (Y : Ty K) (d : Deed) : formOk K (He.ga K "FORMS") d.word d.sorts = true := by
  cases d with
  | call _ _ => exact Y.f_call
  | again _ => exact Y.f_again
  | make _ _ => exact Y.f_make
  | stop _ => exact Y.f_stop
  | send _ _ => exact Y.f_send
  | there _ => exact Y.f_there
  | back _ => exact Y.f_back
  | home _ => exact Y.f_home
  | off _ => exact Y.f_off
  | on _ => exact Y.f_on
  | stand _ _ => exact Y.f_stand
  | lend _ _ => exact Y.f_lend
  | shut _ => exact Y.f_shut
  | clear _ => exact Y.f_clear
  | nothing => exact Y.f_nothing
section
variable {P : Program} {w : World} {K : PySem.W.Frag} {mg : Str → Option Value} {base : Heap}
abbrev N_is_sort : List Str := ["ground", "engines", "sort", "thing", "known", "name", "risk", "engine"]
theorem sc_is_sort : FnScope N_is_sort ["ground", "engines", "sort", "thing"] (defScope s_is_sort) := ⟨rfl, rfl, rfl, by decide +kernel, rfl, by decide +kernel, by decide +kernel⟩
def sp_is_sort (K : PySem.W.Frag) : Sp := fun vs H Q _ => ∃ (go D : Addr) (A : Adr) (g : Gd) (es : List Eng) (so : Str) (v : V), vs = [.ref go, .ref A.E, .str so, v] ∧ GObj K H go A.P A.R A.S D ∧ GAt K H A g ∧ GOk g ∧ EAt K H A es ∧ EOk g.stations es ∧ SortOk g es so v ∧ ∀ H', Ext H H' → Q (.bl true) H'
theorem ok_is_sort (T : Tx w K mg) (G_is_whole : C8.Cal P w K mg base 1 "is_whole" sp_is_whole []) (G_is_kind : C8.Cal P w K mg base 2 "is_kind" sp_is_kind []) (G_is_one_of : C8.Cal P w K mg base 1 "is_one_of" (sp_is_one_of K) []) : C8.Cal P w K mg base 3 "is_sort" (sp_is_sort K) [] := by
  refine cal_mk T.F_is_sort T.g_is_sort sc_is_sort (fun _ _ _ _ _ _ us hl => match us, hl with | [_, _, _, _], _ => rfl) (fun vs H Q E h => ?_) (fun cdv A outer s H vs Q E hr h => ?_)
  · obtain ⟨go, D, A, g, es, so, v, rfl, _⟩ := h
    rfl
  · obtain ⟨go, D, A1, g, es, so, v, rfl, ⟨dx, hg⟩, ga, gok, ea, eok, hs, k⟩ := h
    refine ⟨_, (pss_cons (ps_if (pt_cmpR op_eq (pv 2) pe_str (nomark _))
      (pss_one (ps_ret (C8.pe_c G_is_whole hr (by decide) rfl (pa_cons (pv 3) (pa_cons pe_int (pa_cons (C8.pe_gc rfl T.k_MOST_CALLS) pa_nil))))))
      pss_nil)
    (pss_cons (ps_if (pt_cmpR op_eq (pv 2) pe_str (nomark _))
      (pss_one (ps_ret (C8.pe_c G_is_whole hr (by decide) rfl (pa_cons (pv 3) (pa_cons pe_int (pa_cons (C8.pe_gc rfl T.k_MOST_PUMPS) pa_nil))))))
      pss_nil)
    (pss_cons (ps_if (pt_cmpR op_eq (pv 2) pe_str (nomark _))
      (pss_one (ps_ret (C8.pe_c G_is_whole hr (by decide) rfl (pa_cons (pv 3) (pa_cons pe_int (pa_cons (pe_op op_sub (pe_callB call_len_seq (by rfl) T.b_len (by decide +kernel) (pa_cons (pe_fld (pv 0) rfl) pa_nil)) pe_int) pa_nil))))))
      pss_nil)
    (pss_cons (ps_if (pt_cmpR op_eq (pv 2) pe_str (nomark _))
      (pss_one (ps_ret (C8.pe_c G_is_kind hr (by decide) rfl (pa_cons (pv 3) pa_nil))))
      pss_nil)
    (pss_cons (ps_set (i := 4) sc_is_sort.nd rfl (Or.inl rfl) (pe_disp (pps_cons pe_str (pe_lc (own := [("name", 5), ("risk", 6)]) (g := (gTup _ 2 (gCons (gName 5) (gCons (gName 6) gNil)))) (tt := tYes) rfl sc_is_sort.nd (pi_tup (pe_fld (pv 0) rfl)) (blkOk_by (N := N_is_sort) (sc := defScope s_is_sort) (by decide +kernel)) (fun _ _ _ _ _ => (pg_tup rfl (pgs_cons (pg_name (i := 5) sc_is_sort.nd rfl (Or.inl rfl)) (pgs_cons (pg_name (i := 6) sc_is_sort.nd rfl (Or.inl rfl)) pgs_nil)))) (fun _ _ _ _ _ => pts_nil) (fun _ _ _ _ _ => (pv 5))) (pps_cons pe_str (pe_callTy call_list_of (by rfl) T.b_list (by decide +kernel) (pa_cons (pe_fld (pv 0) rfl) pa_nil)) pps_nil)) (by rfl) (by rfl) (fun z => by cases z) (by decide)))
    (pss_one (ps_ret (C8.pe_c G_is_one_of hr (by decide) rfl (pa_cons (pv 3) (pa_cons (pe_dget2 (hu_of hr) (pv 4) (pv 2) (pe_lc (own := [("engine", 7)]) (g := (gName 7)) (tt := tYes) rfl sc_is_sort.nd (pi_tup (pv 1)) (blkOk_by (N := N_is_sort) (sc := defScope s_is_sort) (by decide +kernel)) (fun _ _ _ _ _ => (pg_name (i := 7) sc_is_sort.nd rfl (Or.inl rfl))) (fun _ _ _ _ _ => pts_nil) (fun _ _ _ _ _ => (pe_ix (ix_tupK K) (pv 7) pe_int (fun _ _ => rfl)))) ⟨rfl, rfl, rfl, rfl⟩) pa_nil)))))))))), ?_⟩
    have n0 : ∀ {a b : Str} {X Y : Prop}, decide (a = b) = false → Y → (if decide (V.str a = V.str b) = true then X else Y) := fun {a b X Y} h y => by
      have : ¬ V.str a = V.str b := fun z => by rw [V.str.inj z, decide_eq_true rfl] at h; cases h
      rw [if_neg (by rw [decide_eq_false this]; decide)]; exact y
    have n1 : ∀ {a : Str} {X Y : Prop}, X → (if decide (V.str a = V.str a) = true then X else Y) := fun {a X Y} x => by rw [if_pos (decide_eq_true rfl)]; exact x
    have hcase : (∃ x ks, v = .str x ∧ decide (so = "call") = false ∧ decide (so = "pumps") = false ∧ decide (so = "road") = false ∧ decide (so = "kind") = false ∧ x ∈ ks ∧
        ((so = "place" ∧ ks = g.names) ∨ (so = "station" ∧ ks = g.stations) ∨ (so = "engine" ∧ ks = es.map (·.1)))) ∨ so = "call" ∨ so = "pumps" ∨ so = "road" ∨ so = "kind" := by
      cases hs with
      | call _ _ => exact .inr (.inl rfl)
      | pumps _ _ => exact .inr (.inr (.inl rfl))
      | road _ _ => exact .inr (.inr (.inr (.inl rfl)))
      | kind _ => exact .inr (.inr (.inr (.inr rfl)))
      | @place x h1 => exact .inl ⟨x, _, rfl, by decide +kernel, by decide +kernel, by decide +kernel, by decide +kernel, h1, .inl ⟨rfl, rfl⟩⟩
      | @station x h1 => exact .inl ⟨x, _, rfl, by decide +kernel, by decide +kernel, by decide +kernel, by decide +kernel, h1, .inr (.inl ⟨rfl, rfl⟩)⟩
      | @engine x h1 => exact .inl ⟨x, _, rfl, by decide +kernel, by decide +kernel, by decide +kernel, by decide +kernel, h1, .inr (.inr ⟨rfl, rfl⟩)⟩
    rcases hcase with ⟨x, ks, rfl, f1, f2, f3, f4, hx, hso⟩ | hearly
    · clear hs
      refine ⟨_, rfl, rfl, _, rfl, n0 f1 ⟨_, rfl, rfl, _, rfl, n0 f2 ⟨_, rfl, rfl, _, rfl, n0 f3 ⟨_, rfl, rfl, _, rfl, n0 f4 ?_⟩⟩⟩⟩
      have le : A1.tE.length = es.length := by have := ea.es.length; rwa [List.length_map] at this
      have lp : A1.tP.length = g.places.length := by have := ga.ps.length; rwa [List.length_map] at this
      have e24 := eok.e24
      have p40 := gok.p40
      refine fun D0 hD0 => ?_
      generalize hg0 : upd H D0 _ = H0
      obtain ⟨e0, h0, _⟩ := newF hD0 hg0
      refine ⟨_, rfl, go, _, dx, _, _, rfl, e0 _ _ hg, T.c_Ground, T.n_Ground_places, rfl, A1.P, rfl, ⟨_, SqT.ext ga.p e0⟩, fun L1 hL1 => ?_⟩
      refine lc_it walk_tup (fun i H' => Ext H0 H' ∧ H' L1 = some (.lst (((g.places.take i).map (·.1)).map V.str))) ⟨Ext.upd hL1, upd_same⟩ (fun i H' _ ⟨e, _⟩ => SqT.ext ga.p (e0.trans e)) ?_ ?_
      · rintro i y H1 H2 hi ⟨e, hDD⟩ ⟨rfl, hy⟩
        obtain ⟨t, ht, rfl⟩ := map_at hy
        obtain ⟨row, hrow, hT⟩ := Paired.at' ga.ps ht
        obtain ⟨z, hz, rfl⟩ := map_some hrow
        have hi' := (List.getElem?_eq_some_iff.mp hz).1
        refine ⟨t, _, rfl, SqT.ext hT (e0.trans e), rfl, _, _, rfl, _, _, rfl, rfl, rfl, ?_⟩
        refine ⟨_, rfl, _, hDD, szl (by rw [List.length_map, List.length_map, List.length_take]; omega), updE e hL1, ?_⟩
        rw [upd_same, take_map_snoc hz, List.map_append]; rfl
      · rintro H1 ⟨e1, hL1'⟩
        rw [List.length_map, lp, List.take_length] at hL1'
        have E1 := e0.trans e1
        refine ⟨_, rfl, go, _, dx, _, _, rfl, E1 _ _ hg, T.c_Ground, T.n_Ground_stations, rfl, A1.S, _, rfl, .inr (SqT.ext ga.s E1), fun L2 hL2 => ?_⟩
        generalize hg2 : upd H1 L2 _ = H2
        obtain ⟨e2, h2, _⟩ := newF hL2 hg2
        have E2 := E1.trans e2
        refine ⟨e2 _ _ (e1 _ _ h0), [(.inr "place", .ref L1), (.inr "station", .ref L2)], rfl, (Nat.le_of_ble_eq_true rfl), ?_⟩
        generalize hg3 : upd H2 D0 _ = H3
        have nL1 : L1 ≠ D0 := (ne_of_none h0 hL1).symm
        have nL2 : L2 ≠ D0 := (ne_of_none (e1 _ _ h0) hL2).symm
        have h3 : H3 D0 = some (.dK (mergeK [] [((.inr "place" : Key), V.ref L1), (.inr "station", .ref L2)])) := by rw [← hg3]; exact upd_same
        have hL13 : H3 L1 = H2 L1 := by rw [← hg3]; exact upd_ne nL1
        have hL23 : H3 L2 = H2 L2 := by rw [← hg3]; exact upd_ne nL2
        have E3 : Ext H H3 := by rw [← hg3]; exact updE E2 hD0
        refine ⟨_, rfl, _, rfl, D0, rfl, .inl ⟨_, .inl h3⟩, _, rfl, _, rfl, A1.E, rfl, ⟨_, SqT.ext ea.e E3⟩, fun L3 hL3 => ?_⟩
        refine lc_it walk_tup (fun i H' => Ext H3 H' ∧ H' L3 = some (.lst (((es.take i).map (·.1)).map V.str))) ⟨Ext.upd hL3, upd_same⟩ (fun i H' _ ⟨e, _⟩ => SqT.ext ea.e (E3.trans e)) ?_ ?_
        · rintro i y H4 H5 hi ⟨e, hDD⟩ ⟨rfl, hy⟩
          obtain ⟨t, ht, rfl⟩ := map_at hy
          obtain ⟨row, hrow, hT⟩ := Paired.at' ea.es ht
          obtain ⟨z, hz, rfl⟩ := map_some hrow
          have hi' := (List.getElem?_eq_some_iff.mp hz).1
          refine ⟨rfl, _, rfl, t, _, _, _, rfl, rfl, SqT.ext hT (E3.trans e), rfl, _, hDD, szl (by rw [List.length_map, List.length_map, List.length_take]; omega), updE e hL3, ?_⟩
          rw [upd_same, take_map_snoc hz, List.map_append]; rfl
        · rintro H4 ⟨e4, hL3'⟩
          rw [List.length_map, le, List.take_length] at hL3'
          refine ⟨_, DGet.k (k := .inr so) (e4 _ _ h3), x, ?_⟩
          have fin : ∀ q : Addr, H4 q = some (.lst (ks.map V.str)) → ∃ (p : Addr) (ys : List Str), [V.str x, V.ref q] = [V.str x, V.ref p] ∧ (SqL K H4 p (ys.map V.str) ∨ SqT K H4 p (ys.map V.str)) ∧ Q (.bl (decide (x ∈ ys))) H4 := fun q hq => ⟨q, ks, rfl, .inl (SqL.of hq), by rw [decide_eq_true hx]; exact k _ (E3.trans e4)⟩
          rcases hso with ⟨rfl, rfl⟩ | ⟨rfl, rfl⟩ | ⟨rfl, rfl⟩
          · exact fin L1 (e4 _ _ (hL13.trans (e2 _ _ hL1')))
          · exact fin L2 (e4 _ _ (hL23.trans h2))
          · exact fin L3 hL3'
    · cases hs with
      | @call c h1 h2 =>
        refine ⟨_, rfl, rfl, _, rfl, n1 ⟨_, rfl, c, 1, 200, rfl, ?_⟩⟩
        rw [decide_eq_true ⟨h1, h2⟩]
        exact k _ fun _ _ z => z
      | @pumps c h1 h2 =>
        refine ⟨_, rfl, rfl, _, rfl, n0 (by decide +kernel) ⟨_, rfl, rfl, _, rfl, n1 ⟨_, rfl, c, 1, 20, rfl, ?_⟩⟩⟩
        rw [decide_eq_true ⟨h1, h2⟩]
        exact k _ fun _ _ z => z
      | @road r h1 h2 =>
        have lr : A1.tR.length = g.roads.length := by have := ga.rs.length; rwa [List.length_map] at this
        refine ⟨_, rfl, rfl, _, rfl, n0 (by decide +kernel) ⟨_, rfl, rfl, _, rfl, n0 (by decide +kernel) ⟨_, rfl, rfl, _, rfl, n1 ⟨_, rfl, _, rfl, go, _, dx, _, _, rfl, hg, T.c_Ground, T.n_Ground_roads, rfl, A1.R, _, rfl, .inr ga.r, _, _, rfl, rfl, r, 0, _, rfl, ?_⟩⟩⟩⟩
        rw [decide_eq_true ⟨h1, by rw [List.length_map, lr]; omega⟩]
        exact k _ fun _ _ z => z
      | @kind x h1 =>
        refine ⟨_, rfl, rfl, _, rfl, n0 (by decide +kernel) ⟨_, rfl, rfl, _, rfl, n0 (by decide +kernel) ⟨_, rfl, rfl, _, rfl, n0 (by decide +kernel) ⟨_, rfl, rfl, _, rfl, n1 ⟨_, rfl, x, rfl, h1, fun H1 e1 => k _ e1⟩⟩⟩⟩⟩
      | @place x h1 => exact absurd hearly (by decide +kernel)
      | @station x h1 => exact absurd hearly (by decide +kernel)
      | @engine x h1 => exact absurd hearly (by decide +kernel)
abbrev N_fault : List Str := ["ground", "engines", "thing", "sorts", "at", "sort"]
theorem sc_fault : FnScope N_fault ["ground", "engines", "thing"] (defScope s_fault) := ⟨rfl, rfl, rfl, by decide +kernel, rfl, by decide +kernel, by decide +kernel⟩
def sp_fault (K : PySem.W.Frag) : Sp := fun vs H Q _ => ∃ (go D dA : Addr) (A : Adr) (g : Gd) (es : List Eng) (d : Deed), vs = [.ref go, .ref A.E, .ref dA] ∧ GObj K H go A.P A.R A.S D ∧ GAt K H A g ∧ GOk g ∧ EAt K H A es ∧ EOk g.stations es ∧ DOk g es d ∧ SqT K H dA d.vs ∧ ∀ H', Ext H H' → Q (.int (-1)) H'
theorem ok_fault (T : Tx w K mg) (Y : Ty K) (G_is_one_of : C8.Cal P w K mg base 1 "is_one_of" (sp_is_one_of K) []) (G_is_sort : C8.Cal P w K mg base 3 "is_sort" (sp_is_sort K) []) : C8.Cal P w K mg base 4 "fault" (sp_fault K) [] := by
  refine cal_mk T.F_fault T.g_fault sc_fault (fun _ _ _ _ _ _ us hl => match us, hl with | [_, _, _], _ => rfl) (fun vs H Q E h => ?_) (fun cdv A outer s H vs Q E hr h => ?_)
  · obtain ⟨go, D, dA, A, g, es, d, rfl, _⟩ := h
    rfl
  · obtain ⟨go, D, dA, A1, g, es, d, rfl, ⟨dx, hg⟩, ga, gok, ea, eok, hd, hdA, k⟩ := h
    refine ⟨_, (pss_cons (ps_if (PW.pt (pw_or (pt_not (pt_val (pe_callB call_isi (by rfl) T.b_isinstance (by decide +kernel) (pa_cons (pv 2) (pa_cons (pe_bltn (v := .ty "tuple") (by rfl) T.b_tuple (by decide +kernel) rfl) pa_nil))))) (pw_or (pt_cmpR op_eq (pe_callB call_len_seq (by rfl) T.b_len (by decide +kernel) (pa_cons (pv 2) pa_nil)) pe_int (nomark _)) (pw_or1 (pt_not (pt_val (C8.pe_c G_is_one_of hr (by decide) rfl (pa_cons (pe_ix ix_tup (pv 2) pe_int (fun _ _ => rfl)) (pa_cons (pe_callTy (call_listK rfl) (by rfl) T.b_list (by decide +kernel) (pa_cons (C8.pe_gc (v := .ref (He.ga K "FORMS")) rfl ⟨_, T.g_FORMS, rfl⟩) pa_nil)) pa_nil)))))))))
      (pss_one (ps_ret pe_int))
      pss_nil)
    (pss_cons (ps_set (i := 3) sc_fault.nd rfl (Or.inl rfl) (pe_ix ix_kdict (C8.pe_gc (v := .ref (He.ga K "FORMS")) rfl ⟨_, T.g_FORMS, rfl⟩) (pe_ix ix_tup (pv 2) pe_int (fun _ _ => rfl)) (fun _ _ => rfl)))
    (pss_cons (ps_if (pt_cmpR op_ne (pe_callB call_len_seq (by rfl) T.b_len (by decide +kernel) (pa_cons (pv 2) pa_nil)) (pe_op op_add pe_int (pe_callB call_len_seq (by rfl) T.b_len (by decide +kernel) (pa_cons (pv 3) pa_nil))) (nomark _))
      (pss_one (ps_ret pe_int))
      pss_nil)
    (pss_cons (ps_for PassesOwn.never rfl (pi_enumS (by rfl) T.b_enumerate (pa_cons (pv 3) pa_nil) (pk_cons pe_int pk_nil)) (pg_tup rfl (pgs_cons (pg_name (i := 4) sc_fault.nd rfl (Or.inl rfl)) (pgs_cons (pg_name (i := 5) sc_fault.nd rfl (Or.inl rfl)) pgs_nil)))
      (pss_one (ps_if (pt_not (pt_val (C8.pe_c G_is_sort hr (by decide) rfl (pa_cons (pv 0) (pa_cons (pv 1) (pa_cons (pv 5) (pa_cons (pe_ix ix_tup (pv 2) (pv 4) (fun _ _ => rfl)) pa_nil)))))))
          (pss_one (ps_ret (pv 4)))
          pss_nil)))
    (pss_one (ps_ret (pe_un un_neg pe_int))))))), ?_⟩
    have hdA0 : SqT K H dA (.str d.word :: d.args) := by rw [← deed_vs]; exact hdA
    obtain ⟨fs, nf, DF⟩ := T.t_FORMS
    have hlen : (V.str d.word :: d.args).length = d.args.length + 1 := rfl
    refine ⟨_, rfl, _, _, _, _, _, rfl, .ty _, tyTup hdA0, k_tt, _, rfl, ?_⟩
    refine iteF ⟨_, rfl, dA, _, rfl, .inr hdA0, rfl, _, rfl, ?_⟩
    rw [decide_eq_false (fun z => by have := V.int.inj z; rw [hlen] at this; omega)]
    refine iteF ⟨_, rfl, dA, _, _, _, rfl, rfl, hdA0, at_of (j := 0) rfl rfl, _, formsK, fs, nf, rfl, DF, of_decide_eq_true Y.forms, by decide, fun L hL => ?_⟩
    refine ⟨_, _, _, rfl, .inl (SqL.of upd_same), true, by rw [decide_eq_true (word_in d)], iteF ?_⟩
    generalize hg1 : upd H L _ = H1
    obtain ⟨e1, h1, _⟩ := newF hL hg1
    have hdA1 := SqT.ext hdA0 e1
    obtain ⟨aF, kF, tF⟩ := formOk_sq DF (form_of Y d)
    refine ⟨_, rfl, dA, _, _, _, rfl, rfl, hdA1, at_of (j := 0) rfl rfl, _, _, _, rfl, rfl, kF, ?_⟩
    have hp := deed_sorts hd
    have hpl := hp.length
    refine ⟨_, rfl, dA, _, rfl, .inr hdA1, _, rfl, aF, _, rfl, .inr (tF H1), _, _, rfl, rfl, ?_⟩
    refine ⟨rfl, _, rfl, ?_⟩
    rw [decide_eq_true (show V.int (((V.str d.word :: d.args).length : Nat) : Int) = V.int (1 + ((d.sorts.map V.str).length : Nat)) by rw [hlen, List.length_map, ← hpl]; congr 1; omega)]
    refine iteF ?_
    refine ⟨_, rfl, aF, _, rfl, rfl, tF H1, for_it walk_enumT (fun i σ' H' => ∃ v4 v5 : Option V, σ' = [some (.ref go), some (.ref A1.E), some (.ref dA), some (.ref aF), v4, v5] ∧ Ext H1 H')
      ⟨_, _, rfl, fun _ _ z => z⟩ (fun i σ' H' _ ⟨_, _, _, e⟩ => tF H') ?_ ?_⟩
    · rintro i x σ' H2 H3 hi ⟨v4, v5, rfl, e⟩ ⟨T1, a1, b1, rfl, hT1, rfl, ha, hb⟩
      obtain ⟨so, hso, rfl⟩ := map_some hb
      cases ha
      have e2 : Ext H1 (upd H2 T1 (.tup [.int (1 + (i : Nat)), .str so])) := e.trans (Ext.upd hT1)
      refine ⟨T1, _, rfl, SqT.of upd_same, rfl, _, _, rfl, _, _, rfl, rfl, ?_⟩
      generalize upd H2 T1 (.tup [.int (1 + (i : Nat)), .str so]) = H3 at e2 ⊢
      have hi' : i < d.args.length := by rw [← hpl]; exact (List.getElem?_eq_some_iff.mp hso).1
      have hai : d.args[i]? = some d.args[i] := List.getElem?_eq_getElem hi'
      have hS := paired_at2 hp hso hai
      have hat : atI (V.str d.word :: d.args) (1 + (i : Nat)) = some d.args[i] := by
        rw [show (1 : Int) + (i : Nat) = ((i + 1 : Nat) : Int) by omega]
        exact atI_nat (by rw [List.getElem?_cons_succ]; exact hai)
      generalize d.args[i] = vi at hS hat
      refine ⟨_, rfl, _, rfl, _, rfl, _, rfl, _, rfl, dA, _, _, _, rfl, rfl, SqT.ext hdA1 e2, hat, go, D, A1, g, es, so, vi, rfl, ⟨dx, e2 _ _ (e1 _ _ hg)⟩, ga.tm (tmE (e1.trans e2)), gok, ea.tm (tmE (e1.trans e2)), eok, hS, fun H4 e4 => ⟨true, rfl, iteF ⟨_, _, rfl, e2.trans e4⟩⟩⟩
    · rintro σ' H2 ⟨v4, v5, rfl, e⟩
      exact ⟨1, rfl, k _ (e1.trans e)⟩
end
end K36
/-! text KStop -/
/-! a call is called off: the engines under it, one by one -/
namespace K36
open PySem L2
def backQ (q : Str × Stand) : Str × Stand := (q.1, ⟨"back", q.2.place, q.2.own, 0⟩)
def stopTo (ns : List Str) (q : Str × Stand) : Str × Stand := if q.1 ∈ ns then backQ q else q
theorem key_one {l : List (Str × Stand)} (nd : (l.map (·.1)).Nodup) {k : Str} {v : Stand} (h : getA l k = some v) {q : Str × Stand} (hq : q ∈ l) (e : q.1 = k) : q.2 = v := by
  induction l with
  | nil => simp at hq
  | cons p r ih =>
    rw [List.map_cons, List.nodup_cons] at nd
    by_cases c : p.1 = k
    · rw [getA_pos c] at h
      cases h
      rcases List.mem_cons.mp hq with z | z
      · rw [z]
      · exact absurd (by rw [c, ← e]; exact List.mem_map_of_mem z) nd.1
    · rw [getA_neg c] at h
      rcases List.mem_cons.mp hq with z | z
      · rw [z] at e; exact absurd e c
      · exact ih nd.2 h z
theorem getA_map {f : Str × Stand → Str × Stand} (hf : ∀ q, (f q).1 = q.1) {l : List (Str × Stand)} {k : Str} {v : Stand} (h : getA l k = some v) (hk : ∀ q : Str × Stand, q.1 = k → f q = q) : getA (l.map f) k = some v := by
  induction l with
  | nil => cases h
  | cons p r ih =>
    rw [List.map_cons]
    by_cases c : p.1 = k
    · rw [getA_pos c] at h
      rw [getA_pos ((hf p).trans c), hk p c]; exact h
    · rw [getA_neg c] at h
      rw [getA_neg (fun z => c ((hf p).symm.trans z))]
      exact ih h
theorem stopTo_fst (ns : List Str) (q : Str × Stand) : (stopTo ns q).1 = q.1 := by unfold stopTo; split <;> rfl
theorem stop_get {l : List (Str × Stand)} {ns : List Str} {k : Str} {v : Stand} (h : getA l k = some v) (hk : k ∉ ns) : getA (l.map (stopTo ns)) k = some v :=
  getA_map (stopTo_fst ns) h fun q e => if_neg (by rw [e]; exact hk)
theorem stop_step {l : List (Str × Stand)} (nd : (l.map (·.1)).Nodup) {ns : List Str} {k : Str} {v : Stand} (h : getA l k = some v) (hk : k ∉ ns) :
    putA (l.map (stopTo ns)) k ⟨"back", v.place, v.own, 0⟩ = l.map (stopTo (ns ++ [k])) := by
  unfold putA
  have hany : ((l.map (stopTo ns)).any fun q => decide (q.1 = k)) = true := by
    have := getA_mem (stop_get h hk)
    exact List.any_eq_true.mpr ⟨_, this, decide_eq_true rfl⟩
  rw [if_pos hany, List.map_map]
  refine List.map_congr_left fun q hq => ?_
  show (if (stopTo ns q).1 = k then ((stopTo ns q).1, (⟨"back", v.place, v.own, 0⟩ : Stand)) else stopTo ns q) = stopTo (ns ++ [k]) q
  rw [stopTo_fst]
  by_cases e : q.1 = k
  · rw [if_pos e]
    have hv := key_one nd h hq e
    unfold stopTo
    rw [if_pos (List.mem_append_right _ (by rw [e]; exact List.mem_singleton.mpr rfl))]
    unfold backQ
    rw [hv]
  · rw [if_neg e]
    unfold stopTo
    by_cases m : q.1 ∈ ns
    · rw [if_pos m, if_pos (List.mem_append_left _ m)]
    · rw [if_neg m, if_neg]
      intro z
      rcases List.mem_append.mp z with y | y
      · exact m y
      · exact e (List.mem_singleton.mp y)
theorem stop_all {l : List (Str × Stand)} (nd : (l.map (·.1)).Nodup) {c : Int} {ns : List Str} (hp : ns.Perm ((l.filter fun q => decide (q.2.call = c)).map (·.1))) : l.map (stopTo ns) = l.map (stopS c) := by
  refine List.map_congr_left fun q hq => ?_
  unfold stopTo stopS
  have key : q.1 ∈ ns ↔ q.2.call = c := by
    rw [hp.mem_iff, List.mem_map]
    constructor
    · rintro ⟨p, hp', e⟩
      obtain ⟨h1, h2⟩ := List.mem_filter.mp hp'
      have : p = q := by
        obtain ⟨i, hi⟩ := List.mem_iff_getElem?.mp h1
        obtain ⟨j, hj⟩ := List.mem_iff_getElem?.mp hq
        have li := (List.getElem?_eq_some_iff.mp hi).1
        have e2 := (List.getElem?_inj (i := i) (j := j) (by rw [List.length_map]; exact li) nd).mp (by rw [List.getElem?_map, List.getElem?_map, hi, hj]; exact congrArg some e)
        rw [e2, hj] at hi
        exact (Option.some.inj hi).symm
      rw [← this]
      exact of_decide_eq_true h2
    · intro h
      exact ⟨q, List.mem_filter.mpr ⟨hq, decide_eq_true h⟩, rfl⟩
  by_cases e : q.2.call = c
  · rw [if_pos (key.mpr e), if_pos e]; rfl
  · rw [if_neg (fun z => e (key.mp z)), if_neg e]
theorem under_nd {l : List (Str × Stand)} (nd : (l.map (·.1)).Nodup) {c : Int} {ns : List Str} (hp : ns.Perm ((l.filter fun q => decide (q.2.call = c)).map (·.1))) : ns.Nodup :=
  hp.nodup_iff.mpr (nd.sublist (List.Sublist.map _ List.filter_sublist))
theorem under_in {l : List (Str × Stand)} {c : Int} {ns : List Str} (hp : ns.Perm ((l.filter fun q => decide (q.2.call = c)).map (·.1))) {k : Str} (hk : k ∈ ns) : ∃ v, getA l k = some v := by
  rw [hp.mem_iff] at hk
  obtain ⟨q, hq, rfl⟩ := List.mem_map.mp hk
  exact getA_in (List.mem_map_of_mem (List.mem_filter.mp hq).1)
theorem not_in_take {α : Type} {xs : List α} (h : xs.Nodup) {i : Nat} {x : α} (hx : xs[i]? = some x) : x ∉ xs.take i := fun m => by
  obtain ⟨j, hj⟩ := List.mem_iff_getElem?.mp m
  rw [List.getElem?_take] at hj
  split at hj
  · rename_i c
    have hlt := (List.getElem?_eq_some_iff.mp hx).1
    have := (List.getElem?_inj (i := j) (j := i) (by omega) h).mp (by rw [hj, hx])
    omega
  · cases hj
end K36
/-! text KS4 -/
namespace K36
open PySem PySem.Spec PyProof.Rows L2 SX
/-- a list is counted to what stays -/
theorem StAt.widen {K : PySem.W.Frag} {H0 H : Hp} {x dx sA tA cA l : Addr} {sk tk : List (Key × V)} {s : RS} {xs : List V} (h : StAt K H0 H x dx sA tA cA sk tk s) (hl : H l = some (.lst xs)) (nc : cA ≠ l) : StAt K (upd H0 l (.lst xs)) H x dx sA tA cA sk tk s := by
  have nx : x ≠ l := fun z => by have := h.x; rw [z, hl] at this; cases this
  have ns : sA ≠ l := fun z => by have := h.st; rw [z, hl] at this; cases this
  have nt : tA ≠ l := fun z => by have := h.td; rw [z, hl] at this; cases this
  refine ⟨fun a o ha => ?_, (upd_ne nx).trans h.x0, (upd_ne ns).trans h.s0, (upd_ne nt).trans h.t0, (upd_ne nc).trans h.c0, h.x, h.st, h.td, h.cl, h.ne, h.sr, h.tr⟩
  by_cases z : a = l
  · rw [z, upd_same] at ha; cases ha; rw [z]; exact hl
  · rw [upd_ne z] at ha; exact h.ext a o ha
theorem StAt.narrow {K : PySem.W.Frag} {H0 H : Hp} {x dx sA tA cA l : Addr} {sk tk : List (Key × V)} {s : RS} {u : HO} (h : StAt K (upd H0 l u) H x dx sA tA cA sk tk s) (hl : H0 l = none) : StAt K H0 H x dx sA tA cA sk tk s := by
  have key : ∀ {a : Addr}, upd H0 l u a = none → H0 a = none := fun {a} q => by
    by_cases z : a = l
    · rw [z]; exact hl
    · rwa [upd_ne z] at q
  exact ⟨fun a o ha => h.ext a o (by rw [upd_ne (fun z => by rw [z, hl] at ha; cases ha)]; exact ha), key h.x0, key h.s0, key h.t0, key h.c0, h.x, h.st, h.td, h.cl, h.ne, h.sr, h.tr⟩
section
variable {P : Program} {w : World} {K : PySem.W.Frag} {mg : Str → Option Value} {base : Heap}
abbrev N_do_off : List Str := ["state", "deed", "number", "at", "word", "place", "own", "call"]
theorem sc_do_off : FnScope N_do_off ["state", "deed", "number", "at"] (defScope s_do_off) := ⟨rfl, rfl, rfl, by decide +kernel, rfl, by decide +kernel, by decide +kernel⟩
theorem ok_do_off (T : Tx w K mg) (G_put : MetPut P w K mg base) : C8.Cal P w K mg base 2 "do_off" (sp_do K fun d => ∃ e, d = .off e ∨ d = .on e) [] := by
  refine cal_mk T.F_do_off T.g_do_off sc_do_off (fun _ _ _ _ _ _ us hl => match us, hl with | [_, _, _, _], _ => rfl) (fun vs H Q E h => ?_) (fun cdv A outer s0 H vs Q E hr h => ?_)
  · obtain ⟨x, dA, n, m, _, _, _, _, _, _, rfl, _⟩ := h
    rfl
  · obtain ⟨x, dA, n, m, H0, s, d, g, es, j, rfl, ⟨e, he⟩, ⟨dx, sA, tA, cA, sk, tk, hS⟩, hdA, ok, hd, h24, hj, k⟩ := h
    refine ⟨_, (pss_cons (ps_asg (pe_dget (hu_of hr) (pe_fld (pv 0) rfl) (pe_ix ix_tup (pv 1) pe_int (fun _ _ => rfl)) (fun _ _ => rfl)) (pg_tup rfl (pgs_cons (pg_name (i := 4) sc_do_off.nd rfl (Or.inl rfl)) (pgs_cons (pg_name (i := 5) sc_do_off.nd rfl (Or.inl rfl)) (pgs_cons (pg_name (i := 6) sc_do_off.nd rfl (Or.inl rfl)) (pgs_cons (pg_name (i := 7) sc_do_off.nd rfl (Or.inl rfl)) pgs_nil))))))
    (pss_cons (ps_if (pt_cmpR op_ne (pv 4) (pe_dget (hu_of hr) (pe_disp (pps_cons pe_str pe_str (pps_cons pe_str pe_str pps_nil)) (by rfl) (by rfl) (fun z => by cases z) (by decide)) (pe_ix ix_tup (pv 1) pe_int (fun _ _ => rfl)) (fun _ _ => rfl)) (nomark _))
      (pss_one (ps_ret pe_str))
      pss_nil)
    (pss_one (ps_ret (C8.pe_mt G_put hr (by decide) (pv 0) (pa_cons (pe_ix ix_tup (pv 1) pe_int (fun _ _ => rfl)) (pa_cons (pe_dget (hu_of hr) (pe_disp (pps_cons pe_str pe_str (pps_cons pe_str pe_str pps_nil)) (by rfl) (by rfl) (fun z => by cases z) (by decide)) (pe_ix ix_tup (pv 1) pe_int (fun _ _ => rfl)) (fun _ _ => rfl)) (pa_cons (pv 5) pa_nil)))))))), ?_⟩
    have hX : StX K H0 H x s := ⟨dx, sA, tA, cA, sk, tk, hS⟩
    have hl := st_len ok h24
    -- both words at once
    obtain ⟨wd, w1, w2, rfl', hv1, hv2, hen, hk⟩ : ∃ wd w1 w2 : Str, d.vs = [.str wd, .str e] ∧ valV (mergeK [] [((.inr "off" : Key), V.str "home"), (.inr "on", .str "off")]) (.inr wd) = some (.str w1) ∧ valV (mergeK [] [((.inr "off" : Key), V.str "off"), (.inr "on", .str "home")]) (.inr wd) = some (.str w2) ∧ e ∈ es.map (·.1) ∧
        doneP s d n m = withE s e fun y => if y.word = w1 then ("", s.put e w2 y.place y.own 0) else ("engine", s) := by
      rcases he with rfl | rfl
      · exact ⟨"off", "home", "off", rfl, rfl, rfl, hd, rfl⟩
      · exact ⟨"on", "off", "home", rfl, rfl, rfl, hd, rfl⟩
    rw [rfl'] at hdA
    have hdA' := SqT.ext hdA hS.ext
    obtain ⟨st, hg⟩ := st_at ok hen
    obtain ⟨t, hv, ht⟩ := hS.getS hg
    rw [withE_at hg] at hk
    refine ⟨_, rfl, x, _, dx, _, _, rfl, hS.x, T.c_State, T.n_State_stands, rfl, _, rfl, dA, _, _, _, rfl, rfl, hdA', rfl, sA, .ref t, rfl, .inl ⟨sk, fN e, .inl hS.st, rfl, hv.symm⟩, t, _, rfl, ht, rfl, _, _, rfl, _, _, rfl, _, _, rfl, _, _, rfl, rfl, ?_⟩
    refine ⟨_, rfl, fun D1 hD1 => ⟨upd_same, [(.inr "off", .str "home"), (.inr "on", .str "off")], rfl, (Nat.le_of_ble_eq_true rfl), ?_⟩⟩
    have E1 : Ext H (upd (upd H D1 (.dK [])) D1 (.dK (mergeK [] [((.inr "off" : Key), V.str "home"), (.inr "on", .str "off")]))) := by rw [upd_upd]; exact Ext.upd hD1
    have h1 : upd (upd H D1 (.dK [])) D1 (.dK (mergeK [] [((.inr "off" : Key), V.str "home"), (.inr "on", .str "off")])) D1 = _ := upd_same
    generalize upd (upd H D1 (.dK [])) D1 (.dK (mergeK [] [((.inr "off" : Key), V.str "home"), (.inr "on", .str "off")])) = H1 at E1 h1 ⊢
    have hS1 := hS.grow E1
    refine ⟨_, rfl, dA, _, _, _, rfl, rfl, SqT.ext hdA' E1, rfl, D1, .str w1, rfl, .inl ⟨_, .inr wd, .inl h1, rfl, hv1.symm⟩, rfl, _, rfl, ?_⟩
    by_cases q : st.word = w1
    · rw [q, decide_eq_true rfl]
      rw [if_pos q] at hk
      rw [hk] at k
      refine iteF ⟨_, rfl, x, dx, _, rfl, hS1.x, rfl, _, rfl, dA, _, _, _, rfl, rfl, SqT.ext hdA' E1, rfl, fun D2 hD2 => ⟨upd_same, [(.inr "off", .str "off"), (.inr "on", .str "home")], rfl, (Nat.le_of_ble_eq_true rfl), ?_⟩⟩
      have E2 : Ext H1 (upd (upd H1 D2 (.dK [])) D2 (.dK (mergeK [] [((.inr "off" : Key), V.str "off"), (.inr "on", .str "home")]))) := by rw [upd_upd]; exact Ext.upd hD2
      have h2 : upd (upd H1 D2 (.dK [])) D2 (.dK (mergeK [] [((.inr "off" : Key), V.str "off"), (.inr "on", .str "home")])) D2 = _ := upd_same
      generalize upd (upd H1 D2 (.dK [])) D2 (.dK (mergeK [] [((.inr "off" : Key), V.str "off"), (.inr "on", .str "home")])) = H2 at E2 h2 ⊢
      exact ⟨_, rfl, dA, _, _, _, rfl, rfl, SqT.ext (SqT.ext hdA' E1) E2, rfl, D2, .str w2, rfl, .inl ⟨_, .inr wd, .inl h2, rfl, hv2.symm⟩, _, rfl, x, e, w2, st.place, 0, H0, s, st, rfl, ⟨dx, sA, tA, cA, sk, tk, hS1.grow E2⟩, hl, hg, fun H' h => k _ h⟩
    · rw [decide_eq_false (fun y => q (V.str.inj y))]
      rw [if_neg q] at hk
      rw [hk] at k
      exact iteT (k _ ⟨dx, sA, tA, cA, sk, tk, hS1⟩)
abbrev N_do_shut : List Str := ["state", "deed", "number", "at", "road"]
theorem sc_do_shut : FnScope N_do_shut ["state", "deed", "number", "at"] (defScope s_do_shut) := ⟨rfl, rfl, rfl, by decide +kernel, rfl, by decide +kernel, by decide +kernel⟩
theorem ok_do_shut (T : Tx w K mg) : C8.Cal P w K mg base 2 "do_shut" (sp_do K fun d => ∃ r, d = .shut r ∨ d = .clear r) [] := by
  refine cal_mk T.F_do_shut T.g_do_shut sc_do_shut (fun _ _ _ _ _ _ us hl => match us, hl with | [_, _, _, _], _ => rfl) (fun vs H Q E h => ?_) (fun cdv A outer s0 H vs Q E hr h => ?_)
  · obtain ⟨x, dA, n, m, _, _, _, _, _, _, rfl, _⟩ := h
    rfl
  · obtain ⟨x, dA, n, m, H0, s, d, g, es, j, rfl, ⟨r, he⟩, ⟨dx, sA, tA, cA, sk, tk, hS⟩, hdA, ok, hd, h24, hj, k⟩ := h
    refine ⟨_, (pss_cons (ps_if (pt_cmpR op_ne (pe_cmpR op_in_seq (pe_ix ix_tup (pv 1) pe_int (fun _ _ => rfl)) (pe_fld (pv 0) rfl) (by rfl)) (pe_cmpR op_eq (pe_ix ix_tup (pv 1) pe_int (fun _ _ => rfl)) pe_str (nomark _)) (nomark _))
      (pss_one (ps_ret pe_str))
      pss_nil)
    (pss_cons (ps_if (pt_cmpR op_eq (pe_ix ix_tup (pv 1) pe_int (fun _ _ => rfl)) pe_str (nomark _))
      (pss_one (ps_fld (pv 0) (pe_callB (cr_sortD (hu65 hr)) (by rfl) T.b_sorted (by decide +kernel) (pa_cons (pe_op op_cat (pe_fld (pv 0) rfl) (pe_lst (pa_cons (pe_ix ix_tup (pv 1) pe_int (fun _ _ => rfl)) pa_nil))) pa_nil)) rfl))
      (pss_one (ps_fld (pv 0) (pe_lc (own := [("road", 4)]) (g := (gName 4)) rfl sc_do_shut.nd (pi_list (pe_fld (pv 0) rfl)) (blkOk_by (N := N_do_shut) (sc := defScope s_do_shut) (by decide +kernel)) (fun _ _ _ _ _ => (pg_name (i := 4) sc_do_shut.nd rfl (Or.inl rfl))) (fun _ _ _ _ _ => (pts_one (pt_cmpR op_ne (pv 4) (pe_ix (ix_tupK K) (pv 1) pe_int (fun _ _ => rfl)) (nomark _)))) (fun _ _ _ _ _ => (pv 4))) rfl)))
    (pss_one (ps_ret pe_str)))), ?_⟩
    have hX : StX K H0 H x s := ⟨dx, sA, tA, cA, sk, tk, hS⟩
    have hin : inV (V.int r) (s.closed.map V.int) = decide (r ∈ s.closed) := inV_int
    rcases he with rfl | rfl
    · have hdA' : SqT K H dA [.str "shut", .int r] := SqT.ext hdA hS.ext
      refine ⟨_, rfl, dA, _, _, _, rfl, rfl, hdA', rfl, _, rfl, x, _, dx, _, _, rfl, hS.x, T.c_State, T.n_State_closed, rfl, cA, _, rfl, .inl (SqL.of hS.cl), rfl, flat_ints _, _, rfl, dA, _, _, _, rfl, rfl, hdA', rfl, rfl, rfl, decide (r ∈ s.closed), ?_, ?_⟩
      · show V.bl (!decide (V.bl (inV (.int r) (s.closed.map V.int)) = V.bl (decide (V.str "shut" = V.str "clear")))) = _
        rw [hin]
        by_cases z : r ∈ s.closed
        · rw [decide_eq_true z]; decide +kernel
        · rw [decide_eq_false z]; decide +kernel
      by_cases z : r ∈ s.closed
      · rw [decide_eq_true z]
        have hk : doneP s (.shut r) n m = (("road" : Str), s) := if_pos z
        rw [hk] at k
        exact iteT (k _ hX)
      · rw [decide_eq_false z]
        have hk : doneP s (.shut r) n m = (("" : Str), { s with closed := sortI (s.closed ++ [r]) }) := if_neg z
        rw [hk] at k
        refine iteF ⟨_, rfl, dA, _, _, _, rfl, rfl, hdA', rfl, rfl, true, by decide +kernel, iteT ?_⟩
        refine ⟨_, rfl, x, _, dx, _, _, rfl, hS.x, T.c_State, T.n_State_closed, rfl, _, rfl, dA, _, _, _, rfl, rfl, hdA', rfl, sz rfl, fun l1 hl1 => ?_⟩
        generalize hg1 : upd H l1 _ = H1
        obtain ⟨e1, h1, _⟩ := newF hl1 hg1
        have hS1 := hS.grow e1
        have cl := ok.cl
        refine ⟨_, _, _, _, rfl, rfl, hS1.cl, h1, szn (by rw [List.length_map]; show _ + 1 ≤ _; omega), fun l2 hl2 => ?_⟩
        generalize hg2 : upd H1 l2 _ = H2
        obtain ⟨e2, h2, _⟩ := newF hl2 hg2
        have hS2 := hS1.grow e2
        have h2' : H2 l2 = some (.lst ((s.closed ++ [r]).map V.int)) := by rw [h2, List.map_append]; rfl
        show rSortD K [V.ref l2] H2 _
        refine r_sortI (s.closed ++ [r]) (.inl (SqL.of h2')) (by rw [List.length_append]; show _ + 1 ≤ _; omega) fun l3 hl3 => ?_
        generalize hg3 : upd H2 l3 _ = H3
        obtain ⟨e3, h3, _⟩ := newF hl3 hg3
        have hS3 := hS2.grow e3
        refine ⟨_, rfl, x, _, dx, _, rfl, hS3.x, T.c_State, T.n_State_closed, (Nat.le_of_ble_eq_true rfl), ?_⟩
        exact k _ ⟨dx, sA, tA, l3, sk, tk, hS3.setC (xs := sortI (s.closed ++ [r])) h3 (hS2.new hl3)⟩
    · have hdA' : SqT K H dA [.str "clear", .int r] := SqT.ext hdA hS.ext
      refine ⟨_, rfl, dA, _, _, _, rfl, rfl, hdA', rfl, _, rfl, x, _, dx, _, _, rfl, hS.x, T.c_State, T.n_State_closed, rfl, cA, _, rfl, .inl (SqL.of hS.cl), rfl, flat_ints _, _, rfl, dA, _, _, _, rfl, rfl, hdA', rfl, rfl, rfl, !decide (r ∈ s.closed), ?_, ?_⟩
      · show V.bl (!decide (V.bl (inV (.int r) (s.closed.map V.int)) = V.bl (decide (V.str "clear" = V.str "clear")))) = _
        rw [hin]
        by_cases z : r ∈ s.closed
        · rw [decide_eq_true z]; decide +kernel
        · rw [decide_eq_false z]; decide +kernel
      by_cases z : r ∈ s.closed
      · rw [decide_eq_true z]
        have hk : doneP s (.clear r) n m = (("" : Str), { s with closed := s.closed.filter fun q => decide (q ≠ r) }) := if_pos z
        rw [hk] at k
        refine iteF ⟨_, rfl, dA, _, _, _, rfl, rfl, hdA', rfl, rfl, false, by decide +kernel, iteF ?_⟩
        refine ⟨_, rfl, x, _, dx, _, _, rfl, hS.x, T.c_State, T.n_State_closed, rfl, cA, rfl, ⟨_, SqL.of hS.cl⟩, fun D hD => ?_⟩
        have cl := ok.cl
        refine lc_list (xs := s.closed.map V.int) (fun i H' => Ext H H' ∧ H' D = some (.lst (((s.closed.take i).filter fun q => decide (q ≠ r)).map V.int))) ⟨Ext.upd hD, upd_same⟩ (fun i H' _ ⟨e, _⟩ => SqL.of (e _ _ hS.cl)) ?_ ?_
        · rintro i y H2 hy ⟨e, hDD⟩
          obtain ⟨q, hq, rfl⟩ : ∃ q, s.closed[i]? = some q ∧ V.int q = y := by
            rw [List.getElem?_map] at hy
            cases e : s.closed[i]? with
            | none => rw [e] at hy; cases hy
            | some z => rw [e] at hy; exact ⟨z, rfl, Option.some.inj hy⟩
          have hi' := (List.getElem?_eq_some_iff.mp hq).1
          have ff : ∀ b, (decide (q ≠ r)) = b → (s.closed.take (i + 1)).filter (fun q => decide (q ≠ r)) = (s.closed.take i).filter (fun q => decide (q ≠ r)) ++ (if b = true then [q] else []) := fun b hb => by
            rw [List.take_add_one, hq, List.filter_append]
            show _ ++ List.filter _ [q] = _
            rw [List.filter_cons, hb]
            cases b <;> rfl
          refine ⟨rfl, _, rfl, _, rfl, dA, _, _, _, rfl, rfl, SqT.ext hdA' e, rfl, rfl, decide (q ≠ r), ?_, ?_⟩
          · show V.bl (!decide (V.int q = V.int r)) = _
            by_cases y : q = r
            · subst y; simp
            · rw [decide_eq_false (fun z => y (V.int.inj z)), decide_eq_true y]; rfl
          refine ite2 (fun y => ?_) (fun y => ?_)
          · refine ⟨_, rfl, _, hDD, szl (by rw [List.length_map]; have := List.length_filter_le (fun q : Int => decide (q ≠ r)) (s.closed.take i); rw [List.length_take] at this; omega), updE e hD, ?_⟩
            rw [upd_same, ff true y, List.map_append]; rfl
          · refine ⟨e, ?_⟩
            rw [ff false (by simpa using y), hDD]
            simp
        · rintro H2 ⟨e, hDD⟩
          rw [List.length_map, List.take_length] at hDD
          have hS2 := hS.grow e
          refine ⟨_, rfl, x, _, dx, _, rfl, hS2.x, T.c_State, T.n_State_closed, (Nat.le_of_ble_eq_true rfl), ?_⟩
          exact k _ ⟨dx, sA, tA, D, sk, tk, hS2.setC (xs := s.closed.filter fun q => decide (q ≠ r)) hDD (hS.new hD)⟩
      · rw [decide_eq_false z]
        have hk : doneP s (.clear r) n m = (("road" : Str), s) := if_neg z
        rw [hk] at k
        exact iteT (k _ hX)
abbrev N_do_stop : List Str := ["state", "deed", "number", "at", "name"]
theorem sc_do_stop : FnScope N_do_stop ["state", "deed", "number", "at"] (defScope s_do_stop) := ⟨rfl, rfl, rfl, by decide +kernel, rfl, by decide +kernel, by decide +kernel⟩
theorem ok_do_stop (T : Tx w K mg) (G_is_open : C8.Met P w K mg base 1 (He.ga K "State") "is_open" (sp_is_open K) []) (G_under : C8.Met P w K mg base 1 (He.ga K "State") "under" (sp_under K) []) (G_put : MetPut P w K mg base) : C8.Cal P w K mg base 2 "do_stop" (sp_do K fun d => ∃ c, d = .stop c) [] := by
  refine cal_mk T.F_do_stop T.g_do_stop sc_do_stop (fun _ _ _ _ _ _ us hl => match us, hl with | [_, _, _, _], _ => rfl) (fun vs H Q E h => ?_) (fun cdv A outer s0 H vs Q E hr h => ?_)
  · obtain ⟨x, dA, n, m, _, _, _, _, _, _, rfl, _⟩ := h
    rfl
  · obtain ⟨x, dA, n, m, H0, s, d, g, es, j, rfl, ⟨c, rfl⟩, ⟨dx, sA, tA, cA, sk, tk, hS⟩, hdA, ok, hd, h24, hj, k⟩ := h
    refine ⟨_, (pss_cons (ps_if (pt_not (pt_val (C8.pe_mt G_is_open hr (by decide) (pv 0) (pa_cons (pe_ix ix_tup (pv 1) pe_int (fun _ _ => rfl)) pa_nil))))
      (pss_one (ps_ret pe_str))
      pss_nil)
    (pss_cons (ps_for PassesOwn.never rfl (pi_list (C8.pe_mt G_under hr (by decide) (pv 0) (pa_cons (pe_ix ix_tup (pv 1) pe_int (fun _ _ => rfl)) pa_nil))) (pg_name (i := 4) sc_do_stop.nd rfl (Or.inl rfl))
      (pss_one (ps_expr (C8.pe_mt G_put hr (by decide) (pv 0) (pa_cons (pv 4) (pa_cons pe_str (pa_cons (pe_ix ix_tup (pe_dget (hu_of hr) (pe_fld (pv 0) rfl) (pv 4) (fun _ _ => rfl)) pe_int (fun _ _ => rfl)) pa_nil)))))))
    (pss_cons (ps_dput (hu_of hr) (pe_fld (pv 0) rfl) (pe_ix ix_tup (pv 1) pe_int (fun _ _ => rfl)) (pe_op op_catA (pe_slice sl_tupA (pe_dget (hu_of hr) (pe_fld (pv 0) rfl) (pe_ix ix_tup (pv 1) pe_int (fun _ _ => rfl)) (fun _ _ => rfl)) po_none (po_some pe_int)) (pe_tup (pa_cons pe_bl pa_nil))) rfl)
    (pss_one (ps_ret pe_str))))), ?_⟩
    have hX : StX K H0 H x s := ⟨dx, sA, tA, cA, sk, tk, hS⟩
    have hdA' := SqT.ext hdA hS.ext
    have hl := st_len ok h24
    refine ⟨_, rfl, x, dx, _, rfl, hS.x, rfl, _, rfl, dA, _, _, _, rfl, rfl, hdA', rfl, x, c, s, dx, sA, tA, cA, tk, rfl, hS.x, .inl hS.td, hS.tr, _, rfl, ?_⟩
    cases ho : s.isOpen c with
    | false =>
      have hk := stop_no (n := n) (m := m) ho
      rw [hk] at k
      exact iteT (k _ hX)
    | true =>
      obtain ⟨cd, hcd, hop⟩ := isOpen_at ho
      have hk := stop_yes (n := n) (m := m) hcd hop
      rw [hk] at k
      have nd : (s.stands.map (·.1)).Nodup := by rw [ok.keys]; exact h24.2
      refine iteF ⟨_, rfl, x, dx, _, rfl, hS.x, rfl, _, rfl, dA, _, _, _, rfl, rfl, hdA', rfl, x, c, H0, s, rfl, hX, hl, fun l ns H1 hp e1 hl1 hl0 => ?_⟩
      have hnd := under_nd nd hp
      have hS1 := hS.grow e1
      have l0 : H0 l = none := by
        cases q : H0 l with
        | none => rfl
        | some o => rw [hS.ext _ _ q] at hl0; cases hl0
      refine ⟨l, rfl, ⟨_, SqL.of hl1⟩, ?_⟩
      refine for_list (xs := ns.map V.str) (fun i σ' H' => ∃ v4 : Option V, σ' = [some (.ref x), some (.ref dA), some (.int n), some (.int m), v4] ∧ StX K (upd H0 l (.lst (ns.map V.str))) H' x { s with stands := s.stands.map (stopTo (ns.take i)) })
        ⟨_, rfl, ⟨dx, sA, tA, cA, sk, tk, ?_⟩⟩ (fun i σ' H' _ ⟨_, _, ⟨_, _, _, _, _, _, h⟩⟩ => SqL.of (h.ext _ _ upd_same)) ?_ ?_
      · rw [List.take_zero, show s.stands.map (stopTo []) = s.stands from (List.map_congr_left fun q _ => (if_neg (by simp) : stopTo [] q = q)).trans (List.map_id _)]
        exact hS1.widen hl1 (ne_of_none hS.cl hl0)
      · rintro i y σ' H2 hy ⟨v4, rfl, hX2⟩
        obtain ⟨nm, hnm, rfl⟩ := map_some hy
        obtain ⟨st, hg⟩ := under_in hp (List.mem_of_getElem? hnm)
        have hni := not_in_take hnd hnm
        have hg2 := stop_get hg hni
        obtain ⟨dx2, sA2, tA2, cA2, sk2, tk2, hS2⟩ := hX2
        obtain ⟨t, hv, ht⟩ := hS2.getS hg2
        refine ⟨_, rfl, x, dx2, _, rfl, hS2.x, rfl, _, rfl, _, rfl, x, _, dx2, _, _, rfl, hS2.x, T.c_State, T.n_State_stands, rfl, _, rfl, sA2, .ref t, rfl, .inl ⟨sk2, fN nm, .inl hS2.st, rfl, hv.symm⟩, t, _, _, _, rfl, rfl, ht, rfl, x, nm, "back", st.place, 0, _, { s with stands := s.stands.map (stopTo (ns.take i)) }, st, rfl, ⟨dx2, sA2, tA2, cA2, sk2, tk2, hS2⟩, by rw [List.length_map]; exact hl, hg2, fun H3 hX3 => ⟨_, rfl, ?_⟩⟩
        have e1 : (ns.take (i + 1)) = ns.take i ++ [nm] := by rw [List.take_add_one, hnm]; rfl
        rw [e1, ← stop_step nd hg hni]
        exact hX3
      · rintro σ' H2 ⟨v4, rfl, hX2⟩
        rw [List.length_map, List.take_length, stop_all nd hp] at hX2
        obtain ⟨dx2, sA2, tA2, cA2, sk2, tk2, hS2⟩ := hX2
        have hS3 := hS2.narrow l0
        obtain ⟨t, hv, ht⟩ := hS3.getT hcd
        have hdA2 := SqT.ext hdA hS3.ext
        refine ⟨_, rfl, x, _, dx2, _, _, rfl, hS3.x, T.c_State, T.n_State_told, rfl, _, rfl, dA, _, _, _, rfl, rfl, hdA2, rfl, tA2, .ref t, rfl, .inl ⟨tk2, fI c, .inl hS3.td, rfl, hv.symm⟩, _, rfl, t, _, rfl, ht, fun z => absurd (show (4 : Nat) = 5 from z.2) (by decide), fun _ a1 ha1 => ?_⟩
        generalize hga : upd H2 a1 _ = A1
        obtain ⟨ea, hA, _⟩ := newF ha1 hga
        refine ⟨sz rfl, fun b1 hb1 => ?_⟩
        generalize hgb : upd A1 b1 _ = B1
        obtain ⟨eb, hB, _⟩ := newF hb1 hgb
        refine ⟨a1, b1, _, _, rfl, rfl, SqT.of (eb _ _ hA), SqT.of hB, szn (Nat.le_of_ble_eq_true rfl), fun z => (by cases z), fun _ z => (by cases z), fun _ _ c1 hc1 => ?_⟩
        generalize hgc : upd B1 c1 _ = C1
        obtain ⟨ec, hC, _⟩ := newF hc1 hgc
        have hS4 := ((hS3.grow ea).grow eb).grow ec
        have tl := ok.tl
        refine ⟨_, rfl, x, _, dx2, _, _, rfl, hS4.x, T.c_State, T.n_State_told, rfl, _, rfl, dA, _, _, _, rfl, rfl, SqT.ext (SqT.ext (SqT.ext hdA2 ea) eb) ec, rfl, tA2, _, rfl, DPut.k (k := fI c) hS4.td (by rw [hS4.tr.length, sizeLine_eq]; show s.told.length < _; omega), ?_⟩
        exact k _ ⟨dx2, sA2, tA2, cA2, sk2, _, hS4.setT (cd := { cd with opn := false }) (SqT.of hC)⟩
end
end K36
/-! text KS5 -/
namespace K36
open PySem PySem.Spec PyProof.Rows L2 SX
section
variable {P : Program} {w : World} {K : PySem.W.Frag} {mg : Str → Option Value} {base : Heap}
theorem held_of {x : Str} {f : Addr} {k : Nat} {sp : Sp} (c : C8.Cal P w K mg base k x sp []) (hm : mg x = some (.ref f)) : Held P w K mg base k f sp := by
  obtain ⟨f', fd, ps, ds, F, hm', kp, b, v⟩ := c.ex
  rw [hm] at hm'
  cases hm'
  cases v
  exact ⟨fd, ps, F, kp, b⟩
/-- the defs behind the words -/
structure Does (P : Program) (w : World) (K : PySem.W.Frag) (mg : Str → Option Value) (base : Heap) : Prop where
  call : C8.Cal P w K mg base 2 "do_call" (sp_do K fun d => ∃ p k, d = .call p k) []
  again : C8.Cal P w K mg base 2 "do_again" (sp_do K fun d => ∃ c, d = .again c) []
  make : C8.Cal P w K mg base 2 "do_make" (sp_do K fun d => ∃ c p, d = .make c p) []
  stop : C8.Cal P w K mg base 2 "do_stop" (sp_do K fun d => ∃ c, d = .stop c) []
  send : C8.Cal P w K mg base 2 "do_send" (sp_do K fun d => ∃ e c, d = .send e c) []
  there : C8.Cal P w K mg base 2 "do_there" (sp_do K fun d => ∃ e, d = .there e) []
  back : C8.Cal P w K mg base 2 "do_back" (sp_do K fun d => ∃ e, d = .back e) []
  home : C8.Cal P w K mg base 2 "do_home" (sp_do K fun d => ∃ e, d = .home e) []
  off : C8.Cal P w K mg base 2 "do_off" (sp_do K fun d => ∃ e, d = .off e ∨ d = .on e) []
  stand : C8.Cal P w K mg base 2 "do_stand" (sp_do K fun d => ∃ e z, d = .stand e z) []
  lend : C8.Cal P w K mg base 2 "do_lend" (sp_do K fun d => ∃ e z, d = .lend e z) []
  shut : C8.Cal P w K mg base 2 "do_shut" (sp_do K fun d => ∃ r, d = .shut r ∨ d = .clear r) []
  nothing : C8.Cal P w K mg base 2 "do_nothing" (sp_do K fun d => d = .nothing) []
theorem does_all (T : Tx w K mg) : Does P w K mg base := by
  have o := ok_is_open (P := P) (base := base) T
  have u := ok_under (P := P) (base := base) T
  have p := met_put (P := P) (base := base) T
  have pk := met_putk (P := P) (base := base) T
  exact ⟨ok_do_call T, ok_do_again T o, ok_do_make T o, ok_do_stop T o u p, ok_do_send T o pk, ok_do_there T pk, ok_do_back T p, ok_do_home T p, ok_do_off T p, ok_do_stand T p, ok_do_lend T, ok_do_shut T, ok_do_nothing T⟩
theorem do_held (T : Tx w K mg) (Y : Ty K) (D : Does P w K mg base) (d : Deed) : ∃ (f : Addr) (p : Deed → Prop), Held P w K mg base 2 f (sp_do K p) ∧ p d ∧ doOk K (He.ga K "DOING") d.word f = true := by
  cases d with
  | call a b => exact ⟨_, _, held_of D.call T.g_do_call, ⟨a, b, rfl⟩, Y.d_call⟩
  | again a => exact ⟨_, _, held_of D.again T.g_do_again, ⟨a, rfl⟩, Y.d_again⟩
  | make a b => exact ⟨_, _, held_of D.make T.g_do_make, ⟨a, b, rfl⟩, Y.d_make⟩
  | stop a => exact ⟨_, _, held_of D.stop T.g_do_stop, ⟨a, rfl⟩, Y.d_stop⟩
  | send a b => exact ⟨_, _, held_of D.send T.g_do_send, ⟨a, b, rfl⟩, Y.d_send⟩
  | there a => exact ⟨_, _, held_of D.there T.g_do_there, ⟨a, rfl⟩, Y.d_there⟩
  | back a => exact ⟨_, _, held_of D.back T.g_do_back, ⟨a, rfl⟩, Y.d_back⟩
  | home a => exact ⟨_, _, held_of D.home T.g_do_home, ⟨a, rfl⟩, Y.d_home⟩
  | off a => exact ⟨_, _, held_of D.off T.g_do_off, ⟨a, .inl rfl⟩, Y.d_off⟩
  | on a => exact ⟨_, _, held_of D.off T.g_do_off, ⟨a, .inr rfl⟩, Y.d_on⟩
  | stand a b => exact ⟨_, _, held_of D.stand T.g_do_stand, ⟨a, b, rfl⟩, Y.d_stand⟩
  | lend a b => exact ⟨_, _, held_of D.lend T.g_do_lend, ⟨a, b, rfl⟩, Y.d_lend⟩
  | shut a => exact ⟨_, _, held_of D.shut T.g_do_shut, ⟨a, .inl rfl⟩, Y.d_shut⟩
  | clear a => exact ⟨_, _, held_of D.shut T.g_do_shut, ⟨a, .inr rfl⟩, Y.d_clear⟩
  | nothing => exact ⟨_, _, held_of D.nothing T.g_do_nothing, rfl, Y.d_nothing⟩
abbrev N_done : List Str := ["state", "deed", "number", "at", "doing"]
theorem sc_done : FnScope N_done ["state", "deed", "number", "at"] (defScope s_done) := ⟨rfl, rfl, rfl, by decide +kernel, rfl, by decide +kernel, by decide +kernel⟩
theorem ok_done (T : Tx w K mg) (Y : Ty K) (D : Does P w K mg base) : C8.Cal P w K mg base 3 "done" (sp_do K fun _ => True) [] := by
  refine cal_mk T.F_done T.g_done sc_done (fun _ _ _ _ _ _ us hl => match us, hl with | [_, _, _, _], _ => rfl) (fun vs H Q E h => ?_) (fun cdv A outer s0 H vs Q E hr h => ?_)
  · obtain ⟨x, dA, n, m, _, _, _, _, _, _, rfl, _⟩ := h
    rfl
  · obtain ⟨x, dA, n, m, H0, s, d, g, es, j, rfl, _, hX, hdA, ok, hd, h24, hj, k⟩ := h
    obtain ⟨fA, pA, hH, hp, hdo⟩ := do_held T Y D d
    have hA : ∀ f sp, (if f = fA then some (sp_do K pA) else none) = some sp → Held P w K mg base 2 f sp := fun f sp e => by
      split at e
      · rename_i z; cases e; rw [z]; exact hH
      · cases e
    refine ⟨_, (pss_cons (ps_set (i := 4) sc_done.nd rfl (Or.inl rfl) (pe_ix ix_kdict (C8.pe_gc (v := .ref (He.ga K "DOING")) rfl ⟨_, T.g_DOING, rfl⟩) (pe_ix ix_tup (pv 1) pe_int (fun _ _ => rfl)) (fun _ _ => rfl)))
    (pss_one (ps_ret (pe_callA (i := 4) (S := fun f => if f = fA then some (sp_do K pA) else none) hA hr rfl (Or.inl rfl) (pa_cons (pv 0) (pa_cons (pv 1) (pa_cons (pv 2) (pa_cons (pv 3) pa_nil)))))))), ?_⟩
    obtain ⟨es', n', DD⟩ := T.t_DOING
    have hdA0 : SqT K H0 dA (.str d.word :: d.args) := by rw [← deed_vs]; exact hdA
    have hext : Ext H0 H := by obtain ⟨_, _, _, _, _, _, h⟩ := hX; exact h.ext
    refine ⟨_, rfl, dA, _, _, _, rfl, rfl, SqT.ext hdA0 hext, at_of (j := 0) rfl rfl, _, _, _, rfl, rfl, doOk_k DD hdo, ?_⟩
    exact ⟨fA, _, rfl, if_pos rfl, _, rfl, _, rfl, _, rfl, _, rfl, x, dA, n, m, H0, s, d, g, es, j, rfl, hp, hX, hdA, ok, hd, h24, hj, k⟩
end
end K36
/-! text KR1 -/
namespace K36
open PySem PySem.Spec PyProof.Rows L2 SX
open LamX (Tabs TabS TabB ExtN CodeO)
def lamParts : List Stmt → Option (Arguments × Expr × Scope)
  | .Assign _ (.Lambda p b s _) _ :: _ => some (p, b, s)
  | _ => none
def lamA : Arguments := match lamParts (defBody s_Room_replay) with
  | some (p, _, _) => p
  | none => defArgs s_Room_replay
def lamB : Expr := match lamParts (defBody s_Room_replay) with
  | some (_, b, _) => b
  | none => .Name "x" ⟨0, 0, 0, 0⟩
def lamS : Scope := match lamParts (defBody s_Room_replay) with
  | some (_, _, s) => s
  | none => defScope s_Room_replay
def lamQ : Str := "Room.replay.<locals>.<lambda>"
theorem cr_order {X : Cx} {k : Nat} (hr : Room (k + 3) X.A) : CallRK X (.builtin "sorted") [Str.ofString "key"] (rSortKey X.K lamQ lamA lamB lamS "at" "number") :=
  cr_sortKey (x := "row") hr (NdefX.nscope_by (by decide +kernel)) (fun _ _ _ _ => rfl) (by decide) (fun _ => rfl) (fun _ => rfl)
theorem ext_none {H H' : Hp} {a : Addr} (e : Ext H H') (h : H' a = none) : H a = none := by
  cases q : H a with
  | none => rfl
  | some o => rw [e _ _ q] at h; cases h
theorem StAt.rebase {K : PySem.W.Frag} {H0 H1 H : Hp} {x dx sA tA cA : Addr} {sk tk : List (Key × V)} {s : RS} (h : StAt K H0 H x dx sA tA cA sk tk s) (e : Ext H1 H0) : StAt K H1 H x dx sA tA cA sk tk s :=
  ⟨e.trans h.ext, ext_none e h.x0, ext_none e h.s0, ext_none e h.t0, ext_none e h.c0, h.x, h.st, h.td, h.cl, h.ne, h.sr, h.tr⟩
/-- a tuple that is new is seen by the base too -/
theorem StAt.widenT {K : PySem.W.Frag} {H0 H : Hp} {x dx sA tA cA l : Addr} {sk tk : List (Key × V)} {s : RS} {xs : List V} (h : StAt K H0 H x dx sA tA cA sk tk s) (hl : H l = some (.tup xs)) : StAt K (upd H0 l (.tup xs)) H x dx sA tA cA sk tk s := by
  have nx : x ≠ l := fun z => by have := h.x; rw [z, hl] at this; cases this
  have ns : sA ≠ l := fun z => by have := h.st; rw [z, hl] at this; cases this
  have nt : tA ≠ l := fun z => by have := h.td; rw [z, hl] at this; cases this
  have nc : cA ≠ l := fun z => by have := h.cl; rw [z, hl] at this; cases this
  refine ⟨fun a o ha => ?_, (upd_ne nx).trans h.x0, (upd_ne ns).trans h.s0, (upd_ne nt).trans h.t0, (upd_ne nc).trans h.c0, h.x, h.st, h.td, h.cl, h.ne, h.sr, h.tr⟩
  by_cases z : a = l
  · rw [z, upd_same] at ha; cases ha; rw [z]; exact hl
  · rw [upd_ne z] at ha; exact h.ext a o ha
theorem StAt.relistB {K : PySem.W.Frag} {B H : Hp} {x dx sA tA cA vl : Addr} {sk tk : List (Key × V)} {s : RS} {xs ys : List V} (h : StAt K B H x dx sA tA cA sk tk s) (hb : B vl = some (.lst xs)) : StAt K (upd B vl (.lst ys)) (upd H vl (.lst ys)) x dx sA tA cA sk tk s := by
  have e : upd B vl (.lst xs) = B := funext fun a => by
    by_cases z : a = vl
    · rw [z, upd_same]; exact hb.symm
    · exact upd_ne z
  have h' : StAt K (upd B vl (.lst xs)) H x dx sA tA cA sk tk s := by rw [e]; exact h
  exact h'.relist (h.ext _ _ hb)
section
variable {P : Program} {w : World} {K : PySem.W.Frag} {mg : Str → Option Value} {base : Heap}
abbrev N_Room_replay : List Str := ["self", "at", "without", "order", "living", "state", "void", "row", "why"]
theorem sc_Room_replay : FnScope N_Room_replay ["self", "at", "without"] (defScope s_Room_replay) := ⟨rfl, rfl, rfl, by decide +kernel, rfl, by decide +kernel, by decide +kernel⟩
def sp_replay (K : PySem.W.Frag) (T : List (Addr × Str)) : Sp := fun vs H Q _ => ∃ (c : RoomC) (A : Adr) (g : Gd) (es : List Eng) (ps : List Addr) (rr : List RR) (at_ wo : Int), vs = [.ref c.ro, .int at_, .int wo] ∧ RoomAt K T H c A g es ps rr ∧ RoomP g es rr ∧
  ∀ (H1 H' : Hp) (x vl t : Addr) (vts : List Addr), ExtN H H1 → Tabs T H1 → StX K H1 H' x (replayP es rr at_ wo).1 → RSOk es 60 (replayP es rr at_ wo).1 → H' vl = some (.lst (vts.map V.ref)) → Rows K H' vts ((replayP es rr at_ wo).2.map fun v => [.int v.1, .str v.2]) → SqT K H' t [.ref x, .ref vl] → Q (.ref t) H'
theorem ok_replay (T : Tx w K mg) (Tb : List (Addr × Str)) (L : LamF K mg base Tb (He.ma K (He.ga K "Room") "replay") lamQ) (G_State : C8.Mak P w K mg base 1 "State" (He.ga K "State") (sp_State_init K) []) (G_done : C8.Cal P w K mg base 3 "done" (sp_do K fun _ => True) []) :
    FnM P w K mg base 4 "replay" "Room.replay" (defArgs s_Room_replay) (defBody s_Room_replay) (defScope s_Room_replay) [.int 0] (He.ma K (He.ga K "Room") "replay") ["self", "at", "without"] (sp_replay K Tb) := by
  obtain ⟨cd, tb, hcd, TB, hmT, huT⟩ := L.ex
  refine fnM_mkC T.F_Room_replay hcd sc_Room_replay (fun vs H Q E h => ?_) (fun A0 outer s H vs Q E hr h => ?_)
  · obtain ⟨c, A, g, es, ps, rr, at_, wo, rfl, _⟩ := h
    rfl
  · obtain ⟨c, A, g, es, ps, rr, at_, wo, rfl, hR, hP, k⟩ := h
    refine ⟨_, (pss_cons (ps_set (i := 3) sc_Room_replay.nd rfl (Or.inl rfl) (pe_lamV TB rfl hmT huT rfl (fun y hy e => absurd e (by revert y; decide +kernel))))
    (pss_cons (ps_setLc (i := 4) (own := [("row", 7)]) (g := (gName 7)) rfl sc_Room_replay.nd rfl rfl (sw_true rfl rfl rfl (by decide +kernel)) (pi_list (pe_fld (pv 0) rfl)) (blkOk_by (N := N_Room_replay) (sc := defScope s_Room_replay) (by decide +kernel)) (fun _ _ _ _ _ => (pg_name (i := 7) sc_Room_replay.nd rfl (Or.inl rfl))) (fun _ _ _ _ _ => (pts_one (PW.pt (pw_and (pt_cmp (pc_dnotin (hu_of hr) (pe_fldK K (pv 7) rfl) (pe_fldK K (pv 0) rfl))) (pw_and1 (pt_cmpR op_ne (pe_fldK K (pv 7) rfl) (pv 2) (nomark _))))))) (fun _ _ _ _ _ => (pv 7)))
    (pss_cons (ps_set (i := 5) sc_Room_replay.nd rfl (Or.inl rfl) (C8.pe_mk G_State hr (by decide) rfl (pa_cons (pe_fld (pv 0) rfl) pa_nil)))
    (pss_cons (ps_set (i := 6) sc_Room_replay.nd rfl (Or.inl rfl) (pe_lst pa_nil))
    (pss_cons (ps_for PassesOwn.never rfl (pi_list (pe_callBK (cr_order (k := 0) hr) (by rfl) T.b_sorted (by decide +kernel) (pa_cons (pe_lc (own := [("row", 7)]) (g := (gName 7)) rfl sc_Room_replay.nd (pi_list (pv 4)) (blkOk_by (N := N_Room_replay) (sc := defScope s_Room_replay) (by decide +kernel)) (fun _ _ _ _ _ => (pg_name (i := 7) sc_Room_replay.nd rfl (Or.inl rfl))) (fun _ _ _ _ _ => (pts_one (pt_cmpR op_le (pe_fldK K (pv 7) rfl) (pv 1) (nomark _)))) (fun _ _ _ _ _ => (pv 7))) pa_nil) (pk_cons (pv 3) pk_nil))) (pg_name (i := 7) sc_Room_replay.nd rfl (Or.inl rfl))
      (pss_cons (ps_set (i := 8) sc_Room_replay.nd rfl (Or.inl rfl) (C8.pe_c G_done hr (by decide) rfl (pa_cons (pv 5) (pa_cons (pe_fld (pv 7) rfl) (pa_cons (pe_dget (hu_of hr) (pe_fld (pv 0) rfl) (pe_fld (pv 7) rfl) (fun _ _ => rfl)) (pa_cons (pe_fld (pv 7) rfl) pa_nil))))))
        (pss_one (ps_if (pt_cmpR op_ne (pv 8) pe_str (nomark _))
          (pss_one (ps_expr (pe_bm PySem.F.plainAttrs_list PySem.F.slot_list_append PySem.F.type_list_append mt_append (pv 6) (pa_cons (pe_tup (pa_cons (pe_fld (pv 7) rfl) (pa_cons (pv 8) pa_nil))) pa_nil))))
          pss_nil))))
    (pss_one (ps_ret (pe_tup (pa_cons (pv 5) (pa_cons (pv 6) pa_nil)))))))))), ?_⟩
    have hps := hR.plen
    have hlen := hP.len
    refine ⟨hR.tabs, fun H1 f c' en t1 hf0 hf hc' => ?_⟩
    have hR1 := hR.grow en t1
    have hzr : ∀ z ∈ ps.zip rr, RowO K H1 z.1 z.2.1 := fun z hz => by
      obtain ⟨i, hi⟩ := List.mem_iff_getElem?.mp hz
      obtain ⟨h1, h2⟩ := List.getElem?_zip_eq_some.mp hi
      obtain ⟨q, hq, ho⟩ := hR1.at h1
      rw [h2] at hq
      cases hq
      exact ho
    have hzl : (ps.zip rr).length = rr.length := by rw [List.length_zip]; omega
    -- living
    refine ⟨_, rfl, c.ro, _, c.dx, _, _, rfl, hR1.x, T.c_Room, T.n_Room_kept, rfl, c.kA, rfl, ⟨_, SqL.of hR1.kept⟩, fun D1 hD1 => ?_⟩
    refine lc_list (xs := ps.map V.ref) (fun i H' => Ext H1 H' ∧ H' D1 = some (.lst ((((ps.zip rr).take i).filter fun z => !decide (z.2.1.n ∈ deadOf (rws rr)) && decide (z.2.1.n ≠ wo)).map fun z => V.ref z.1))) ⟨Ext.upd hD1, upd_same⟩ (fun i H' _ ⟨e, _⟩ => SqL.of (e _ _ hR1.kept)) ?_ ?_
    · rintro i y H2 hy ⟨e, hDD⟩
      obtain ⟨p, hp, rfl⟩ := map_at hy
      obtain ⟨q, hq, ⟨dxr, hrow⟩, _⟩ := hR1.at hp
      have hz : (ps.zip rr)[i]? = some (p, q) := List.getElem?_zip_eq_some.mpr ⟨hp, hq⟩
      have hi' := (List.getElem?_eq_some_iff.mp hz).1
      refine ⟨rfl, ?_⟩
      refine ⟨_, rfl, p, _, dxr, _, _, rfl, e _ _ hrow, T.c_Row, T.n_Row_number, rfl, _, rfl, c.ro, _, c.dx, _, _, rfl, e _ _ hR1.x, T.c_Room, T.n_Room_dead, rfl, c.dA, _, rfl, DGet.k (k := .inl q.1.n) (e _ _ hR1.dead), !decide (q.1.n ∈ deadOf (rws rr)), by rw [← valV_keys]; rfl, ?_⟩
      have fs := filter_snoc (p := fun z : Addr × RR => !decide (z.2.1.n ∈ deadOf (rws rr)) && decide (z.2.1.n ≠ wo)) hz
      have stay : (!decide (q.1.n ∈ deadOf (rws rr)) && decide (q.1.n ≠ wo)) = false → Ext H1 H2 ∧ H2 D1 = some (.lst ((((ps.zip rr).take (i + 1)).filter fun z => !decide (z.2.1.n ∈ deadOf (rws rr)) && decide (z.2.1.n ≠ wo)).map fun z => V.ref z.1)) := fun y => ⟨e, by rw [fs, hDD, if_neg (by rw [y]; decide), List.append_nil]⟩
      refine ite2 (fun d1 => ?_) (fun d1 => iteF (stay (by rw [Bool.eq_false_iff.mpr d1]; rfl)))
      refine ⟨_, rfl, p, _, dxr, _, _, rfl, e _ _ hrow, T.c_Row, T.n_Row_number, rfl, _, rfl, rfl, decide (q.1.n ≠ wo), ?_, ?_⟩
      · show V.bl (!decide (V.int q.1.n = V.int wo)) = _
        by_cases y : q.1.n = wo
        · rw [y, decide_eq_true rfl, decide_eq_false (by simp)]; rfl
        · rw [decide_eq_false (fun z => y (V.int.inj z)), decide_eq_true y]; rfl
      refine ite2 (fun d2 => ?_) (fun d2 => stay (by rw [Bool.eq_false_iff.mpr d2, Bool.and_false]))
      refine ⟨_, rfl, _, hDD, szl (by rw [List.length_map]; have := List.length_filter_le (fun z : Addr × RR => !decide (z.2.1.n ∈ deadOf (rws rr)) && decide (z.2.1.n ≠ wo)) ((ps.zip rr).take i); rw [List.length_take] at this; omega), updE e hD1, ?_⟩
      rw [upd_same, fs, if_pos (by rw [d1, d2]; rfl), List.map_append]; rfl
    · rintro H2 ⟨e2, hD1'⟩
      rw [List.length_map, show (ps.zip rr).take ps.length = ps.zip rr from List.take_of_length_le (by omega)] at hD1'
      have hR2 := hR1.ext e2
      -- the state
      refine ⟨_, rfl, c.ro, _, c.dx, _, _, rfl, hR2.x, T.c_Room, T.n_Room_engines, rfl, fun x dx hx hdx ndx => ?_⟩
      refine ⟨H2, x, dx, A, es, rfl, hx, updE (Ext.upd hdx) hx, upd_same, hR2.ea, hP.ek.e24, hP.ek.nd, fun H3 hX3 => ⟨rfl, ?_⟩⟩
      obtain ⟨dxs, sA, tA, cA, sk, tk, hS3⟩ := hX3
      have e3 := hS3.ext
      have hD13 := e3 _ _ hD1'
      refine ⟨sz rfl, fun vl hvl => ?_⟩
      generalize hg4 : upd H3 vl _ = H4
      obtain ⟨e4, h4, _⟩ := newF hvl hg4
      have ncv : cA ≠ vl := ne_of_none hS3.cl hvl
      have hS4 := hS3.grow e4
      have hD14 := e4 _ _ hD13
      -- what is to be played
      refine ⟨_, rfl, D1, rfl, ⟨_, SqL.of hD14⟩, fun D2 hD2 => ?_⟩
      let ws := (ps.zip rr).filter fun z => !decide (z.2.1.n ∈ deadOf (rws rr)) && decide (z.2.1.n ≠ wo)
      have hD14 : H4 D1 = some (.lst (ws.map fun z => V.ref z.1)) := hD14
      have hwm : ∀ z ∈ ws, z ∈ ps.zip rr := fun z hz => (List.mem_filter.mp hz).1
      have hwl : ws.length ≤ 60 := Nat.le_trans (List.length_filter_le _ _) (by omega)
      have e14 : Ext H1 H4 := (e2.trans e3).trans e4
      refine lc_list (xs := ws.map fun z => V.ref z.1) (fun i H' => Ext H4 H' ∧ H' D2 = some (.lst (((ws.take i).filter fun z => decide (z.2.1.at_ ≤ at_)).map fun z => V.ref z.1))) ⟨Ext.upd hD2, upd_same⟩ (fun i H' _ ⟨e, _⟩ => SqL.of (e _ _ hD14)) ?_ ?_
      · rintro i y H5 hy ⟨e, hDD⟩
        obtain ⟨z, hz, rfl⟩ := map_some hy
        have hi' := (List.getElem?_eq_some_iff.mp hz).1
        obtain ⟨⟨dxr, hrow⟩, _⟩ := hzr z (hwm z (List.mem_of_getElem? hz))
        have hrow5 := e _ _ (e14 _ _ hrow)
        have fs := filter_snoc (p := fun z : Addr × RR => decide (z.2.1.at_ ≤ at_)) hz
        refine ⟨rfl, _, rfl, z.1, _, dxr, _, _, rfl, hrow5, T.c_Row, T.n_Row_at, rfl, _, rfl, _, _, rfl, rfl, _, rfl, ?_⟩
        refine ite2 (fun d2 => ?_) (fun d2 => ⟨e, by rw [fs, hDD, if_neg d2, List.append_nil]⟩)
        refine ⟨_, rfl, _, hDD, szl (by rw [List.length_map]; have := List.length_filter_le (fun z : Addr × RR => decide (z.2.1.at_ ≤ at_)) (ws.take i); rw [List.length_take] at this; omega), updE e hD2, ?_⟩
        rw [upd_same, fs, if_pos d2, List.map_append]; rfl
      · rintro H5 ⟨e5, hD2'⟩
        rw [List.length_map, List.take_length] at hD2'
        let vs := ws.filter fun z => decide (z.2.1.at_ ≤ at_)
        have hD2' : H5 D2 = some (.lst (vs.map fun z => V.ref z.1)) := hD2'
        have hvm : ∀ z ∈ vs, z ∈ ps.zip rr := fun z hz => hwm z (List.mem_filter.mp hz).1
        have hvl' : vs.length ≤ 60 := Nat.le_trans (List.length_filter_le _ _) hwl
        have e15 := e14.trans e5
        refine ⟨_, rfl, ?_⟩
        refine ⟨⟨D2, f, c', He.ga K "Row", vs.map fun z => (z.1, z.2.1.at_, z.2.1.n), rfl, rfl, ?_, e15 _ _ hf, e15 _ _ hc', T.c_Row, T.n_Row_at, T.n_Row_number, by rw [List.length_map]; omega, fun b hb => ?_, fun l3 hl3 => ?_⟩⟩
        · rw [List.map_map]; exact SqL.of hD2'
        · obtain ⟨z, hz, rfl⟩ := List.mem_map.mp hb
          obtain ⟨⟨dxr, hrow⟩, _⟩ := hzr z (hvm z hz)
          exact ⟨dxr, _, e15 _ _ hrow, rfl, rfl⟩
        let zs := vs.mergeSort fun z z' => leQ z.2 z'.2
        have hcont : ((vs.map fun z => (z.1, z.2.1.at_, z.2.1.n)).mergeSort fun x y => decide (x.2.1 < y.2.1 ∨ (x.2.1 = y.2.1 ∧ x.2.2 ≤ y.2.2))).map (fun b => V.ref b.1) = zs.map fun z => V.ref z.1 := by
          rw [← List.map_mergeSort (r := fun z z' : Addr × RR => leQ z.2 z'.2) (f := fun z : Addr × RR => (z.1, z.2.1.at_, z.2.1.n)) (fun _ _ _ _ => rfl), List.map_map]
          rfl
        have hO : zs.map (·.2) = orderR rr at_ wo := by
          have h1 : ws.map (·.2) = livingR rr wo := zip_filter hps (fun q => !decide (q.1.n ∈ deadOf (rws rr)) && decide (q.1.n ≠ wo))
          have h2 : vs.map (·.2) = uptoR (livingR rr wo) at_ := by
            unfold uptoR
            rw [← h1, List.filter_map]; rfl
          show (vs.mergeSort fun z z' => leQ z.2 z'.2).map (·.2) = (uptoR (livingR rr wo) at_).mergeSort leQ
          rw [List.map_mergeSort (s := leQ) (f := fun z : Addr × RR => z.2) (fun _ _ _ _ => rfl), h2]
        have hzm : ∀ z ∈ zs, z ∈ ps.zip rr := fun z hz => hvm z ((List.mergeSort_perm _ _).mem_iff.mp hz)
        have hzsl : zs.length ≤ 60 := by rw [show zs.length = vs.length from (List.mergeSort_perm _ _).length_eq]; exact hvl'
        rw [hcont]
        generalize hg6 : upd H5 l3 _ = H6
        obtain ⟨e6, h6, _⟩ := newF hl3 hg6
        have hS5 := hS4.grow e5
        have hS6 := hS5.grow e6
        have nc3 : cA ≠ l3 := ne_of_none hS5.cl hl3
        have hvl5 := e5 _ _ h4
        have n3v : l3 ≠ vl := (ne_of_none hvl5 hl3).symm
        have h13 : H1 l3 = none := ext_none e15 hl3
        have h1v : H1 vl = none := ext_none ((e2.trans e3)) hvl
        have h2v : H2 vl = none := ext_none e3 hvl
        have hS8 := (hS6.widen h6 nc3).widen (e6 _ _ hvl5) ncv
        have eB : ∀ u, Ext H1 (upd (upd H2 l3 (.lst (zs.map fun z => V.ref z.1))) vl u) := fun u a o ha => by
          rw [upd_ne (ne_of_none ha h1v), upd_ne (ne_of_none ha h13)]; exact e2 _ _ ha
        have hB3 : ∀ u, upd (upd H2 l3 (.lst (zs.map fun z => V.ref z.1))) vl u l3 = some (.lst (zs.map fun z => V.ref z.1)) := fun u => (upd_ne n3v).trans upd_same
        refine ⟨l3, rfl, ⟨_, SqL.of h6⟩, ?_⟩
        refine for_list (xs := zs.map fun z => V.ref z.1) (fun i σ' H' => ∃ (v7 v8 : Option V) (vts : List Addr) (B : Hp), σ' = [some (.ref c.ro), some (.int at_), some (.int wo), some (.ref f), some (.ref D1), some (.ref x), some (.ref vl), v7, v8] ∧
            StX K B H' x (playR es ((orderR rr at_ wo).take i)).1 ∧ Ext H1 B ∧ B vl = some (.lst (vts.map V.ref)) ∧ B l3 = some (.lst (zs.map fun z => V.ref z.1)) ∧ RSOk es i (playR es ((orderR rr at_ wo).take i)).1 ∧ vts.length ≤ i ∧ Rows K B vts ((playR es ((orderR rr at_ wo).take i)).2.map fun v => [.int v.1, .str v.2]))
          ⟨_, _, [], _, rfl, ⟨dxs, sA, tA, cA, sk, tk, hS8⟩, eB _, upd_same, hB3 _, RSOk.init es, Nat.le_refl _, .nil⟩ (fun i σ' H' _ ⟨_, _, _, _, _, ⟨_, _, _, _, _, _, h⟩, _, _, hl3', _⟩ => SqL.of (h.ext _ _ hl3')) ?_ ?_
        · rintro i y σ' H7 hy ⟨v7, v8, vts, B, rfl, hX7, hB1, hBv, hBl, ok7, hv7, hr7⟩
          obtain ⟨z, hz, rfl⟩ := map_some hy
          have hiz := (List.getElem?_eq_some_iff.mp hz).1
          have hq : (orderR rr at_ wo)[i]? = some z.2 := by rw [← hO, List.getElem?_map, hz]; rfl
          have hzp := hzm z (List.mem_of_getElem? hz)
          obtain ⟨⟨dxr, hrow⟩, hdd⟩ := hzr z hzp
          have hqm : z.2 ∈ rr := mem_order (List.mem_of_getElem? hq)
          obtain ⟨j, hj⟩ := List.mem_iff_getElem?.mp hqm
          have dok : DOk g es z.2.1.deed := (hP.bk.at j z.2.1 (by unfold rws; rw [List.getElem?_map, hj]; rfl)).deed
          obtain ⟨dx7, sA7, tA7, cA7, sk7, tk7, hS7⟩ := hX7
          have e17 : Ext H1 H7 := hB1.trans hS7.ext
          have hR7 := hR1.ext e17
          have hrow7 := e17 _ _ hrow
          have hst := play_snoc (es := es) hq
          refine ⟨_, rfl, _, rfl, z.1, _, dxr, _, _, rfl, hrow7, T.c_Row, T.n_Row_deed, rfl, _, rfl, c.ro, _, c.dx, _, _, rfl, hR7.x, T.c_Room, T.n_Room_first, rfl, _, rfl, z.1, _, dxr, _, _, rfl, hrow7, T.c_Row, T.n_Row_number, rfl, c.fA, .int z.2.2, rfl, .inl ⟨fstK rr, .inl z.2.1.n, .inl hR7.first, rfl, (fst_at hP.bk hqm).symm⟩, _, rfl, z.1, _, dxr, _, _, rfl, hrow7, T.c_Row, T.n_Row_at, rfl,
            x, z.2.1.dA, z.2.2, z.2.1.at_, _, _, z.2.1.deed, g, es, i, rfl, True.intro, ⟨dx7, sA7, tA7, cA7, sk7, tk7, hS7⟩, SqT.ext hdd hB1, ok7, dok, ⟨hP.ek.e24, hP.ek.nd⟩, by omega, fun H8 hX8 => ?_⟩
          have ok8 := done_ok (n := z.2.2) (m := z.2.1.at_) ok7 dok
          obtain ⟨dx8, sA8, tA8, cA8, sk8, tk8, hS8⟩ := hX8
          rw [hst]
          refine ⟨_, rfl, rfl, !decide ((doneP (playR es ((orderR rr at_ wo).take i)).1 z.2.1.deed z.2.2 z.2.1.at_).1 = ""), ?_, ite2 (fun dq => ?_) (fun dq => ?_)⟩
          · exact congrArg V.bl (congrArg (!·) (decide_eq_decide.mpr ⟨fun h => by injection h, fun h => by rw [h]⟩))
          · have dq' : ¬ (doneP (playR es ((orderR rr at_ wo).take i)).1 z.2.1.deed z.2.2 z.2.1.at_).1 = "" := fun h => by rw [h] at dq; simp at dq
            have hv8 : H8 vl = some (.lst (vts.map V.ref)) := hS8.ext _ _ hBv
            have hrow8 := (hB1.trans hS8.ext) _ _ hrow
            have hst2 : stepR (playR es ((orderR rr at_ wo).take i)) z.2 = ((doneP (playR es ((orderR rr at_ wo).take i)).1 z.2.1.deed z.2.2 z.2.1.at_).2, (playR es ((orderR rr at_ wo).take i)).2 ++ [(z.2.1.n, (doneP (playR es ((orderR rr at_ wo).take i)).1 z.2.1.deed z.2.2 z.2.1.at_).1)]) := by
              unfold stepR; rw [if_neg dq']
            rw [hst2]
            refine ⟨_, rfl, .inl ⟨rfl, _, SqL.of hv8⟩, _, rfl, z.1, _, dxr, _, _, rfl, hrow8, T.c_Row, T.n_Row_number, rfl, _, rfl, sz rfl, fun t ht => ?_⟩
            generalize hg9 : upd H8 t _ = H9
            obtain ⟨e9, h9, _⟩ := newF ht hg9
            have hBt : B t = none := ext_none hS8.ext ht
            have ntv : vl ≠ t := ne_of_none hBv hBt
            have ntl : l3 ≠ t := ne_of_none hBl hBt
            have nlv : l3 ≠ vl := n3v
            have hS9 := (hS8.grow e9).widenT h9
            have hBv9 : ∀ u, upd B t u vl = some (.lst (vts.map V.ref)) := fun u => (upd_ne ntv).trans hBv
            have eB9 : Ext B (upd B t (.tup [.int z.2.1.n, .str (doneP (playR es ((orderR rr at_ wo).take i)).1 z.2.1.deed z.2.2 z.2.1.at_).1])) := Ext.upd hBt
            refine ⟨vl, _, _, rfl, rfl, e9 _ _ hv8, szl (by rw [List.length_map]; omega), ?_⟩
            refine ⟨_, _, vts ++ [t], _, rfl, ⟨dx8, sA8, tA8, cA8, sk8, tk8, ?_⟩, updE (hB1.trans eB9) h1v, upd_same.trans (by rw [List.map_append]), (upd_ne nlv).trans ((upd_ne ntl).trans hBl), ok8, (by rw [List.length_append]; show vts.length + 1 ≤ i + 1; omega), ?_⟩
            · exact hS9.relistB (hBv9 _)
            · rw [List.map_append]
              exact Paired.snoc (hr7.tm ((tmE eB9).trans (tm_updL (hBv9 _)))) ((tm_updL (hBv9 _)) _ _ (SqT.of upd_same))
          · have dq' : (doneP (playR es ((orderR rr at_ wo).take i)).1 z.2.1.deed z.2.2 z.2.1.at_).1 = "" := by simpa using dq
            have hst2 : stepR (playR es ((orderR rr at_ wo).take i)) z.2 = ((doneP (playR es ((orderR rr at_ wo).take i)).1 z.2.1.deed z.2.2 z.2.1.at_).2, (playR es ((orderR rr at_ wo).take i)).2) := by
              unfold stepR; rw [if_pos dq']
            rw [hst2]
            exact ⟨_, _, vts, B, rfl, ⟨dx8, sA8, tA8, cA8, sk8, tk8, hS8⟩, hB1, hBv, hBl, ok8, by omega, hr7⟩
        · rintro σ' H7 ⟨v7, v8, vts, B, rfl, hX7, hB1, hBv, hBl, ok7, hv7, hr7⟩
          have hfl : (orderR rr at_ wo).take (zs.map fun z => V.ref z.1).length = orderR rr at_ wo := by
            rw [List.length_map, ← hO, ← List.length_map (f := fun z : Addr × RR => z.2), List.take_length]
          rw [hfl] at hX7 ok7 hr7
          obtain ⟨dx7, sA7, tA7, cA7, sk7, tk7, hS7⟩ := hX7
          refine ⟨_, rfl, _, rfl, sz rfl, fun t ht => ?_⟩
          generalize hg8 : upd H7 t _ = H8
          obtain ⟨e8, h8, _⟩ := newF ht hg8
          have hxl : (zs.map fun z => V.ref z.1).length ≤ 60 := by rw [List.length_map]; exact hzsl
          exact k H1 H8 x vl t vts en t1 ⟨dx7, sA7, tA7, cA7, sk7, tk7, (hS7.grow e8).rebase hB1⟩ (ok7.mono hxl) (e8 _ _ (hS7.ext _ _ hBv)) ((hr7.tm (tmE (hS7.ext.trans e8)))) (SqT.of h8)
end
end K36
/-! text KR2 -/
/-! room.py: state, rows, void, calls, engine -/
namespace K36
open PySem PySem.Spec PyProof.Rows L2
open LamX (Tabs TabS TabB ExtN CodeO)
section
variable {P : Program} {w : World} {K : PySem.W.Frag} {mg : Str → Option Value} {base : Heap}
abbrev N_Room_state : List Str := ["self", "at"]
theorem sc_Room_state : FnScope N_Room_state ["self", "at"] (defScope s_Room_state) := ⟨rfl, rfl, rfl, by decide +kernel, rfl, by decide +kernel, by decide +kernel⟩
def FnReplay (P : Program) (w : World) (K : PySem.W.Frag) (mg : Str → Option Value) (base : Heap) (Tb : List (Addr × Str)) : Prop := FnM P w K mg base 4 "replay" "Room.replay" (defArgs s_Room_replay) (defBody s_Room_replay) (defScope s_Room_replay) [.int 0] (He.ma K (He.ga K "Room") "replay") ["self", "at", "without"] (sp_replay K Tb)
theorem met_replay {Tb : List (Addr × Str)} (T : Tx w K mg) (M : FnReplay P w K mg base Tb) : C8.Met P w K mg base 4 (He.ga K "Room") "replay" (sp_replay K Tb) [.int 0] := FnM.met M T.c_Room T.m_Room_replay 2 0 (by simp) rfl fun T kV doc pm an cdv ct us its h1 h2 => match us, its, h1, h2 with | [_, _], [_], _, _ => ⟨_, rfl, rfl⟩
theorem met_replayk {Tb : List (Addr × Str)} (T : Tx w K mg) (M : FnReplay P w K mg base Tb) : MetN P w K mg base 4 (He.ga K "Room") "replay" (sp_replay K Tb) 2 ["without"] (fun vs zs => vs ++ zs) := FnM.metN M T.c_Room T.m_Room_replay 2 ["without"] (by simp) fun T kV doc pm an cdv ct us its ws h1 h2 h3 => match us, its, ws, h1, h2, h3 with | [_, _], [_], [_], _, _, _ => ⟨_, rfl, rfl⟩
def sp_rstate (K : PySem.W.Frag) (T : List (Addr × Str)) : Sp := fun vs H Q _ => ∃ (c : RoomC) (A : Adr) (g : Gd) (es : List Eng) (ps : List Addr) (rr : List RR) (at_ : Int), vs = [.ref c.ro, .int at_] ∧ RoomAt K T H c A g es ps rr ∧ RoomP g es rr ∧
  ∀ (H1 H' : Hp) (x : Addr), ExtN H H1 → Tabs T H1 → StX K H1 H' x (replayP es rr at_ 0).1 → RSOk es 60 (replayP es rr at_ 0).1 → Q (.ref x) H'
theorem ok_rstate (T : Tx w K mg) {Tb : List (Addr × Str)} (M : FnReplay P w K mg base Tb) : C8.Met P w K mg base 5 (He.ga K "Room") "state" (sp_rstate K Tb) [] := by
  have G_replay := met_replay T M
  refine met_mk T.c_Room T.m_Room_state T.F_Room_state sc_Room_state (fun _ _ _ _ _ _ us hl => match us, hl with | [_, _], _ => rfl) (fun vs H Q E h => ?_) (fun cdv A0 outer s H vs Q E hr h => ?_)
  · obtain ⟨c, A, g, es, ps, rr, at_, rfl, _⟩ := h
    rfl
  · obtain ⟨c, A, g, es, ps, rr, at_, rfl, hR, hP, k⟩ := h
    refine ⟨_, (pss_one (ps_ret (pe_ix ix_tup (C8.pe_mt G_replay hr (by decide) (pv 0) (pa_cons (pe_ifExp (pt_cmpR op_isN (pv 1) pe_non (nomark _)) (C8.pe_gc rfl T.k_LAST_MINUTE) (pv 1)) pa_nil)) pe_int (fun _ _ => rfl)))), ?_⟩
    refine ⟨_, rfl, c.ro, c.dx, _, rfl, hR.x, rfl, _, rfl, rfl, ?_⟩
    refine ⟨_, rfl, ite2 (fun q => by cases (of_decide_eq_true q)) fun _ => ?_⟩
    refine ⟨_, rfl, c, A, g, es, ps, rr, at_, 0, rfl, hR, hP, fun H1 H' x vl t vts en t1 hX ok hv hr hT => ?_⟩
    exact ⟨t, _, _, _, rfl, rfl, hT, rfl, k H1 H' x en t1 hX ok⟩
abbrev N_Room_rows : List Str := ["self"]
theorem sc_Room_rows : FnScope N_Room_rows ["self"] (defScope s_Room_rows) := ⟨rfl, rfl, rfl, by decide +kernel, rfl, by decide +kernel, by decide +kernel⟩
def sp_rows (K : PySem.W.Frag) (T : List (Addr × Str)) : Sp := fun vs H Q _ => ∃ (c : RoomC) (A : Adr) (g : Gd) (es : List Eng) (ps : List Addr) (rr : List RR), vs = [.ref c.ro] ∧ RoomAt K T H c A g es ps rr ∧ RoomP g es rr ∧ ∀ (H' : Hp) (l : Addr), Ext H H' → H' l = some (.lst (ps.map V.ref)) → H l = none → Q (.ref l) H'
theorem ok_rows (T : Tx w K mg) {Tb : List (Addr × Str)} : C8.Met P w K mg base 1 (He.ga K "Room") "rows" (sp_rows K Tb) [] := by
  refine met_mk T.c_Room T.m_Room_rows T.F_Room_rows sc_Room_rows (fun _ _ _ _ _ _ us hl => match us, hl with | [_], _ => rfl) (fun vs H Q E h => ?_) (fun cdv A0 outer s H vs Q E hr h => ?_)
  · obtain ⟨c, A, g, es, ps, rr, rfl, _⟩ := h
    rfl
  · obtain ⟨c, A, g, es, ps, rr, rfl, hR, hP, k⟩ := h
    refine ⟨_, (pss_one (ps_ret (pe_callTy call_list_of (by rfl) T.b_list (by decide +kernel) (pa_cons (pe_fld (pv 0) rfl) pa_nil)))), ?_⟩
    refine ⟨_, rfl, c.ro, _, c.dx, _, _, rfl, hR.x, T.c_Room, T.n_Room_kept, rfl, c.kA, ps.map V.ref, rfl, .inl (SqL.of hR.kept), fun l hl => ?_⟩
    exact k _ l (Ext.upd hl) upd_same hl
abbrev N_Room_void : List Str := ["self"]
theorem sc_Room_void : FnScope N_Room_void ["self"] (defScope s_Room_void) := ⟨rfl, rfl, rfl, by decide +kernel, rfl, by decide +kernel, by decide +kernel⟩
def sp_void (K : PySem.W.Frag) (T : List (Addr × Str)) : Sp := fun vs H Q _ => ∃ (c : RoomC) (A : Adr) (g : Gd) (es : List Eng) (ps : List Addr) (rr : List RR), vs = [.ref c.ro] ∧ RoomAt K T H c A g es ps rr ∧ RoomP g es rr ∧
  ∀ (H' : Hp) (vl : Addr) (vts : List Addr), ExtN H H' → Tabs T H' → H' vl = some (.lst (vts.map V.ref)) → Rows K H' vts ((replayP es rr 9999 0).2.map fun v => [.int v.1, .str v.2]) → Q (.ref vl) H'
theorem ok_void (T : Tx w K mg) {Tb : List (Addr × Str)} (M : FnReplay P w K mg base Tb) : C8.Met P w K mg base 5 (He.ga K "Room") "void" (sp_void K Tb) [] := by
  have G_replay := met_replay T M
  refine met_mk T.c_Room T.m_Room_void T.F_Room_void sc_Room_void (fun _ _ _ _ _ _ us hl => match us, hl with | [_], _ => rfl) (fun vs H Q E h => ?_) (fun cdv A0 outer s H vs Q E hr h => ?_)
  · obtain ⟨c, A, g, es, ps, rr, rfl, _⟩ := h
    rfl
  · obtain ⟨c, A, g, es, ps, rr, rfl, hR, hP, k⟩ := h
    refine ⟨_, (pss_one (ps_ret (pe_ix ix_tup (C8.pe_mt G_replay hr (by decide) (pv 0) (pa_cons (C8.pe_gc rfl T.k_LAST_MINUTE) pa_nil)) pe_int (fun _ _ => rfl)))), ?_⟩
    refine ⟨_, rfl, c.ro, c.dx, _, rfl, hR.x, rfl, c, A, g, es, ps, rr, 9999, 0, rfl, hR, hP, fun H1 H' x vl t vts en t1 hX ok hv hr hT => ?_⟩
    obtain ⟨dx7, sA7, tA7, cA7, sk7, tk7, hS7⟩ := hX
    exact ⟨t, _, _, _, rfl, rfl, hT, rfl, k H' vl vts (en.trans (extN_of hS7.ext)) (t1.ext hS7.ext) hv hr⟩
end
end K36
/-! text KR3 -/
/-! room.py: calls, engine -/
namespace K36
open PySem PySem.Spec PyProof.Rows L2
open LamX (Tabs TabS TabB ExtN CodeO)
section
variable {P : Program} {w : World} {K : PySem.W.Frag} {mg : Str → Option Value} {base : Heap}
abbrev N_Room_calls : List Str := ["self", "at", "state", "number"]
theorem sc_Room_calls : FnScope N_Room_calls ["self", "at"] (defScope s_Room_calls) := ⟨rfl, rfl, rfl, by decide +kernel, rfl, by decide +kernel, by decide +kernel⟩
def sp_calls (K : PySem.W.Frag) (T : List (Addr × Str)) : Sp := fun vs H Q _ => ∃ (c : RoomC) (A : Adr) (g : Gd) (es : List Eng) (ps : List Addr) (rr : List RR) (at_ : Int), vs = [.ref c.ro, .int at_] ∧ RoomAt K T H c A g es ps rr ∧ RoomP g es rr ∧
  ∀ (H' : Hp) (v : V), ExtN H H' → Tabs T H' → Q v H'
theorem ok_calls (T : Tx w K mg) {Tb : List (Addr × Str)} (G_state : C8.Met P w K mg base 5 (He.ga K "Room") "state" (sp_rstate K Tb) []) (G_is_open : C8.Met P w K mg base 1 (He.ga K "State") "is_open" (sp_is_open K) []) : FnM P w K mg base 6 "calls" "Room.calls" (defArgs s_Room_calls) (defBody s_Room_calls) (defScope s_Room_calls) [.non] (He.ma K (He.ga K "Room") "calls") ["self", "at"] (sp_calls K Tb) := by
  refine fnM_mk T.F_Room_calls sc_Room_calls (fun vs H Q E h => ?_) (fun cdv A0 outer s H vs Q E hr h => ?_)
  · obtain ⟨c, A, g, es, ps, rr, at_, rfl, _⟩ := h
    rfl
  · obtain ⟨c, A, g, es, ps, rr, at_, rfl, hR, hP, k⟩ := h
    refine ⟨_, (pss_cons (ps_set (i := 2) sc_Room_calls.nd rfl (Or.inr rfl) (C8.pe_mt G_state hr (by decide) (pv 0) (pa_cons (pv 1) pa_nil)))
    (pss_one (ps_ret (pe_callB (cr_sortD (hu65 hr)) (by rfl) T.b_sorted (by decide +kernel) (pa_cons (pe_lock (pe_lc (own := [("number", 3)]) (g := (gName 3)) rfl sc_Room_calls.nd (pi_keys (pe_fld (pv 2) rfl)) (blkOk_by (N := N_Room_calls) (sc := defScope s_Room_calls) (by decide +kernel)) (fun _ _ _ _ _ => (pg_name (i := 3) sc_Room_calls.nd rfl (Or.inl rfl))) (fun _ _ _ _ _ => (pts_one (pt_val (C8.pe_mt G_is_open hr (by decide) (pv 2) (pa_cons (pv 3) pa_nil))))) (fun _ _ _ _ _ => (pv 3)))) pa_nil))))), ?_⟩
    refine ⟨_, rfl, c.ro, c.dx, _, rfl, hR.x, rfl, _, rfl, c, A, g, es, ps, rr, at_, rfl, hR, hP, fun H1 H' x en t1 hX ok => ?_⟩
    generalize (replayP es rr at_ 0).1 = s0 at hX ok
    obtain ⟨dx, sA, tA, cA, sk, tk, hS⟩ := hX
    refine ⟨tA, _, hS.td, True.intro, fun od => ?_⟩
    have hx1 : upd H' tA (.frz od (.dK tk)) x = _ := (upd_ne (fun z => by have := hS.x; rw [z, hS.td] at this; cases this)).trans hS.x
    have hs1 : upd H' tA (.frz od (.dK tk)) tA = _ := upd_same
    have tm1 : TM K H' (upd H' tA (.frz od (.dK tk))) := tm_upd hS.td (fun _ z => by cases z) (fun _ _ z => by cases z)
    have back : ∀ H2, Ext (upd H' tA (.frz od (.dK tk))) H2 → Ext H' (upd H2 tA (.dK tk)) := fun H2 e a o ha => by
      by_cases z : a = tA
      · rw [z, hS.td] at ha; cases ha; rw [z]; exact upd_same
      · exact (upd_ne z).trans (e _ _ ((upd_ne z).trans ha))
    have htl : tk.length = s0.told.length := hS.tr.length
    generalize hgH1 : upd H' tA (.frz od (.dK tk)) = H3 at hx1 hs1 tm1 back ⊢
    have hr3 : DRel fI (TolR K H3) tk s0.told := hS.tr.mono fun _ _ ⟨t, a, b⟩ => ⟨t, a, tm1 _ _ b⟩
    refine ⟨_, rfl, x, _, dx, _, _, rfl, hx1, T.c_State, T.n_State_told, rfl, tA, od, rfl, .inl ⟨tk, hs1, fun D hD => ?_⟩⟩
    refine lc_it walk_keys (fun i H' => Ext H3 H' ∧ H' D = some (.lst ((((s0.told.take i).filter fun q => s0.isOpen q.1).map (·.1)).map V.int))) ⟨Ext.upd hD, upd_same⟩ (fun i H' _ ⟨e, _⟩ => e _ _ hs1) ?_ ?_
    · rintro i y H4 H5 hi ⟨e, hDD⟩ ⟨rfl, k1, v1, hkv, rfl⟩
      have hi' : i < s0.told.length := by omega
      have hq : s0.told[i]? = some s0.told[i] := List.getElem?_eq_getElem hi'
      obtain ⟨p1, _⟩ := paired_at2' hr3 hkv hq
      generalize s0.told[i] = q at hq p1
      have p1 : k1 = fI q.1 := p1
      subst p1
      refine ⟨rfl, _, rfl, x, dx, _, rfl, e _ _ hx1, rfl, _, rfl, x, q.1, s0, dx, sA, tA, cA, tk, rfl, e _ _ hx1, .inr ⟨od, e _ _ hs1⟩, hr3.mono fun _ _ ⟨t, a, b⟩ => ⟨t, a, SqT.ext b e⟩, ?_⟩
      refine ⟨_, rfl, ?_⟩
      have ff := filter_snoc (p := fun q : Int × CallD => s0.isOpen q.1) hq
      have hlq : ((s0.told.take i).filter fun q => s0.isOpen q.1).length ≤ 60 := by
        have := List.length_filter_le (fun q : Int × CallD => s0.isOpen q.1) (s0.told.take i)
        have := ok.tl
        rw [List.length_take] at *
        omega
      refine ite2 (fun z => ?_) (fun z => ?_)
      · refine ⟨_, rfl, _, hDD, szl (by rw [List.length_map, List.length_map]; omega), updE e hD, ?_⟩
        rw [upd_same, ff, if_pos z, List.map_append, List.map_append]; rfl
      · refine ⟨e, ?_⟩
        rw [ff, if_neg z, hDD, List.append_nil]
    · rintro H4 ⟨e, hDD⟩
      rw [htl, List.take_length] at hDD
      refine ⟨e _ _ hs1, ?_⟩
      have hl2 : (((s0.told.filter fun q => s0.isOpen q.1).map (·.1)) : List Int).length ≤ 1000 := by
        rw [List.length_map]
        have := List.length_filter_le (fun q : Int × CallD => s0.isOpen q.1) s0.told
        have := ok.tl
        omega
      have nDt : D ≠ tA := (ne_of_none hs1 hD).symm
      have hD3 : upd H4 tA (.dK tk) D = some (.lst (((s0.told.filter fun q => s0.isOpen q.1).map (·.1)).map V.int)) := (upd_ne nDt).trans hDD
      have E2 := back _ e
      show rSortD K [V.ref D] _ _
      refine r_sortI _ (.inl (SqL.of hD3)) hl2 fun l hl => ?_
      have e9 : ∀ o, Ext H1 (upd (upd H4 tA (.dK tk)) l o) := fun o => (hS.ext.trans E2).trans (Ext.upd hl)
      exact k _ _ (en.trans (extN_of (e9 _))) (t1.ext (e9 _))
abbrev N_Room_engine : List Str := ["self", "name", "at", "stands"]
theorem sc_Room_engine : FnScope N_Room_engine ["self", "name", "at"] (defScope s_Room_engine) := ⟨rfl, rfl, rfl, by decide +kernel, rfl, by decide +kernel, by decide +kernel⟩
def sp_engine (K : PySem.W.Frag) (T : List (Addr × Str)) : Sp := fun vs H Q _ => ∃ (c : RoomC) (A : Adr) (g : Gd) (es : List Eng) (ps : List Addr) (rr : List RR) (at_ : Int) (e : Str), vs = [.ref c.ro, .str e, .int at_] ∧ RoomAt K T H c A g es ps rr ∧ RoomP g es rr ∧ e ∈ es.map (·.1) ∧
  ∀ (H' : Hp) (v : V), ExtN H H' → Tabs T H' → Q v H'
theorem ok_engine (T : Tx w K mg) {Tb : List (Addr × Str)} (G_state : C8.Met P w K mg base 5 (He.ga K "Room") "state" (sp_rstate K Tb) []) : FnM P w K mg base 6 "engine" "Room.engine" (defArgs s_Room_engine) (defBody s_Room_engine) (defScope s_Room_engine) [.non] (He.ma K (He.ga K "Room") "engine") ["self", "name", "at"] (sp_engine K Tb) := by
  refine fnM_mk T.F_Room_engine sc_Room_engine (fun vs H Q E h => ?_) (fun cdv A0 outer s H vs Q E hr h => ?_)
  · obtain ⟨c, A, g, es, ps, rr, at_, e, rfl, _⟩ := h
    rfl
  · obtain ⟨c, A, g, es, ps, rr, at_, e, rfl, hR, hP, he, k⟩ := h
    refine ⟨_, (pss_cons (ps_if (pt_not (pt_val (pe_callB call_isi (by rfl) T.b_isinstance (by decide +kernel) (pa_cons (pv 1) (pa_cons (pe_bltn (v := .ty "str") (by rfl) T.b_str (by decide +kernel) rfl) pa_nil)))))
      (pss_one ps_never)
      pss_nil)
    (pss_cons (ps_set (i := 3) sc_Room_engine.nd rfl (Or.inl rfl) (pe_fld (C8.pe_mt G_state hr (by decide) (pv 0) (pa_cons (pv 2) pa_nil)) rfl))
    (pss_one (ps_try_thru0 (pss_one (ps_ret (pe_dget (hu_of hr) (pv 3) (pv 1) (fun _ _ => rfl)))))))), ?_⟩
    refine ⟨_, rfl, _, _, _, _, _, rfl, .ty _, .base (.str _), k_ss, _, rfl, iteF ?_⟩
    refine ⟨_, rfl, c.ro, c.dx, _, rfl, hR.x, rfl, _, rfl, c, A, g, es, ps, rr, at_, rfl, hR, hP, fun H1 H' x en t1 hX ok => ?_⟩
    obtain ⟨st, hst⟩ := st_at ok he
    obtain ⟨dx, sA, tA, cA, sk, tk, hS⟩ := hX
    obtain ⟨t, hv, ht⟩ := hS.getS hst
    refine ⟨x, _, dx, _, _, rfl, hS.x, T.c_State, T.n_State_stands, rfl, _, rfl, _, rfl, sA, .ref t, rfl, .inl ⟨sk, fN e, .inl hS.st, rfl, hv.symm⟩, ?_⟩
    exact k _ _ (en.trans (extN_of hS.ext)) (t1.ext hS.ext)
end
end K36
/-! text KP5 -/
namespace K36
open PySem PySem.Spec PyProof.Rows L2 SX
/-- all but x stays -/
def KeepB (x : Addr) (H H' : Hp) : Prop := ∀ a o, a ≠ x → H a = some o → H' a = some o
theorem KeepB.refl (x : Addr) (H : Hp) : KeepB x H H := fun _ _ _ h => h
theorem KeepB.ext {x : Addr} {H H1 H2 : Hp} (k : KeepB x H H1) (e : Ext H1 H2) : KeepB x H H2 := fun a o n h => e a o (k a o n h)
theorem KeepB.upd {x : Addr} {H H1 : Hp} {o : HO} (k : KeepB x H H1) : KeepB x H (upd H1 x o) := fun a u n h => (upd_ne n).trans (k a u n h)
theorem KeepB.t {K : PySem.W.Frag} {x a : Addr} {H H' : Hp} {xs : List V} (k : KeepB x H H') (h : SqT K H a xs) (n : a ≠ x ∨ ∃ C dx fs, H x = some (.ins C dx fs)) : SqT K H' a xs := by
  have key : ∀ {o : HO}, H a = some o → ((∃ ys, o = .tup ys) ∨ ∃ ob ys, o = .frz ob (.tup ys)) → a ≠ x := fun {o} e d z => by
    rcases n with n | ⟨C, dx, fs, n⟩
    · exact n z
    · rw [z, n] at e
      cases e
      rcases d with ⟨_, d⟩ | ⟨_, _, d⟩ <;> cases d
  rcases h with (h | ⟨o, h⟩) | h
  · exact .inl (.inl (k _ _ (key h (.inl ⟨_, rfl⟩)) h))
  · exact .inl (.inr ⟨o, k _ _ (key h (.inr ⟨_, _, rfl⟩)) h⟩)
  · exact .inr h
theorem put_some {kvs : List (Key × V)} {k j : Key} {v : V} (h : (valV kvs j).isSome = true ∨ k = j) : (valV (putK kvs k v) j).isSome = true := by
  rw [valV_put]
  split
  · rfl
  · rename_i n
    rcases h with h | h
    · exact h
    · exact absurd h.symm n
theorem merge_some : ∀ {more kvs : List (Key × V)} {j : Key}, ((valV kvs j).isSome = true ∨ j ∈ more.map (·.1)) → (valV (mergeK kvs more) j).isSome = true
  | [], kvs, j, h => by
    rcases h with h | h
    · exact h
    · simp at h
  | kv :: more, kvs, j, h => by
    show (valV (mergeK (putK kvs kv.1 kv.2) more) j).isSome = true
    refine merge_some ?_
    rcases h with h | h
    · exact .inl (put_some (.inl h))
    · rcases List.mem_cons.mp (show j ∈ kv.1 :: more.map (·.1) from h) with e | e
      · exact .inl (put_some (.inr e.symm))
      · exact .inr e
theorem paired_map {α β γ δ : Type} {F : α → β → Prop} {G : α → γ → Prop} {f : δ → β} {g : δ → γ} (h : ∀ a d, F a (f d) → G a (g d)) : ∀ {l : List α} {m : List δ}, Paired F l (m.map f) → Paired G l (m.map g)
  | [], [], _ => .nil
  | [], _ :: _, z => by cases z
  | _ :: _, [], z => by cases z
  | _ :: _, _ :: _, z => by
    cases z with
    | cons a b => exact .cons (h _ _ a) (paired_map h b)
theorem kb_tm {K : PySem.W.Frag} {x C dx : Addr} {fs : List (Str × V)} {H H' : Hp} (k : KeepB x H H') (hx : H x = some (.ins C dx fs)) : TM K H H' := fun _ _ h => k.t h (.inr ⟨C, dx, fs, hx⟩)
section
variable {P : Program} {w : World} {K : PySem.W.Frag} {mg : Str → Option Value} {base : Heap}
abbrev N_Ground_init : List Str := ["self", "places", "roads", "stations"]
theorem sc_Ground_init : FnScope N_Ground_init ["self", "places", "roads", "stations"] (defScope s_Ground_init) := ⟨rfl, rfl, rfl, by decide +kernel, rfl, by decide +kernel, by decide +kernel⟩
def grF (aP aR aS D : Addr) : List (Str × V) := [("risks", .ref D), ("places", .ref aP), ("roads", .ref aR), ("stations", .ref aS)]
def sp_Ground_init (K : PySem.W.Frag) : Sp := fun vs H Q _ => ∃ (x dx : Addr) (A : Adr) (g : Gd), vs = [.ref x, .ref A.P, .ref A.R, .ref A.S] ∧ H x = some (.ins (He.ga K "Ground") dx []) ∧ PlT H A.P (A.tP.map V.ref) ∧ GAt K H A g ∧ GOk g ∧ ∀ D H', KeepB x H H' → H' x = some (.ins (He.ga K "Ground") dx (grF A.P A.R A.S D)) → Q .non H'
theorem ok_Ground_init (T : Tx w K mg) (G_need : C8.Cal P w K mg base 1 "need" sp_need []) (G_places_fault : C8.Cal P w K mg base 3 "places_fault" (sp_places_fault K) []) (G_roads_fault : C8.Cal P w K mg base 3 "roads_fault" (sp_roads_fault K) []) (G_stations_fault : C8.Cal P w K mg base 3 "stations_fault" (sp_stations_fault K) []) :
    C8.Mak P w K mg base 4 "Ground" (He.ga K "Ground") (sp_Ground_init K) [] := by
  refine mak_mk T.mk_Ground T.g_Ground T.F_Ground_init sc_Ground_init (fun _ _ _ _ _ _ us hl => match us, hl with | [_, _, _, _], _ => rfl) (fun vs H Q E h => ?_) (fun cdv A0 outer s H vs Q E hr h => ?_)
  · obtain ⟨x, dx, A, g, rfl, _⟩ := h
    rfl
  · obtain ⟨x, dx, A, g, rfl, hx, hP, ga, gok, k⟩ := h
    refine ⟨_, (pss_cons (ps_expr (C8.pe_c G_need hr (by decide) rfl (pa_cons pe_str (pa_cons (C8.pe_c G_places_fault hr (by decide) rfl (pa_cons (pv 1) pa_nil)) pa_nil))))
    (pss_cons (ps_fld (pv 0) (pe_callTy (call_dictT rfl) (by rfl) T.b_dict (by decide +kernel) (pa_cons (pv 1) pa_nil)) rfl)
    (pss_cons (ps_expr (C8.pe_c G_need hr (by decide) rfl (pa_cons pe_str (pa_cons (C8.pe_c G_roads_fault hr (by decide) rfl (pa_cons (pe_fld (pv 0) rfl) (pa_cons (pv 2) pa_nil))) pa_nil))))
    (pss_cons (ps_expr (C8.pe_c G_need hr (by decide) rfl (pa_cons pe_str (pa_cons (C8.pe_c G_stations_fault hr (by decide) rfl (pa_cons (pe_fld (pv 0) rfl) (pa_cons (pv 3) pa_nil))) pa_nil))))
    (pss_cons (ps_fld (pv 0) (pv 1) rfl)
    (pss_cons (ps_fld (pv 0) (pv 2) rfl)
    (pss_one (ps_fld (pv 0) (pv 3) rfl)))))))), ?_⟩
    have hnm : ∀ q ∈ g.places, q.1 ∈ g.names := fun q hq => List.mem_map_of_mem hq
    refine ⟨_, rfl, A.P, A.tP, g.places, rfl, hP.sq, ga.ps, gok.p1, gok.p40, gok.nd, fun q hq => ⟨gok.nm _ (hnm q hq), gok.risk q hq⟩, fun H1 e1 => ⟨_, rfl, ?_⟩⟩
    have hpr : Paired (fun (p : Addr) (kv : Key × V) => SqT K H1 p [kV kv.1, kv.2]) A.tP (g.places.map fun q => ((.inr q.1 : Key), V.int q.2)) :=
      paired_map (f := encP) (g := fun q : Str × Int => ((.inr q.1 : Key), V.int q.2)) (fun a d (z : SqT K H a (encP d)) => SqT.ext z e1) ga.ps
    refine ⟨_, rfl, A.P, A.tP, _, rfl, hP.ext e1, hpr, fun D hD => ?_⟩
    generalize hg2 : upd H1 D _ = H2
    obtain ⟨e2, h2, _⟩ := newF hD hg2
    have E2 := e1.trans e2
    refine ⟨_, rfl, x, _, dx, _, rfl, E2 _ _ hx, T.c_Ground, T.n_Ground_risks, by decide, ?_⟩
    have nDx : D ≠ x := (ne_of_none (e1 _ _ hx) hD).symm
    generalize hg3 : upd H2 x _ = H3
    have k3 : KeepB x H H3 := by rw [← hg3]; exact KeepB.upd (KeepB.ext (KeepB.refl _ _) E2)
    have h3 : H3 x = some (.ins (He.ga K "Ground") dx [("risks", .ref D)]) := by rw [← hg3]; exact upd_same
    have hD3 := (show H3 D = H2 D by rw [← hg3]; exact upd_ne nDx).trans h2
    have tm3 := kb_tm (K := K) k3 hx
    have some_ : ∀ y ∈ g.names, (valV (mergeK [] (g.places.map fun q => ((.inr q.1 : Key), V.int q.2))) (.inr y)).isSome = true := fun y hy => merge_some (.inr (by
      obtain ⟨q, hq, rfl⟩ := List.mem_map.mp hy
      rw [List.map_map]
      exact List.mem_map.mpr ⟨q, hq, rfl⟩))
    refine ⟨_, rfl, x, _, dx, _, _, rfl, h3, T.c_Ground, T.n_Ground_risks, rfl, _, rfl, D, A.R, A.tR, _, g.roads, rfl, tm3 _ _ ga.r, ga.rs.tm tm3, gok.r80, hD3, fun r hr' => ?_, gok.pw, fun H4 e4 => ⟨_, rfl, ?_⟩⟩
    · obtain ⟨a, b, c, d⟩ := gok.road r hr'
      exact ⟨some_ _ a, some_ _ b, c, d⟩
    have k4 := k3.ext e4
    have h4 := e4 _ _ h3
    have tm4 := kb_tm (K := K) k4 hx
    refine ⟨_, rfl, x, _, dx, _, _, rfl, h4, T.c_Ground, T.n_Ground_risks, rfl, _, rfl, D, A.S, _, g.stations, rfl, tm4 _ _ ga.s, gok.s12, e4 _ _ hD3, fun y hy => some_ _ (gok.st y hy), gok.sd, fun H5 e5 => ⟨_, rfl, ?_⟩⟩
    have k5 := k4.ext e5
    have h5 := e5 _ _ h4
    refine ⟨_, rfl, _, rfl, x, _, dx, _, rfl, h5, T.c_Ground, T.n_Ground_places, (Nat.le_of_ble_eq_true rfl), ?_⟩
    refine ⟨_, rfl, _, rfl, x, _, dx, _, rfl, upd_same, T.c_Ground, T.n_Ground_roads, (Nat.le_of_ble_eq_true rfl), ?_⟩
    refine ⟨_, rfl, _, rfl, x, _, dx, _, rfl, upd_same, T.c_Ground, T.n_Ground_stations, (Nat.le_of_ble_eq_true rfl), ?_⟩
    exact k D _ ((k5.upd).upd.upd) upd_same
end
end K36
/-! text KR4 -/
/-! rows.py and room.py: the making of rows and rooms -/
namespace K36
open PySem PySem.Spec PyProof.Rows L2
open LamX (Tabs TabS TabB ExtN CodeO)
section
variable {P : Program} {w : World} {K : PySem.W.Frag} {mg : Str → Option Value} {base : Heap}
abbrev N_Row_init : List Str := ["self", "number", "written", "at", "deed", "right"]
theorem sc_Row_init : FnScope N_Row_init ["self", "number", "written", "at", "deed", "right"] (defScope s_Row_init) := ⟨rfl, rfl, rfl, by decide +kernel, rfl, by decide +kernel, by decide +kernel⟩
def sp_Row_init (K : PySem.W.Frag) : Sp := fun vs H Q _ => ∃ (x dx : Addr) (r : RowD), vs = [.ref x, .int r.n, .int r.written, .int r.at_, .ref r.dA, .int r.right] ∧ H x = some (.ins (He.ga K "Row") dx []) ∧ ∀ H', KeepB x H H' → H' x = some (.ins (He.ga K "Row") dx (rwF r)) → Q .non H'
theorem ok_Row_init (T : Tx w K mg) :
    FnM P w K mg base 1 "__init__" "Row.__init__" (defArgs s_Row_init) (defBody s_Row_init) (defScope s_Row_init) [.int 0] (He.ma K (He.ga K "Row") "__init__") ["self", "number", "written", "at", "deed", "right"] (sp_Row_init K) := by
  refine fnM_mk T.F_Row_init sc_Row_init (fun vs H Q E h => ?_) (fun cdv A0 outer s H vs Q E hr h => ?_)
  · obtain ⟨x, dx, r, rfl, _⟩ := h
    rfl
  · obtain ⟨x, dx, r, rfl, hx, k⟩ := h
    refine ⟨_, (pss_cons (ps_fld (pv 0) (pv 1) rfl)
    (pss_cons (ps_fld (pv 0) (pv 2) rfl)
    (pss_cons (ps_fld (pv 0) (pv 3) rfl)
    (pss_cons (ps_fld (pv 0) (pv 4) rfl)
    (pss_one (ps_fld (pv 0) (pv 5) rfl)))))), ?_⟩
    refine ⟨_, rfl, _, rfl, x, _, dx, _, rfl, hx, T.c_Row, T.n_Row_number, (Nat.le_of_ble_eq_true rfl), ?_⟩
    refine ⟨_, rfl, _, rfl, x, _, dx, _, rfl, upd_same, T.c_Row, T.n_Row_written, (Nat.le_of_ble_eq_true rfl), ?_⟩
    refine ⟨_, rfl, _, rfl, x, _, dx, _, rfl, upd_same, T.c_Row, T.n_Row_at, (Nat.le_of_ble_eq_true rfl), ?_⟩
    refine ⟨_, rfl, _, rfl, x, _, dx, _, rfl, upd_same, T.c_Row, T.n_Row_deed, (Nat.le_of_ble_eq_true rfl), ?_⟩
    refine ⟨_, rfl, _, rfl, x, _, dx, _, rfl, upd_same, T.c_Row, T.n_Row_right, (Nat.le_of_ble_eq_true rfl), ?_⟩
    exact k _ ((KeepB.refl _ _).upd.upd.upd.upd.upd) upd_same
theorem mak_Row (T : Tx w K mg) : MakN P w K mg base 1 "Row" (He.ga K "Row") (sp_Row_init K) 4 ["right"] (fun vs zs => vs ++ zs) := FnM.makN (ok_Row_init T) T.mk_Row T.g_Row 4 ["right"] (by simp) fun T kV doc pm an cdv ct us its ws h1 h2 h3 => match us, its, ws, h1, h2, h3 with | [_, _, _, _, _], [_], [_], _, _, _ => ⟨_, rfl, rfl⟩
theorem wrF {H H1 : Hp} {x : Addr} {o : HO} (hg : upd H x o = H1) : H1 x = some o ∧ ∀ a, a ≠ x → H1 a = H a := by
  subst hg
  exact ⟨upd_same, fun a n => upd_ne n⟩
abbrev N_Room_init : List Str := ["self", "ground", "engines"]
theorem sc_Room_init : FnScope N_Room_init ["self", "ground", "engines"] (defScope s_Room_init) := ⟨rfl, rfl, rfl, by decide +kernel, rfl, by decide +kernel, by decide +kernel⟩
def sp_Room_init (K : PySem.W.Frag) : Sp := fun vs H Q _ => ∃ (x dx go E : Addr) (ts : List Addr) (es : List Eng) (P R S D : Addr) (st : List Str), vs = [.ref x, .ref go, .ref E] ∧ H x = some (.ins (He.ga K "Room") dx []) ∧ GObj K H go P R S D ∧ SqT K H S (st.map V.str) ∧ SqT K H E (ts.map V.ref) ∧ Rows K H ts (es.map encE) ∧ es.length ≤ 24 ∧ (es.map (·.1)).Nodup ∧ (∀ e ∈ es, EngOk st e) ∧
  ∀ (kA fA dA : Addr) H', KeepB x H H' → H' x = some (.ins (He.ga K "Room") dx (rmF go E kA fA dA)) → H' kA = some (.lst []) → H' fA = some (.dK []) → H' dA = some (.dK []) → H kA = none → H fA = none → H dA = none → fA ≠ dA → Q .non H'
theorem ok_Room_init (T : Tx w K mg) (G_are_engines : C8.Cal P w K mg base 3 "are_engines" (sp_are_engines K) []) :
    C8.Mak P w K mg base 4 "Room" (He.ga K "Room") (sp_Room_init K) [] := by
  refine mak_mk T.mk_Room T.g_Room T.F_Room_init sc_Room_init (fun _ _ _ _ _ _ us hl => match us, hl with | [_, _, _], _ => rfl) (fun vs H Q E h => ?_) (fun cdv A0 outer s H vs Q E hr h => ?_)
  · obtain ⟨x, dx, go, aE, ts, es, aP, aR, aS, aD, st, rfl, _⟩ := h
    rfl
  · obtain ⟨x, dx, go, aE, ts, es, aP, aR, aS, aD, st, rfl, hx, hg, hS, hE, hrs, h24, nd, hq, k⟩ := h
    refine ⟨_, (pss_cons (ps_if (pt_not (pt_val (C8.pe_c G_are_engines hr (by decide) rfl (pa_cons (pv 1) (pa_cons (pv 2) pa_nil)))))
      (pss_one ps_never)
      pss_nil)
    (pss_cons (ps_fld (pv 0) (pv 1) rfl)
    (pss_cons (ps_fld (pv 0) (pv 2) rfl)
    (pss_cons (ps_fld (pv 0) (pe_lst pa_nil) rfl)
    (pss_cons (ps_fld (pv 0) pe_dnewK rfl)
    (pss_one (ps_fld (pv 0) pe_dnewK rfl))))))), ?_⟩
    refine ⟨_, rfl, _, rfl, go, aE, ts, es, aP, aR, aS, aD, st, rfl, hg, hS, hE, hrs, h24, nd, hq, fun H1 e1 => ⟨_, rfl, iteF ?_⟩⟩
    refine ⟨_, rfl, _, rfl, x, _, dx, _, rfl, e1 _ _ hx, T.c_Room, T.n_Room_ground, (Nat.le_of_ble_eq_true rfl), ?_⟩
    refine ⟨_, rfl, _, rfl, x, _, dx, _, rfl, upd_same, T.c_Room, T.n_Room_engines, (Nat.le_of_ble_eq_true rfl), ?_⟩
    have k3 : ∀ o u, KeepB x H (upd (upd H1 x o) x u) := fun _ _ => (KeepB.ext (KeepB.refl _ _) e1).upd.upd
    have h3 : (upd (upd H1 x (.ins (He.ga K "Room") dx (putF "ground" (.ref go) []))) x (.ins (He.ga K "Room") dx (putF "engines" (.ref aE) (putF "ground" (.ref go) [])))) x = some (.ins (He.ga K "Room") dx [("ground", .ref go), ("engines", .ref aE)]) := upd_same
    have k3 := k3 (.ins (He.ga K "Room") dx (putF "ground" (.ref go) [])) (.ins (He.ga K "Room") dx (putF "engines" (.ref aE) (putF "ground" (.ref go) [])))
    generalize (upd (upd H1 x (.ins (He.ga K "Room") dx (putF "ground" (.ref go) []))) x (.ins (He.ga K "Room") dx (putF "engines" (.ref aE) (putF "ground" (.ref go) [])))) = H3 at k3 h3 ⊢
    have none0 : ∀ {Hn : Hp} {a : Addr}, KeepB x H Hn → a ≠ x → Hn a = none → H a = none := fun {Hn a} kb z ha => by
      cases q : H a with
      | none => rfl
      | some o => rw [kb _ _ z q] at ha; cases ha
    refine ⟨sz rfl, fun kA hkA => ?_⟩
    generalize hg4 : upd H3 kA _ = H4
    obtain ⟨e4, h4, _⟩ := newF hkA hg4
    have nkx : kA ≠ x := (ne_of_none h3 hkA).symm
    have k4 := k3.ext e4
    refine ⟨_, rfl, x, _, dx, _, rfl, e4 _ _ h3, T.c_Room, T.n_Room_kept, (Nat.le_of_ble_eq_true rfl), ?_⟩
    generalize hg5 : upd H4 x _ = H5
    obtain ⟨h5, f5⟩ := wrF hg5
    have k5 : KeepB x H H5 := by rw [← hg5]; exact k4.upd
    have h5k : H5 kA = some (.lst []) := (f5 _ nkx).trans h4
    refine fun fA hfA => ?_
    generalize hg6 : upd H5 fA _ = H6
    obtain ⟨e6, h6, _⟩ := newF hfA hg6
    have nfx : fA ≠ x := (ne_of_none h5 hfA).symm
    have k6 := k5.ext e6
    refine ⟨_, rfl, x, _, dx, _, rfl, e6 _ _ h5, T.c_Room, T.n_Room_first, (Nat.le_of_ble_eq_true rfl), ?_⟩
    generalize hg7 : upd H6 x _ = H7
    obtain ⟨h7, f7⟩ := wrF hg7
    have k7 : KeepB x H H7 := by rw [← hg7]; exact k6.upd
    have h7k : H7 kA = some (.lst []) := (f7 _ nkx).trans (e6 _ _ h5k)
    have h7f : H7 fA = some (.dK []) := (f7 _ nfx).trans h6
    refine fun dA hdA => ?_
    generalize hg8 : upd H7 dA _ = H8
    obtain ⟨e8, h8, _⟩ := newF hdA hg8
    have ndx : dA ≠ x := (ne_of_none h7 hdA).symm
    have k8 := k7.ext e8
    refine ⟨_, rfl, x, _, dx, _, rfl, e8 _ _ h7, T.c_Room, T.n_Room_dead, (Nat.le_of_ble_eq_true rfl), ?_⟩
    exact k kA fA dA _ k8.upd upd_same ((upd_ne nkx).trans (e8 _ _ h7k)) ((upd_ne nfx).trans (e8 _ _ h7f)) ((upd_ne ndx).trans h8) (none0 k3 nkx hkA) (none0 k5 nfx hfA) (none0 k7 ndx hdA) (ne_of_none h7f hdA)
end
end K36
/-! text KMax -/
/-! max(xs, default=d) of ints -/
namespace K36
open PySem PySem.Spec PyProof.Rows L2
def maxOf (d : Int) : List Int → Int
  | [] => d
  | n :: r => r.foldl max n
theorem maxOf_le {d b : Int} (hd : d ≤ b) : ∀ {l : List Int}, (∀ x ∈ l, x ≤ b) → maxOf d l ≤ b
  | [], _ => hd
  | n :: r, h => by
    show r.foldl max n ≤ b
    have : ∀ (r : List Int) (n : Int), n ≤ b → (∀ x ∈ r, x ≤ b) → r.foldl max n ≤ b := by
      intro r
      induction r with
      | nil => intro n h _; exact h
      | cons x r ih => intro n h hx; exact ih _ (by have := hx x (List.mem_cons_self ..); omega) fun y hy => hx y (List.mem_cons_of_mem _ hy)
    exact this r n (h n (List.mem_cons_self ..)) fun x hx => h x (List.mem_cons_of_mem _ hx)
def rMaxDef (K : PySem.W.Frag) : List V → List V → Hp → VK → Prop := fun vs zs H Q => ∃ (a : Addr) (ns : List Int) (d : Int), vs = [V.ref a] ∧ zs = [V.int d] ∧ SqL K H a (ns.map V.int) ∧ Q (.int (maxOf d ns)) H
section
variable {X : Cx}
theorem depthAll_ints : ∀ ns : List Int, PyData.depthAll (ns.map .int) = 0
  | [] => rfl
  | n :: r => by
    have := depthAll_ints r
    show Nat.max (PyData.depth (.int n)) (PyData.depthAll (r.map .int)) = 0
    rw [this]; rfl
theorem alikeAll_ints (ns : List Int) : W.AlikeAll (ns.map .int) := by
  refine ⟨fun x hx y hy => ?_, fun x hx => ?_⟩
  · obtain ⟨i, _, rfl⟩ := List.mem_map.mp hx
    obtain ⟨j, _, rfl⟩ := List.mem_map.mp hy
    rfl
  · obtain ⟨i, _, rfl⟩ := List.mem_map.mp hx
    intro z; cases z
theorem cr_maxDef (hu : X.A.units + 65 < cLine) (hc : X.calm = true) : CallRK X (.builtin "max") [Str.ofString "default"] (rMaxDef X.K) := by
  intro pins s σ H vs zs us ws Q I r rz h
  obtain ⟨a, ns, d, rfl, rfl, hs, q⟩ := h
  obtain ⟨its, rv, hl, _⟩ := I.list hs
  rw [Vals.ref1 r]
  obtain ⟨w1, rfl, e1⟩ := vals1 rz
  refine W.max_list_default (I.ok.hd hc) hl.isList (rv.ints.reads s.heap) (alikeAll_ints ns) (by rw [depthAll_ints]; omega) (fun hn h' tk hk => ?_) (fun y ys i v h' tk bs e hv hrd hk => ?_)
  · have : ns = [] := List.map_eq_nil_iff.mp hn
    subst this
    exact ⟨.int d, H, I.kept hk, e1, q⟩
  · cases ns with
    | nil => cases e
    | cons n r =>
      rw [List.map_cons] at e
      obtain ⟨rfl, rfl⟩ := List.cons.inj e
      rw [W.maxD_ints] at hrd
      cases hrd with
      | int _ t => exact ⟨.int (r.foldl max n), H, I.kept hk, ⟨_, rfl⟩, q⟩
end
end K36
/-! text KR5 -/
/-! room.py: what may be written -/
namespace K36
open PySem PySem.Spec PyProof.Rows L2
open LamX (Tabs TabS TabB ExtN CodeO)
section
variable {P : Program} {w : World} {K : PySem.W.Frag} {mg : Str → Option Value} {base : Heap}
abbrev N_Room_look_minutes : List Str := ["self", "written", "at", "row"]
theorem sc_Room_look_minutes : FnScope N_Room_look_minutes ["self", "written", "at"] (defScope s_Room_look_minutes) := ⟨rfl, rfl, rfl, by decide +kernel, rfl, by decide +kernel, by decide +kernel⟩
def sp_look_minutes (K : PySem.W.Frag) (T : List (Addr × Str)) : Sp := fun vs H Q _ => ∃ (c : RoomC) (A : Adr) (g : Gd) (es : List Eng) (ps : List Addr) (rr : List RR) (wr at_ : Int), vs = [.ref c.ro, .int wr, .int at_] ∧ RoomAt K T H c A g es ps rr ∧ RoomP g es rr ∧
  0 ≤ at_ ∧ at_ ≤ wr ∧ wr ≤ 9999 ∧ (∀ q ∈ rws rr, q.written ≤ wr) ∧ ∀ H', Ext H H' → Q .non H'
theorem ok_look_minutes (T : Tx w K mg) {Tb : List (Addr × Str)} (G_is_whole : C8.Cal P w K mg base 1 "is_whole" sp_is_whole []) : C8.Met P w K mg base 2 (He.ga K "Room") "look_minutes" (sp_look_minutes K Tb) [] := by
  refine met_mk T.c_Room T.m_Room_look_minutes T.F_Room_look_minutes sc_Room_look_minutes (fun _ _ _ _ _ _ us hl => match us, hl with | [_, _, _], _ => rfl) (fun vs H Q E h => ?_) (fun cdv A0 outer s H vs Q E hr h => ?_)
  · obtain ⟨c, A, g, es, ps, rr, wr, at_, rfl, _⟩ := h
    rfl
  · obtain ⟨c, A, g, es, ps, rr, wr, at_, rfl, hR, hP, h0, h1, h2, hw, k⟩ := h
    refine ⟨_, (pss_cons (ps_if (PW.pt (pw_or (pt_not (pt_val (C8.pe_c G_is_whole hr (by decide) rfl (pa_cons (pv 1) (pa_cons pe_int (pa_cons (C8.pe_gc rfl T.k_LAST_MINUTE) pa_nil)))))) (pw_or1 (pt_not (pt_val (C8.pe_c G_is_whole hr (by decide) rfl (pa_cons (pv 2) (pa_cons pe_int (pa_cons (pv 1) pa_nil)))))))))
      (pss_one ps_never)
      pss_nil)
    (pss_one (ps_if (pt_cmpR op_lt (pv 1) (pe_callBK (cr_maxDef (hu65 hr) rfl) (by rfl) T.b_max (by decide +kernel) (pa_cons (pe_lc (own := [("row", 3)]) (g := (gName 3)) (tt := tYes) rfl sc_Room_look_minutes.nd (pi_list (pe_fld (pv 0) rfl)) (blkOk_by (N := N_Room_look_minutes) (sc := defScope s_Room_look_minutes) (by decide +kernel)) (fun _ _ _ _ _ => (pg_name (i := 3) sc_Room_look_minutes.nd rfl (Or.inl rfl))) (fun _ _ _ _ _ => pts_nil) (fun _ _ _ _ _ => (pe_fldK K (pv 3) rfl))) pa_nil) (pk_cons pe_int pk_nil)) (nomark _))
      (pss_one ps_never)
      pss_nil))), ?_⟩
    have d1 : decide ((0 : Int) ≤ wr ∧ wr ≤ 9999) = true := decide_eq_true ⟨by omega, h2⟩
    have d2 : decide ((0 : Int) ≤ at_ ∧ at_ ≤ wr) = true := decide_eq_true ⟨h0, h1⟩
    refine ⟨_, rfl, wr, 0, 9999, rfl, _, rfl, ?_⟩
    rw [d1]
    refine iteF ⟨_, rfl, _, rfl, at_, 0, wr, rfl, _, rfl, ?_⟩
    rw [d2]
    refine iteF ?_
    refine ⟨_, rfl, _, rfl, c.ro, _, c.dx, _, _, rfl, hR.x, T.c_Room, T.n_Room_kept, rfl, c.kA, rfl, ⟨_, SqL.of hR.kept⟩, fun D hD => ?_⟩
    have hps := hR.plen
    have hlen := hP.len
    refine lc_list (xs := ps.map V.ref) (fun i H' => Ext H H' ∧ H' D = some (.lst ((((rws rr).take i).map (·.written)).map V.int))) ⟨Ext.upd hD, upd_same⟩ (fun i H' _ ⟨e, _⟩ => SqL.of (e _ _ hR.kept)) ?_ ?_
    · rintro i y H2 hy ⟨e, hDD⟩
      obtain ⟨p, hp, rfl⟩ := map_at hy
      obtain ⟨q, hq, ⟨dxr, hrow⟩, _⟩ := hR.at hp
      have hqr : (rws rr)[i]? = some q.1 := by unfold rws; rw [List.getElem?_map, hq]; rfl
      have hi' := (List.getElem?_eq_some_iff.mp hq).1
      refine ⟨rfl, _, rfl, p, _, dxr, _, _, rfl, e _ _ hrow, T.c_Row, T.n_Row_written, rfl, ?_⟩
      refine ⟨_, hDD, szl (by rw [List.length_map, List.length_map, List.length_take]; omega), updE e hD, ?_⟩
      rw [upd_same, List.take_add_one, hqr, List.map_append, List.map_append]; rfl
    · rintro H2 ⟨e, hDD⟩
      rw [List.length_map, hps, ← rws_len rr, List.take_length] at hDD
      refine ⟨D, _, 0, rfl, rfl, SqL.of hDD, ?_⟩
      have hm : maxOf 0 ((rws rr).map (·.written)) ≤ wr := maxOf_le (by omega) fun x hx => by
        obtain ⟨q, hq, rfl⟩ := List.mem_map.mp hx
        exact hw q hq
      refine ⟨_, _, rfl, rfl, _, rfl, ?_⟩
      rw [decide_eq_false (show ¬ wr < maxOf 0 ((rws rr).map (·.written)) by omega)]
      exact iteF (k _ e)
abbrev N_Room_look_right : List Str := ["self", "right"]
theorem sc_Room_look_right : FnScope N_Room_look_right ["self", "right"] (defScope s_Room_look_right) := ⟨rfl, rfl, rfl, by decide +kernel, rfl, by decide +kernel, by decide +kernel⟩
def sp_look_right (K : PySem.W.Frag) (T : List (Addr × Str)) : Sp := fun vs H Q _ => ∃ (c : RoomC) (A : Adr) (g : Gd) (es : List Eng) (ps : List Addr) (rr : List RR) (ri : Int), vs = [.ref c.ro, .int ri] ∧ RoomAt K T H c A g es ps rr ∧ RoomP g es rr ∧
  0 ≤ ri ∧ ri ≤ rr.length ∧ ri ∉ deadOf (rws rr) ∧ Q .non H
theorem ok_look_right (T : Tx w K mg) {Tb : List (Addr × Str)} (G_is_whole : C8.Cal P w K mg base 1 "is_whole" sp_is_whole []) : C8.Met P w K mg base 2 (He.ga K "Room") "look_right" (sp_look_right K Tb) [] := by
  refine met_mk T.c_Room T.m_Room_look_right T.F_Room_look_right sc_Room_look_right (fun _ _ _ _ _ _ us hl => match us, hl with | [_, _], _ => rfl) (fun vs H Q E h => ?_) (fun cdv A0 outer s H vs Q E hr h => ?_)
  · obtain ⟨c, A, g, es, ps, rr, ri, rfl, _⟩ := h
    rfl
  · obtain ⟨c, A, g, es, ps, rr, ri, rfl, hR, hP, h0, h1, h2, k⟩ := h
    refine ⟨_, (pss_one (ps_if (PW.pt (pw_or (pt_not (pt_val (C8.pe_c G_is_whole hr (by decide) rfl (pa_cons (pv 1) (pa_cons pe_int (pa_cons (pe_callB call_len_seq (by rfl) T.b_len (by decide +kernel) (pa_cons (pe_fld (pv 0) rfl) pa_nil)) pa_nil)))))) (pw_or1 (pt_cmp (pc_din (hu_of hr) (pv 1) (pe_fld (pv 0) rfl))))))
      (pss_one ps_never)
      pss_nil)), ?_⟩
    have d1 : decide ((0 : Int) ≤ ri ∧ ri ≤ ((ps.map V.ref).length : Nat)) = true := decide_eq_true ⟨h0, by rw [List.length_map, hR.plen]; exact h1⟩
    refine ⟨_, rfl, _, rfl, c.ro, _, c.dx, _, _, rfl, hR.x, T.c_Room, T.n_Room_kept, rfl, c.kA, _, rfl, .inl (SqL.of hR.kept), ri, 0, _, rfl, _, rfl, ?_⟩
    rw [d1]
    refine iteF ?_
    refine ⟨_, rfl, _, rfl, c.ro, _, c.dx, _, _, rfl, hR.x, T.c_Room, T.n_Room_dead, rfl, ?_⟩
    refine ⟨c.dA, _, rfl, .inl ⟨dedK rr, .inl ri, .inl hR.dead, rfl, rfl⟩, _, rfl, ?_⟩
    unfold dedK
    rw [valV_keys, decide_eq_false h2]
    exact iteF k
end
end K36
/-! text KExc -/
/-! an own exception class over RuntimeError whose __init__ is walked as a def -/
namespace K36
open PySem PySem.Spec PyProof.Rows L2
open PySem.HandSPX (store_in_new)
abbrev reTail : List Value := [.type "RuntimeError", .type "Exception", .type "BaseException", .type "object"]
/-- what the written part says of the class -/
structure OexR (K : PySem.W.Frag) (C : Addr) : Prop where
  cls : ∃ nm q N bs sn sub ab col dd k0 k1 k2 k3 k5, K.lookup C = some (excClassObj nm q C N bs reTail true sn sub ab col dd k0 k1 k2 k3 k5 "RuntimeError.__new__")
  sa : PySem.W.findIn K (.ref C) "__setattr__" = some (some (.builtin "object.__setattr__"))
  exC : PySem.W.subIn K (.ref C) (.type "BaseException") = some true
  tyC : PySem.W.typeIn K (.ref C) = some (.type "type")
  kC : PySem.W.keepIn K (.ref C) = true
section
open Builtin Builtin.ObjectAttr
variable {prog : Program} {w : World} {A : Around} {E : Value → Shared → Prop} {R : Result → Shared → Prop} {hp : Heap} {g : Array GenState} {d : Drawn} {t : Nat} {os : OsState}
theorem re_pass (self : Value) (C : Addr) : refuseLoop self "__setattr__" (.ref C :: reTail) = pure () := by
  rw [refuseLoop_ref]
  exact F.store_RuntimeError.passes self
theorem re_osa {K : W.Frag} {name : Str} {tk : Tok} {v : Value} {x C : Addr} {fv : Array Value} {cd : ClassData}
    (X : K.In hp) (hx : hp.get? x = some { cls := .ref C, data := .fields fv }) (hcd : W.clsIn K C = some cd) (hm : cd.mro = .ref C :: reTail) (hh : cd.hasDict = true) (ha : W.findIn K (.ref C) name = some none)
    (hq : ∀ h' tk' dx, (∀ b o, b ≠ x → hp.get? b = some o → h'.get? b = some o) → hp.objs.size ≤ dx → dx ≠ x → h'.get? x = some { cls := .ref C, dict := some dx, data := .fields fv } →
      h'.Ns1 dx (fun y => if y = name then some v else none) → R (.ok (.ret .none)) ⟨h', g, d, tk', os⟩) :
    codeAny (model prog w) A (.call (.builtin "object.__setattr__") ⟨[.ref x, .str name tk, v], []⟩) R ⟨hp, g, d, t, os⟩ := by
  have I : W.InstAt hp x { cls := .ref C, data := .fields fv } C none := ⟨hx, rfl, rfl, trivial⟩
  have SF := F.store_object
  have hob : cd.mro.contains (.type "object") = true := by rw [hm, List.contains_cons]; exact (Bool.or_eq_true _ _).mpr (.inr (by decide +kernel))
  have ne : cd.mro.isEmpty = false := by rw [hm]; rfl
  have hxs : x ≠ hp.objs.size := Nat.ne_of_lt (Heap.lt_size hx)
  have sub : W.Looks (model prog w) hp (isInstance (.ref x) (.type "object")) true := I.type.andThen (W.looks_mroIn X (by unfold W.mroIn; rw [hcd, Option.bind_some, if_neg (by rw [ne]; decide), hob]))
  refine codeAny_call_builtin SF.slot.plain SF.entry (@W.check_slot (model prog w) _ _ ⟨hp, g, d, t, os⟩ "object.__setattr__" "object" "__setattr__" (.ref x) [.str name tk, v] [] _ SF.kind SF.split sub (SF.args (.ref x) (.str name tk) v) ?_)
  have hmr : W.Looks (model prog w) hp (mroOf (.ref C)) cd.mro := (W.looks_clsIn X hcd).andThen .now
  have L3 : W.Looks (model prog w) hp (storeTaker? none) none := .now
  have hcls : W.Looks (model prog w) hp (classData C) cd := W.looks_clsIn X hcd
  rw [W.osa_eq, refuse_eq]
  refine wpAny_bind (wpAny_bind (I.type.at (wpAny_bind (hmr.at ?_))))
  rw [hm, re_pass]
  refine wpAny_pure (wpAny_bind (I.type.at (wpAny_bind ((W.looks_findIn X ha).at (wpAny_bind (L3.at ?_))))))
  show wpAny _ _ (storeInOwnDict (.ref x) (.ref C) (.str name tk) name v false) _ _ _
  obtain ⟨nm, bs, mro, ns, qn, hd, sn, sb, ab, col, del⟩ := cd
  dsimp only at hh
  subst hh
  unfold storeInOwnDict ownDictForStores
  repeat (first | with_reducible refine store_in_new ?_ ?_ | with_reducible refine wpAny_loadPart_at hx ?_ | with_reducible refine hcls.at ?_ | wp_step)
  · exact ⟨_, #[], _, (Heap.get?_update_ne _ _ _ _ hxs.symm).trans (Heap.get?_push_at rfl rfl), rfl, fun e he => absurd he (by simp), fun _ => rfl⟩
  · intro h' tk' hn' hs
    have hx₁ : (hp.push { cls := .type "dict", data := .dict #[] }).get? x = some { cls := .ref C, data := .fields fv } := Heap.get?_push_of_some _ hx
    refine hq h' tk' hp.objs.size (fun b o hb ho => ?_) (Nat.le_refl _) hxs.symm ?_ hn'
    · exact (hs.2 b (Nat.ne_of_lt (Heap.lt_size ho))).trans ((Heap.get?_update_ne _ _ _ _ hb).trans (Heap.get?_push_of_some _ ho))
    · exact (hs.2 x hxs).trans (Heap.get?_update_self _ hx₁ rfl)
end
theorem typ_RE : typeOf (.type "RuntimeError") = pure (.type "type") := by kernel_rfl
theorem re_contains {bm : List Value} (h : bm = reTail) (Y : String) : bm.contains (.type Y) = ([.type "RuntimeError", .type "Exception", .type "BaseException", .type "object"] : List Value).contains (.type Y) := by rw [h]
section
variable {X : Cx} {pins : List (Addr × Obj)} {σ : L2.St} {H : Hp} {s : Shared} {a C dx : Addr} {f : Str} {y : V} {u : Value} {fs : List (Str × V)} {Q : Unit → Shared → Prop} {E : Value → Shared → Prop} {A : Around}
/-- self.f = y, the first one -/
theorem re_ost (T : OexR X.K C) (I : Inv X pins σ H s) (e : H a = some (exo a C none)) (hno : PySem.W.findIn X.K (.ref C) f = some none) (ry : RelV y u)
    (h : ∀ dx s', H dx = none → dx ≠ a → Inv X pins σ (upd (upd H dx (exd dx [(f, y)])) a (exo a C (some dx))) s' → Q () s') : wpAny (model X.prog X.w) A (setAttr (.ref a) f u) Q E s := by
  obtain ⟨nm, q, N, bs, sn, sub, ab, col, dd, k0, k1, k2, k3, k5, hC⟩ := T.cls
  have hcl : PySem.W.clsIn X.K C = some { name := nm, bases := bs, mro := .ref C :: reTail, ns := N, qualname := q, hasDict := true, slotNames := sn, subclasses := sub, abstract := ab, collection := col, hasDel := false } := by unfold PySem.W.clsIn; rw [hC] <;> rfl
  obtain ⟨t1, ho⟩ := exo_at I.hok e
  obtain ⟨hp, g, d, t, os⟩ := s
  refine PySem.W.set_plain I.kIn (ox := { cls := .ref C, dict := none, data := .fields #[.ref t1, .none, .none, .none, .bool false, .none] }) (od := none) ⟨ho, rfl, rfl, trivial⟩ T.sa ?_
  refine re_osa I.kIn ho hcl rfl rfl hno (fun h' tk' dx k dn dne hx hn => ?_)
  have hnd : H dx = none := I.hok.fresh dn
  have nd : ∀ {b : Addr} {o : Obj}, hp.get? b = some o → b ≠ dx := fun {b o} q => Nat.ne_of_lt (Nat.lt_of_lt_of_le (Heap.lt_size q) dn)
  have na : ∀ {b : Addr}, H b = none → b ≠ a := fun {b} n z => by
    rw [z, e] at n
    cases n
  have Un1 : Un X.fs [] H (upd (upd H dx (exd dx [(f, y)])) a (exo a C (some dx))) hp h' := {
    keep := fun b o q n _ _ => k b o (na n) q
    slot := fun b o q n _ _ => ⟨o.slots, k b o (na n) q⟩
    free := fun b o q n _ => by rw [upd_ne (na n), upd_ne (nd q)]; exact n
    there := fun b o q _ => by
      by_cases hb : b = a
      · exact ⟨_, by rw [hb]; exact hx⟩
      · exact ⟨o, k b o hb q⟩
    tups := fun b xs q => by rw [upd_ne (at_ne e q exo_tup), upd_ne (ne_of_none q hnd)]; exact q
    frzs := fun b o v q => by rw [upd_ne (at_ne e q exo_frz), upd_ne (ne_of_none q hnd)]; exact q
    tbls := fun b ps q => ⟨#[], by rw [upd_ne (at_ne e q exo_tbl), upd_ne (ne_of_none q hnd), q]; simp⟩ }
  refine h dx _ hnd dne (I.un (t' := tk') Un1 fun b o q => ?_)
  by_cases hb : b = a
  · subst hb
    rw [upd_same] at q
    cases q
    exact exo_ok hx
  · rw [upd_ne hb] at q
    by_cases hd : b = dx
    · subst hd
      rw [upd_same] at q
      cases q
      exact exd_ok hn (relO_put (fs := []) ry fun g => True.intro)
    · rw [upd_ne hd] at q
      exact (I.hok b o q).stay (fun c v hc z => k c v (by
          rcases hc with hc | hc
          · rw [hc]
            exact hb
          · exact at_ne e hc exo_own) z)
        (fun c hc => by rw [upd_ne (at_ne e hc exo_own), upd_ne (ne_of_none hc hnd)]; exact hc) (fun c xs hc => by rw [upd_ne (at_ne e hc exo_tup), upd_ne (ne_of_none hc hnd)]; exact hc)
/-- RuntimeError.__init__(self, ..): nothing of it is told -/
theorem re_oinit {us : List Value} {Q : Value → Shared → Prop} (T : OexR X.K C) (I : Inv X pins σ H s) (e : H a = some (exo a C none)) (hl : us.length ≤ sizeLine) (h : ∀ s', Inv X pins σ H s' → Q .none s') :
    wpAny (model X.prog X.w) A (call (.builtin "RuntimeError.__init__") (.ref a :: us)) Q E s := by
  obtain ⟨nm, q, N, bs, sn, sub, ab, col, dd, k0, k1, k2, k3, k5, hC⟩ := T.cls
  obtain ⟨t1, ho⟩ := exo_at I.hok e
  obtain ⟨hp, g, d, t, os⟩ := s
  refine wpAny_call (PySem.HandSPX.init_base F.excBase_RuntimeError (fun Y => re_contains rfl Y) (I.kIn _ _ hC) ho hl fun h' t2 k hx => ?_)
  have J := I.write (t' := t) (x := a) (e := a) (o := exo a C none) (by rw [e]; exact True.intro) (.inl rfl) k ⟨_, hx⟩ (exo_ok hx)
  have eu : upd H a (exo a C none) = H := by
    funext b
    by_cases hb : b = a
    · rw [hb, upd_same, e]
    · rw [upd_ne hb]
  rw [eu] at J
  exact h _ J
end
def tReI (K : PySem.W.Frag) (ta : TA) : TE := fun σ H Q => ta σ H fun vs H1 => ∃ (a C : Addr) (ws : List V), vs = .ref a :: ws ∧ ws.length ≤ 1000 ∧ OexR K C ∧ H1 a = some (exo a C none) ∧ Q .non H1
def tOsR (K : PySem.W.Frag) (f : Str) (to te : TE) : TS := fun D σ H => te σ H fun y H1 => to σ H1 fun x H2 => ∃ a C : Addr, x = .ref a ∧ OexR K C ∧ PySem.W.findIn K (.ref C) f = some none ∧
  H2 a = some (exo a C none) ∧ ∀ dx, H2 dx = none → dx ≠ a → D.nx σ (upd (upd H2 dx (exd dx [(f, y)])) a (exo a C (some dx)))
section
variable {X : Cx} {o e : Expr} {es : List Expr} {to te : TE} {ta : TA} {f : Str} {p p' p1 p2 pos : Pos}
theorem pe_reinit {pl : Sem Bool} (hg : Gl X "RuntimeError") (hm : X.mg "RuntimeError" = none) (vV : PySem.W.findCls X.K (.type "RuntimeError") (.type "type") "__init__" = some (.val (.builtin "RuntimeError.__init__"))) (ha : PA X (e :: es) ta)
    (hc : eval (.Call (.Attribute (.Name "RuntimeError" p1) "__init__" p2) (e :: es) [] pos) X.env = (do
      let ov ← eval (.Name "RuntimeError" p1) X.env
      standAt p2.atName
      let (f, first) ← holding [ov] (getMethod ov "__init__" pl)
      callWith pos f first (backTo pos (starEach (e :: es) X.env)) (backToKw pos (keywordEach [] X.env))) := by rfl)
    (he : starEach (e :: es) X.env = (false, eval e X.env) :: starEach es X.env := by rfl) (hpl : (backTo pos (starEach es X.env)).any (·.1) = false := by rfl) :
    PE X (.Call (.Attribute (.Name "RuntimeError" p1) "__init__" p2) (e :: es) [] pos) (tReI X.K ta) := by
  refine ⟨fun pins s σ H Q I h => ?_⟩
  refine PySem.W.methodCall_KW (ld_blt I hg hm PyProof.Rows.Boot.«RuntimeError» ?_ (by decide) (by decide)) hc
  obtain ⟨m, fr⟩ := I.fr
  refine PySem.W.method_type fr I.ok.mod.kin typ_RE (by decide +kernel) vV (by decide +kernel) ?_
  show wpAny _ _ (callWith pos (Value.builtin "RuntimeError.__init__") [] (backTo pos (starEach (e :: es) X.env)) []) _ _ _
  refine PyProof.Rows.callWith_method1 (thn (ha.run pos pins _ σ H _ (I.tok _) h) fun us s1 ⟨vs, H1, I1, r1, a, C, ws, ev, hl, T, ea, q⟩ => ?_) he hpl
  subst ev
  cases r1 with
  | @cons _ u0 _ ur ra rw' =>
    obtain rfl : u0 = Value.ref a := ra
    have hlen : ur.length ≤ sizeLine := by
      rw [← Paired.length rw', sizeLine_eq]
      omega
    exact re_oinit T I1 ea hlen fun s' J => ⟨.non, H1, J, rfl, q⟩
theorem ps_osR (ho : PE X o to) (he : PE X e te) (hs : swapsWith e (some (.Attribute o f p')) pos.line X.env = pure false := by rfl) : PS X (.Assign [.Attribute o f p'] e pos) (tOsR X.K f to te) := by
  refine ⟨fun pins s σ H D I h => ?_⟩
  refine plainObj_wpAny_Assign_Attribute (thn (he.run pins s σ H _ I h) fun v s1 ⟨y, H1, I1, r1, q1⟩ => thn (ho.run pins s1 σ H1 _ I1 q1) fun u s2 ⟨x, H2, I2, r2, a, C, ex, T, hno, ea, q⟩ => ?_) hs
  subst ex
  obtain rfl : u = Value.ref a := r2
  exact re_ost T I2 ea hno r1 fun dx s' n ne J => ⟨σ, _, J, q dx n ne⟩
theorem pmk_oexR {CX : CXT} {x : Str} {C fI : Addr} {k : Nat} {fd : FuncData} {ps : List Str} {sp : Sp} {ds : List Value} {dvs : List V} (T : OexR X.K C) (iC : PySem.W.findIn X.K (.ref C) "__init__" = some (some (.ref fI))) (tI : PySem.W.typeIn X.K (.ref fI) = some (.type "function"))
    (F1 : FnOk X.prog X.w X.K X.mg X.base CX k fI fd ps sp) (hr : Room (k + 1) X.A) (hb : Binds X.K fd ps ds) (hd : Vals dvs ds) (hx : Passes CX X (fun _ _ _ => False)) (hg : Gl X x) (hm : X.mg x = some (.ref C)) (ha : PA X (e :: es) ta)
    (hdb : (x == ("__debug__" : Str)) = false := by decide) (he : starEach (e :: es) X.env = (false, eval e X.env) :: starEach es X.env := by rfl) (hpl : (backTo pos (starEach es X.env)).any (·.1) = false := by rfl) :
    PMk X (.Call (.Name x p) (e :: es) [] pos) (tMkO C sp dvs ta) := by
  intro pins s σ H Q I h
  obtain ⟨nm, q, N, bs, sn, sub, ab, col, dd, k0, k1, k2, k3, k5, hC⟩ := T.cls
  refine wpAny_Call_Name_kw (ld_glob I hg hm ?_ hdb)
  refine PySem.W.callWith_K (h₀ := X.base) I.ok.mod.kin T.kC (thn (ha.run pos pins s σ H _ I h) fun us s1 ⟨vs, H1, I1, r1, hz, q1⟩ => ⟨I1.kIn, ?_⟩) he hpl
  show wpAny _ _ (call (.ref C) us) _ _ _
  obtain ⟨hp, g, dr, tk, os⟩ := s1
  have hsz : hp.objs.size ≤ hp.objs.size + 1 := Nat.le_succ _
  have hn : H1 (hp.objs.size + 1) = none := I1.hok.fresh hsz
  have hq := q1 (hp.objs.size + 1) hn
  have kk : ∀ b o, hp.get? b = some o → ((hp.push (PySem.W.kdv_tup us)).push (PySem.HandSPX.excO C hp.objs.size)).get? b = some o := fun b o e => Heap.get?_push_of_some _ (Heap.get?_push_of_some _ e)
  have hget : ((hp.push (PySem.W.kdv_tup us)).push (PySem.HandSPX.excO C hp.objs.size)).get? (hp.objs.size + 1) = some (PySem.HandSPX.excO C hp.objs.size) := by heap_get
  have I2 : Inv X pins σ (upd H1 (hp.objs.size + 1) (exo (hp.objs.size + 1) C none)) ⟨(hp.push (PySem.W.kdv_tup us)).push (PySem.HandSPX.excO C hp.objs.size), g, dr, tk, os⟩ :=
    I1.laid (t' := tk) (a := hp.objs.size + 1) (o := exo (hp.objs.size + 1) C none) (h' := (hp.push (PySem.W.kdv_tup us)).push (PySem.HandSPX.excO C hp.objs.size)) kk hsz (exo_ok hget)
  have r2 : Vals (V.ref (hp.objs.size + 1) :: (vs ++ dvs)) (Value.ref (hp.objs.size + 1) :: (us ++ ds)) := .cons rfl (r1.append hd)
  have hl : (Value.ref (hp.objs.size + 1) :: us ++ ds).length = ps.length := by
    have e := r2.length
    rw [F1.len _ _ _ _ hq] at e
    exact e.symm
  have hus : us.length ≤ sizeLine := by
    rw [← Paired.length r1, sizeLine_eq]
    omega
  refine wpAny_call (PySem.HandSPX.call_own F.excBase_RuntimeError (fun Y => re_contains rfl Y) (I1.kIn _ _ hC) (PySem.W.looks_findIn I1.kIn iC) (fun self => PySem.W.bind_fn I1.kIn self tI) hus
    (codeAny_mono (F1.run _ X.stack _ _ ⟨Value.ref (hp.objs.size + 1) :: us, []⟩ (Value.ref (hp.objs.size + 1) :: (us ++ ds)) _ _ (fun _ _ _ => False) (hr.make C us []) (I2.env0.make C us []) (hb _ (Value.ref (hp.objs.size + 1) :: us) I2.kIn hl) r2 hq) fun r s' hq' => ?_))
  cases r with
  | error er => exact hx pins σ _ _ er s' I2 hq'
  | ok fl =>
    cases fl with
    | ret u =>
      obtain ⟨v, H2, os2, bare2, un2, hok2, rv, ev, d, fs, ea, ed, hd1, q2⟩ := hq'
      subst ev
      obtain ⟨h2, g2, d2, t2, os'⟩ := s'
      exact ⟨rv, mk_end (raises_own T.exC T.tyC) I1 hsz kk un2 hok2 os2 bare2 ea ed hd1 q2⟩
    | next => exact False.elim hq'
    | brk => exact False.elim hq'
    | cont => exact False.elim hq'
end
end K36
/-! text KR6 -/
/-! NotDone is made -/
namespace K36
open PySem PySem.Spec PyProof.Rows L2
open LamX (Tabs TabS TabB ExtN CodeO)
/-- facts of NotDone's class -/
structure Nd (K : PySem.W.Frag) (mg : Str → Option Value) : Prop where
  mRE : mg "RuntimeError" = none
  vRE : PySem.W.findCls K (.type "RuntimeError") (.type "type") "__init__" = some (.val (.builtin "RuntimeError.__init__"))
  oex : OexR K (He.ga K "NotDone")
  init : PySem.W.findIn K (.ref (He.ga K "NotDone")) "__init__" = some (some (.ref (He.ma K (He.ga K "NotDone") "__init__")))
  tinit : PySem.W.typeIn K (.ref (He.ma K (He.ga K "NotDone") "__init__")) = some (.type "function")
  why : PySem.W.findIn K (.ref (He.ga K "NotDone")) "why" = some none
section
variable {P : Program} {w : World} {K : PySem.W.Frag} {mg : Str → Option Value} {base : Heap}
abbrev N_NotDone_init : List Str := ["self", "why"]
theorem sc_NotDone_init : FnScope N_NotDone_init ["self", "why"] (defScope s_NotDone_init) := ⟨rfl, rfl, rfl, by decide +kernel, rfl, by decide +kernel, by decide +kernel⟩
def sp_NotDone_init (K : PySem.W.Frag) : Sp := fun vs H Q _ => ∃ (a : Addr) (why : Str), vs = [.ref a, .str why] ∧ H a = some (exo a (He.ga K "NotDone") none) ∧ ∀ dx, H dx = none → dx ≠ a → Q .non (upd (upd H dx (exd dx [("why", .str why)])) a (exo a (He.ga K "NotDone") (some dx)))
structure NdInit (P : Program) (w : World) (K : PySem.W.Frag) (mg : Str → Option Value) (base : Heap) : Prop where
  ex : ∃ fd ps, FnOk P w K mg base C8.CX0 1 (He.ma K (He.ga K "NotDone") "__init__") fd ps (sp_NotDone_init K) ∧ Binds K fd ps []
theorem ok_NotDone_init (T : Tx w K mg) (N : Nd K mg) : NdInit P w K mg base := by
  obtain ⟨fd, F⟩ := T.F_NotDone_init
  refine ⟨fd, ["self", "why"], F.ok sc_NotDone_init (fun vs H Q E h => ?_) (fun cdv A0 outer s H vs Q E hr h => ?_), F.bindsN (fun _ _ _ _ _ _ us hl => match us, hl with | [_, _], _ => rfl)⟩
  · obtain ⟨a, why, rfl, _⟩ := h
    rfl
  · obtain ⟨a, why, rfl, ha, k⟩ := h
    have D : PSs (cxOf C8.CX0 P w K mg base N_NotDone_init "NotDone.__init__" (defScope s_NotDone_init) (He.ma K (He.ga K "NotDone") "__init__") cdv A0 outer s H E).nox (defBody s_NotDone_init) _ := (pss_cons (ps_expr (pe_reinit (by rfl) N.mRE N.vRE (pa_cons (pv 0) (pa_cons pe_str pa_nil))))
    (pss_one (ps_osR (pv 0) (pv 1))))
    refine ⟨_, D.nox, ?_⟩
    refine ⟨_, rfl, a, _, _, rfl, (Nat.le_of_ble_eq_true rfl), N.oex, ha, ?_⟩
    refine ⟨_, rfl, _, rfl, a, _, rfl, N.oex, N.why, ha, fun dx h1 h2 => ?_⟩
    exact k dx h1 h2
end
end K36
/-! text KR7 -/
/-! Room.write -/
namespace K36
open PySem PySem.Spec PyProof.Rows L2
open LamX (Tabs TabS TabB ExtN CodeO)
section
variable {P : Program} {w : World} {K : PySem.W.Frag} {mg : Str → Option Value} {base : Heap}
abbrev N_Room_write : List Str := ["self", "written", "at", "deed", "right", "where", "number", "first", "why", "row"]
theorem sc_Room_write : FnScope N_Room_write ["self", "written", "at", "deed", "right"] (defScope s_Room_write) := ⟨rfl, rfl, rfl, by decide +kernel, rfl, by decide +kernel, by decide +kernel⟩
/-- the number of the first row of the chain that r begins or goes on -/
def firstR (rr : List RR) (ri n : Int) : Int := match valV (fstK rr) (.inl ri) with
  | some (.int k) => k
  | _ => n
theorem fst_int {rr : List RR} {k : Key} {v : V} (h : valV (fstK rr) k = some v) : ∃ i : Int, v = .int i := by
  induction rr with
  | nil => cases h
  | cons q r ih =>
    have e : fstK (q :: r) = (.inl q.1.n, .int q.2) :: fstK r := rfl
    rw [e] at h
    by_cases z : (Sum.inl q.1.n : Key) = k
    · rw [valV_pos z] at h; cases h; exact ⟨_, rfl⟩
    · rw [valV_neg z] at h; exact ih h
theorem firstV (rr : List RR) (ri n : Int) : (valV (fstK rr) (.inl ri)).getD (.int n) = .int (firstR rr ri n) := by
  unfold firstR
  cases h : valV (fstK rr) (.inl ri) with
  | none => rfl
  | some v => obtain ⟨i, rfl⟩ := fst_int h; rfl
def rowOf (rr : List RR) (wr at_ : Int) (d : Deed) (dA : Addr) (ri : Int) : RowD := ⟨(rr.length : Int) + 1, wr, at_, d, dA, ri⟩
def whyR (es : List Eng) (rr : List RR) (at_ : Int) (d : Deed) (ri : Int) : Str := (doneP (replayP es rr at_ ri).1 d (firstR rr ri ((rr.length : Int) + 1)) at_).1
theorem putK_new {kvs : List (Key × V)} {k : Key} {v : V} (h : valV kvs k = none) : putK kvs k v = kvs ++ [(k, v)] := by
  unfold putK
  rw [valV_any, h]; rfl
theorem fst_snoc {rr : List RR} {r : RowD} {f : Int} (hn : ∀ q ∈ rr, q.1.n ≠ r.n) : putK (fstK rr) (fI r.n) (.int f) = fstK (rr ++ [(r, f)]) := by
  rw [putK_new (fst_no hn)]
  unfold fstK
  rw [List.map_append]; rfl
theorem ded_snoc {rr : List RR} {r : RowD} {f : Int} (hd : r.right ∉ deadOf (rws rr)) (h0 : 0 < r.right) : putK (dedK rr) (.inl r.right) (.bl true) = dedK (rr ++ [(r, f)]) := by
  have hv : valV (dedK rr) (.inl r.right) = none := by
    have := valV_keys (xs := deadOf (rws rr)) (w := V.bl true) r.right
    rw [decide_eq_false hd] at this
    unfold dedK
    cases e : valV ((deadOf (rws rr)).map fun x => ((.inl x : Key), V.bl true)) (.inl r.right) with
    | none => rfl
    | some v => rw [e] at this; cases this
  rw [putK_new hv]
  unfold dedK
  rw [show rws (rr ++ [(r, f)]) = rws rr ++ [r] from List.map_append .., dead_snoc, if_pos h0, List.map_append]; rfl
theorem ded_same {rr : List RR} {r : RowD} {f : Int} (h0 : ¬ 0 < r.right) : dedK rr = dedK (rr ++ [(r, f)]) := by
  unfold dedK
  rw [show rws (rr ++ [(r, f)]) = rws rr ++ [r] from List.map_append .., dead_snoc, if_neg h0]
/-- all but a room's own list and dicts stays (and code tables) -/
def Wr (c : RoomC) (H H' : Hp) : Prop := ∀ a o, H a = some o → a ≠ c.kA → a ≠ c.fA → a ≠ c.dA → (∀ ps, o ≠ .tbl ps) → H' a = some o
theorem RoomAt.wrote {K : PySem.W.Frag} {T : List (Addr × Str)} {H H' : Hp} {c : RoomC} {A : Adr} {g : Gd} {es : List Eng} {ps : List Addr} {rr : List RR} {p : Addr} {r : RowD} {f : Int} (h : RoomAt K T H c A g es ps rr) (hr : RowO K H p r)
    (hk : H' c.kA = some (.lst ((ps ++ [p]).map V.ref))) (hf : H' c.fA = some (.dK (fstK (rr ++ [(r, f)])))) (hd : H' c.dA = some (.dK (dedK (rr ++ [(r, f)])))) (hs : ∀ a o, H a = some o → a ≠ c.kA → a ≠ c.fA → a ≠ c.dA → H' a = some o) : RoomAt K T H' c A g es (ps ++ [p]) (rr ++ [(r, f)]) := by
  have keep : ∀ a o, H a = some o → (∀ xs, o ≠ .lst xs) → (∀ kv, o ≠ .dK kv) → H' a = some o := fun a o ha n1 n2 =>
    hs a o ha (fun z => by rw [z, h.kept] at ha; exact n1 _ (Option.some.inj ha).symm) (fun z => by rw [z, h.first] at ha; exact n2 _ (Option.some.inj ha).symm) (fun z => by rw [z, h.dead] at ha; exact n2 _ (Option.some.inj ha).symm)
  have tm : TM K H H' := fun a xs q => by
    rcases q with (q | ⟨o, q⟩) | q
    · exact .inl (.inl (keep _ _ q (fun _ z => by cases z) (fun _ z => by cases z)))
    · exact .inl (.inr ⟨o, keep _ _ q (fun _ z => by cases z) (fun _ z => by cases z)⟩)
    · exact .inr q
  have ro : ∀ q r, RowO K H q r → RowO K H' q r := fun q r ⟨⟨dx, a⟩, b⟩ => ⟨⟨dx, keep _ _ a (fun _ z => by cases z) (fun _ z => by cases z)⟩, tm _ _ b⟩
  refine ⟨keep _ _ h.x (fun _ z => by cases z) (fun _ z => by cases z), hk, ?_, hf, hd, h.ne, let ⟨dx, q⟩ := h.gobj; ⟨dx, keep _ _ q (fun _ z => by cases z) (fun _ z => by cases z)⟩, h.ga.tm tm, h.ea.tm tm, fun q hq => ?_⟩
  · rw [show rws (rr ++ [(r, f)]) = rws rr ++ [r] from List.map_append ..]
    exact Paired.snoc (Paired.mapP h.rows fun _ _ z => ro _ _ z) (ro _ _ hr)
  · obtain ⟨tb, a1, a2, a3⟩ := h.tabs q hq
    refine ⟨tb, keep _ _ a1 (fun _ z => by cases z) (fun _ z => by cases z), a2, fun p' cv hcv => ?_⟩
    obtain ⟨c0, e1, e2⟩ := a3 p' cv hcv
    exact ⟨c0, e1, keep _ _ e2 (fun _ z => by unfold LamX.CodeO at z; cases z) (fun _ z => by unfold LamX.CodeO at z; cases z)⟩
def sp_write (K : PySem.W.Frag) (T : List (Addr × Str)) : Sp := fun vs H Q E => ∃ (c : RoomC) (A : Adr) (g : Gd) (es : List Eng) (ps : List Addr) (rr : List RR) (wr at_ ri : Int) (d : Deed) (deA : Addr), vs = [.ref c.ro, .int wr, .int at_, .ref deA, .int ri] ∧ RoomAt K T H c A g es ps rr ∧ RoomP g es rr ∧ rr.length < 60 ∧
  RowOk g es (rws rr) (rowOf rr wr at_ d deA ri) ∧ SqT K H deA d.vs ∧
  (whyR es rr at_ d ri = "" → ∀ H' p, Wr c H H' → RoomAt K T H' c A g es (ps ++ [p]) (rr ++ [(rowOf rr wr at_ d deA ri, firstR rr ri ((rr.length : Int) + 1))]) → Q (.ref p) H') ∧
  (whyR es rr at_ d ri ≠ "" → ∀ H' dx, ExtN H H' → Tabs T H' → H' dx = some (.xd [("why", .str (whyR es rr at_ d ri))]) → E (.ref (He.ga K "NotDone")) (some dx) H')
theorem ok_write (T : Tx w K mg) {Tb : List (Addr × Str)} (N : Nd K mg) (I : NdInit P w K mg base) (M : FnReplay P w K mg base Tb) (G_fault : C8.Cal P w K mg base 4 "fault" (sp_fault K) []) (G_look_minutes : C8.Met P w K mg base 2 (He.ga K "Room") "look_minutes" (sp_look_minutes K Tb) []) (G_look_right : C8.Met P w K mg base 2 (He.ga K "Room") "look_right" (sp_look_right K Tb) []) (G_done : C8.Cal P w K mg base 3 "done" (sp_do K fun _ => True) []) (G_Row : MakN P w K mg base 1 "Row" (He.ga K "Row") (sp_Row_init K) 4 ["right"] (fun vs zs => vs ++ zs)) :
    ∃ fd, FunD K "write" "Room.write" (defArgs s_Room_write) (defBody s_Room_write) (defScope s_Room_write) [.int 0] [] (He.ma K (He.ga K "Room") "write") fd ∧ FnOk P w K mg base (L2.CX P w) 6 (He.ma K (He.ga K "Room") "write") fd ["self", "written", "at", "deed", "right"] (sp_write K Tb) := by
  have G_replayk := met_replayk T M
  obtain ⟨fd1, ps1, F1, hb1⟩ := I.ex
  obtain ⟨fd, F⟩ := T.F_Room_write
  refine ⟨fd, F, F.ok sc_Room_write (fun vs H Q E h => ?_) (fun cdv A0 outer s H vs Q E hr h => ?_)⟩
  · obtain ⟨c, A, g, es, ps, rr, wr, at_, ri, d, deA, rfl, _⟩ := h
    rfl
  · obtain ⟨c, A, g, es, ps, rr, wr, at_, ri, d, deA, rfl, hR, hP, h60, hok, hdA, kOk, kNo⟩ := h
    refine ⟨_, ((pss_cons (ps_set (i := 5) sc_Room_write.nd rfl (Or.inl rfl) (C8.pe_c G_fault hr (by decide) rfl (pa_cons (pe_fld (pv 0) rfl) (pa_cons (pe_fld (pv 0) rfl) (pa_cons (pv 3) pa_nil)))))
    (pss_cons (ps_if (pt_cmpR op_ne (pv 5) (pe_un un_neg pe_int) (nomark _))
      (pss_one ps_never)
      pss_nil)
    (pss_cons (ps_expr (C8.pe_mt G_look_minutes hr (by decide) (pv 0) (pa_cons (pv 1) (pa_cons (pv 2) pa_nil))))
    (pss_cons (ps_expr (C8.pe_mt G_look_right hr (by decide) (pv 0) (pa_cons (pv 4) pa_nil)))
    (pss_cons (ps_if (pt_cmpR op_eq (pe_callB call_len_seq (by rfl) T.b_len (by decide +kernel) (pa_cons (pe_fld (pv 0) rfl) pa_nil)) (C8.pe_gc rfl T.k_MOST_ROWS) (nomark _))
      (pss_one ps_never)
      pss_nil)
    (pss_cons (ps_set (i := 6) sc_Room_write.nd rfl (Or.inl rfl) (pe_op op_add (pe_callB call_len_seq (by rfl) T.b_len (by decide +kernel) (pa_cons (pe_fld (pv 0) rfl) pa_nil)) pe_int))
    (pss_cons (ps_set (i := 7) sc_Room_write.nd rfl (Or.inl rfl) (pe_dget2 (hu_of hr) (pe_fld (pv 0) rfl) (pv 4) (pv 6) ⟨rfl, rfl, rfl, rfl⟩))
    (pss_cons (ps_set (i := 8) sc_Room_write.nd rfl (Or.inl rfl) (C8.pe_c G_done hr (by decide) rfl (pa_cons (pe_ix ix_tup (pe_mtN G_replayk hr (by decide) (pv 0) (pa_cons (pv 2) pa_nil) (pk_cons (pv 4) pk_nil)) pe_int (fun _ _ => rfl)) (pa_cons (pv 3) (pa_cons (pv 7) (pa_cons (pv 2) pa_nil))))))
    (pss_cons (ps_if (pt_cmpR op_ne (pv 8) pe_str (nomark _))
      (pss_one (ps_raise rfl (takes_of rfl rfl rfl rfl) (pmk_oexR N.oex N.init N.tinit F1 (hr.mono (by decide)) hb1 .nil C8.pass0 (by rfl) T.g_NotDone (pa_cons (pv 8) pa_nil))))
      pss_nil)
    (pss_cons (ps_set (i := 9) sc_Room_write.nd rfl (Or.inl rfl) (pe_mkN G_Row hr (by decide) rfl (pa_cons (pv 6) (pa_cons (pv 1) (pa_cons (pv 2) (pa_cons (pv 3) pa_nil)))) (pk_cons (pv 4) pk_nil)))
    (pss_cons (ps_expr (pe_bm PySem.F.plainAttrs_list PySem.F.slot_list_append PySem.F.type_list_append mt_append (pe_fld (pv 0) rfl) (pa_cons (pv 9) pa_nil)))
    (pss_cons (ps_dput (hu_of hr) (pe_fld (pv 0) rfl) (pv 6) (pv 7) rfl)
    (pss_cons (ps_if (pt_cmpR op_gt (pv 4) pe_int (nomark _))
      (pss_one (ps_dput (hu_of hr) (pe_fld (pv 0) rfl) (pv 4) pe_bl rfl))
      pss_nil)
    (pss_one (ps_ret (pv 9)))))))))))))))) : PSs (cxOf (L2.CX P w) P w K mg base N_Room_write "Room.write" (defScope s_Room_write) (He.ma K (He.ga K "Room") "write") cdv A0 outer s H E) (defBody s_Room_write) _), ?_⟩
    obtain ⟨gdx, hgo⟩ := hR.gobj
    refine ⟨_, rfl, c.ro, _, c.dx, _, _, rfl, hR.x, T.c_Room, T.n_Room_ground, rfl, _, rfl, c.ro, _, c.dx, _, _, rfl, hR.x, T.c_Room, T.n_Room_engines, rfl, _, rfl, c.go, c.D, deA, A, g, es, d, rfl, ⟨gdx, hgo⟩, hR.ga, hP.gk, hR.ea, hP.ek, hok.deed, hdA, fun H1 e1 => ?_⟩
    have hR1 := hR.ext e1
    refine ⟨_, rfl, 1, rfl, rfl, false, by decide, iteF ?_⟩
    refine ⟨_, rfl, c.ro, c.dx, _, rfl, hR1.x, rfl, _, rfl, _, rfl, c, A, g, es, ps, rr, wr, at_, rfl, hR1, hP, hok.at0, hok.at1, hok.w, hok.last, fun H2 e2 => ?_⟩
    have hR2 := hR1.ext e2
    have hps := hR.plen
    refine ⟨_, rfl, c.ro, c.dx, _, rfl, hR2.x, rfl, _, rfl, c, A, g, es, ps, rr, ri, rfl, hR2, hP, hok.r0, (by have := hok.r1; rw [rws_len] at this; exact this), hok.rd, ?_⟩
    have hkl : (ps.map V.ref).length = rr.length := by rw [List.length_map, hps]
    refine ⟨_, rfl, c.ro, _, c.dx, _, _, rfl, hR2.x, T.c_Room, T.n_Room_kept, rfl, c.kA, _, rfl, .inl (SqL.of hR2.kept), rfl, false, ?_, iteF ?_⟩
    · rw [hkl]
      exact congrArg V.bl (decide_eq_false fun z => by have := V.int.inj z; omega)
    refine ⟨_, rfl, c.ro, _, c.dx, _, _, rfl, hR2.x, T.c_Room, T.n_Room_kept, rfl, c.kA, _, rfl, .inl (SqL.of hR2.kept), _, _, rfl, rfl, ?_⟩
    rw [hkl]
    refine ⟨_, rfl, c.ro, _, c.dx, _, _, rfl, hR2.x, T.c_Room, T.n_Room_first, rfl, c.fA, rfl, .inl ⟨_, .inl hR2.first⟩, _, rfl, _, rfl, _, .inl ⟨fstK rr, .inl ri, .inl hR2.first, rfl, rfl⟩, ?_⟩
    rw [firstV]
    refine ⟨_, rfl, c.ro, c.dx, _, rfl, hR2.x, rfl, _, rfl, _, rfl, rfl, rfl, c, A, g, es, ps, rr, at_, ri, rfl, hR2, hP, fun H3 H4 x vl t vts en t3 hX ok hv hrw hT => ?_⟩
    have e12 : ExtN H H3 := (extN_of (e1.trans e2)).trans en
    refine ⟨t, _, _, _, rfl, rfl, hT, rfl, _, rfl, _, rfl, _, rfl, x, deA, _, at_, H3, (replayP es rr at_ ri).1, d, g, es, 60, rfl, True.intro, hX, ExtN.t e12 hdA, ok, hok.deed, ⟨hP.ek.e24, hP.ek.nd⟩, by omega, fun H5 hX5 => ?_⟩
    have hfold : (doneP (replayP es rr at_ ri).1 d (firstR rr ri ((rr.length : Int) + 1)) at_).1 = whyR es rr at_ d ri := rfl
    rw [hfold]
    generalize hwy : whyR es rr at_ d ri = why at kOk kNo ⊢
    obtain ⟨xd5, sA5, tA5, cA5, sk5, tk5, hS5⟩ := hX5
    have e35 : Ext H3 H5 := hS5.ext
    have en5 : ExtN H H5 := e12.trans (extN_of e35)
    have t5 : Tabs Tb H5 := t3.ext e35
    refine ⟨_, rfl, rfl, !decide (why = ""), ?_, ite2 (fun dq => ?_) (fun dq => ?_)⟩
    · exact congrArg V.bl (congrArg (!·) (decide_eq_decide.mpr ⟨fun h => by injection h, fun h => by rw [h]⟩))
    · have dq' : ¬ why = "" := fun h => by rw [h] at dq; simp at dq
      refine ⟨_, rfl, (Nat.le_of_ble_eq_true rfl), fun a ha => ⟨a, why, rfl, upd_same, fun dx hdx hne => ⟨rfl, dx, _, upd_same, (upd_ne hne).trans upd_same, ?_, ?_⟩⟩⟩
      · exact (upd_ne hne).symm.trans hdx
      · have hdx5 : H5 dx = none := (upd_ne hne).symm.trans hdx
        have e6 : Ext H5 (upd (del (upd (upd (upd H5 a (exo a (He.ga K "NotDone") none)) dx (exd dx [("why", .str why)])) a (exo a (He.ga K "NotDone") (some dx))) a) dx (.xd [("why", .str why)])) := fun b o hb => by
          rw [upd_ne (ne_of_none hb hdx5), del_ne (ne_of_none hb ha), upd_ne (ne_of_none hb ha), upd_ne (ne_of_none hb hdx5), upd_ne (ne_of_none hb ha)]; exact hb
        exact kNo dq' _ dx (en5.trans (extN_of e6)) (t5.ext e6) upd_same
    · have dq' : why = "" := by simpa using dq
      have hR5 := hR.grow en5 t5
      refine ⟨_, rfl, _, rfl, _, rfl, _, rfl, _, rfl, rfl, rfl, fun p dxp hp hdxp hnd => ?_⟩
      refine ⟨p, dxp, rowOf rr wr at_ d deA ri, rfl, upd_same, fun H7 kb h7 => ⟨rfl, ?_⟩⟩
      have e67 : Ext H5 H7 := fun b o hb => kb b o (ne_of_none hb hp) ((upd_ne (ne_of_none hb hp)).trans ((upd_ne (ne_of_none hb hdxp)).trans hb))
      have hR7 := hR5.ext e67
      refine ⟨_, rfl, c.ro, _, c.dx, _, _, rfl, hR7.x, T.c_Room, T.n_Room_kept, rfl, .inl ⟨rfl, _, SqL.of hR7.kept⟩, _, rfl, c.kA, _, _, rfl, rfl, hR7.kept, szl (by rw [hkl]; omega), ?_⟩
      have nkx : c.ro ≠ c.kA := fun z => by have := hR7.x; rw [z, hR7.kept] at this; cases this
      have nkf : c.fA ≠ c.kA := fun z => by have := hR7.first; rw [z, hR7.kept] at this; cases this
      have nkd : c.dA ≠ c.kA := fun z => by have := hR7.dead; rw [z, hR7.kept] at this; cases this
      have nfx : c.ro ≠ c.fA := fun z => by have := hR7.x; rw [z, hR7.first] at this; cases this
      have ndx : c.ro ≠ c.dA := fun z => by have := hR7.x; rw [z, hR7.dead] at this; cases this
      have hx8 : upd H7 c.kA (.lst (ps.map V.ref ++ [.ref p])) c.ro = _ := (upd_ne nkx).trans hR7.x
      have hf8 : upd H7 c.kA (.lst (ps.map V.ref ++ [.ref p])) c.fA = _ := (upd_ne nkf).trans hR7.first
      refine ⟨_, rfl, _, rfl, c.ro, _, c.dx, _, _, rfl, hx8, T.c_Room, T.n_Room_first, rfl, _, rfl, c.fA, _, rfl, DPut.k (k := fI ((rr.length : Int) + 1)) hf8 (by unfold fstK; rw [List.length_map, sizeLine_eq]; omega), ?_⟩
      have hd9 : ∀ u v, upd (upd H7 c.kA u) c.fA v c.dA = _ := fun u v => (upd_ne hR7.ne.symm).trans ((upd_ne nkd).trans hR7.dead)
      have hx9 : ∀ u v, upd (upd H7 c.kA u) c.fA v c.ro = _ := fun u v => (upd_ne nfx).trans ((upd_ne nkx).trans hR7.x)
      have hdl : (deadOf (rws rr)).length ≤ rr.length := by
        unfold deadOf
        refine Nat.le_trans (List.length_filter_le _ _) ?_
        rw [List.length_map, rws_len]; exact Nat.le_refl _
      have hnn : ∀ q ∈ rr, q.1.n ≠ (rowOf rr wr at_ d deA ri).n := fun q hq e => by
        obtain ⟨i, hi⟩ := List.mem_iff_getElem?.mp hq
        have hi' := (List.getElem?_eq_some_iff.mp hi).1
        have hn := hP.bk.num (show (rws rr)[i]? = some q.1 by unfold rws; rw [List.getElem?_map, hi]; rfl)
        have e : q.1.n = (rr.length : Int) + 1 := e
        omega
      refine ⟨_, rfl, _, _, rfl, rfl, _, rfl, ite2 (fun z => ?_) (fun z => ?_)⟩
      · refine ⟨_, rfl, c.ro, _, c.dx, _, _, rfl, hx9 _ _, T.c_Room, T.n_Room_dead, rfl, _, rfl, c.dA, _, rfl, DPut.k (k := .inl ri) (hd9 _ _) (by unfold dedK; rw [List.length_map, sizeLine_eq]; omega), ?_⟩
        have hs : ∀ u v o' a o, H7 a = some o → a ≠ c.kA → a ≠ c.fA → a ≠ c.dA → upd (upd (upd H7 c.kA u) c.fA v) c.dA o' a = some o := fun u v o' a o ha n1 n2 n3 => by rw [upd_ne n3, upd_ne n2, upd_ne n1]; exact ha
        refine ⟨_, rfl, kOk dq' _ p ?_ ?_⟩
        · exact fun a o ha n1 n2 n3 nt => hs _ _ _ a o (e67 _ _ (en5 a o ha nt)) n1 n2 n3
        · refine RoomAt.wrote hR7 ⟨⟨dxp, h7⟩, SqT.ext (ExtN.t en5 hdA) e67⟩ ?_ ?_ ?_ (hs _ _ _)
          · exact (upd_ne nkd.symm).trans ((upd_ne nkf.symm).trans (upd_same.trans (by rw [List.map_append]; rfl)))
          · exact (upd_ne hR7.ne).trans (upd_same.trans (congrArg (fun q => some (HO.dK q)) (fst_snoc (r := rowOf rr wr at_ d deA ri) hnn)))
          · exact upd_same.trans (congrArg (fun q => some (HO.dK q)) (ded_snoc (r := rowOf rr wr at_ d deA ri) hok.rd (of_decide_eq_true z)))
      · have hs : ∀ u v a o, H7 a = some o → a ≠ c.kA → a ≠ c.fA → upd (upd H7 c.kA u) c.fA v a = some o := fun u v a o ha n1 n2 => by rw [upd_ne n2, upd_ne n1]; exact ha
        refine ⟨_, rfl, kOk dq' _ p ?_ ?_⟩
        · exact fun a o ha n1 n2 _ nt => hs _ _ a o (e67 _ _ (en5 a o ha nt)) n1 n2
        · refine RoomAt.wrote hR7 ⟨⟨dxp, h7⟩, SqT.ext (ExtN.t en5 hdA) e67⟩ ?_ ?_ ?_ (fun a o ha n1 n2 _ => hs _ _ a o ha n1 n2)
          · exact (upd_ne nkf.symm).trans (upd_same.trans (by rw [List.map_append]; rfl))
          · exact upd_same.trans (congrArg (fun q => some (HO.dK q)) (fst_snoc (r := rowOf rr wr at_ d deA ri) hnn))
          · exact (hd9 _ _).trans (congrArg (fun q => some (HO.dK q)) (ded_same (r := rowOf rr wr at_ d deA ri) (fun q => z (decide_eq_true q))))
end
end K36
/-! text KNe -/
/-! o != p of instances of an own class with an own __eq__ and no __ne__ -/
namespace K36
open PySem PySem.Spec PyProof.Rows L2
section
variable {prog : Program} {w : World} {A : Around} {E : Value → Shared → Prop} {s : Shared} {K : PySem.W.Frag} {x y C f : Addr} {ox : Obj} {od : Option Obj}
open PySem.W in
theorem bound_blt {M : Model} {name : Str} {id : String} {args : List Value} {Q : Option Value → Shared → Prop} (X : K.In s.heap) (I : InstAt s.heap x ox C od) (hs : findIn K (.ref C) name = some (some (.builtin id)))
    (hb : ∀ self, bindSpecial (.builtin id) self = pure (.builtin id, [self])) (h : wpAny M A (call (.builtin id) (.ref x :: args)) (fun v => Q (some v)) E s) : wpAny M A (callSpecialIfBound? (.ref x) name args) Q E s := by
  simp only [callSpecialIfBound?, bindSpecialIfBound?]
  refine wpAny_holding (wpAny_bind (wpAny_bind (wpAny_bind (I.type.here ((looks_findIn X hs).here ?_)))))
  simp only [hb]
  refine wpAny_bind (wpAny_askSetting (wpAny_ite ?_))
  have fin : wpAny M A (call (.builtin id) ([.ref x] ++ args) >>= fun v => pure (some v)) Q E s := wpAny_bind (wpAny_mono h (fun v s' z => wpAny_pure z) fun _ _ z => z)
  split
  · exact wpAny_bind (wpAny_pure (wpAny_pure fin))
  · exact wpAny_tryCatch (wpAny_bind (wpAny_pure (wpAny_pure fin)))
/-- what the class must say -/
structure NeC (K : PySem.W.Frag) (C f : Addr) : Prop where
  ne : PySem.W.findIn K (.ref C) "__ne__" = some (some (.builtin "object.__ne__"))
  eq : PySem.W.findIn K (.ref C) "__eq__" = some (some (.ref f))
  fn : PySem.W.isFn K (.ref f) = true
  ob : PySem.W.mroIn K C (.type "object") = some true
theorem ne_bind : ∀ self, bindSpecial (.builtin "object.__ne__") self = pure (.builtin "object.__ne__", [self]) := PySem.F.slot_tuple_iterator_ne.bind
theorem ne_plain : plainId "object.__ne__" = true := PySem.F.slot_tuple_iterator_ne.plain
open PySem.W in
theorem ne_own {Q : Value → Shared → Prop} (T : NeC K C f) (hu : A.units + 1 < cLine) (X : K.In s.heap) (I : InstAt s.heap x ox C od) (hy : Looks (model prog w) s.heap (typeOf (.ref y)) (.ref C))
    (h : wpAny (model prog w) A.in1 (call (.ref f) [.ref x, .ref y]) (fun v s' => ∃ b, v = .bool b ∧ Q (.bool (!b)) s') E s) : wpAny (model prog w) A (richCompare .NotEq (.ref x) (.ref y)) Q E s := by
  have body : wpAny (model prog w) A.in1 (Builtin.«object.__ne__» ⟨[.ref x, .ref y], []⟩) (fun fin s' => ∃ v, fin = .done (.ret v) ∧ ∃ b, v = .bool b ∧ Q (.bool b) s') E s := by
    unfold Builtin.«object.__ne__»
    refine wpAny_bind (m := slotArgs "__ne__" 1 _) (wpAny_pure ?_)
    refine wpAny_bind (m := cRoomFor _ _) (wpAny_cRoomFor (by simpa using hu) ?_)
    refine wpAny_bind (m := callSpecialIfBound? (.ref x) (Str.ofString "__eq__") _) (ifBound_K X I T.eq T.fn (wpAny_mono h (fun v s' hv => ?_) fun _ _ z => z))
    obtain ⟨b, rfl, q⟩ := hv
    refine wpAny_bind (m := truthy (.bool b)) (wpAny_truthy_bool ?_)
    exact wpAny_pure ⟨_, rfl, _, rfl, q⟩
  have one : wpAny (model prog w) A (tryCompare (.ref x) "__ne__" (.ref y)) (fun r s' => ∃ b, r = some (.bool b) ∧ Q (.bool b) s') E s := by
    unfold tryCompare
    refine wpAny_bind (bound_blt X I T.ne ne_bind ?_)
    refine wpAny_call (codeAny_call_builtin ne_plain PySem.F.cmpEntry_ne (check_slot PySem.F.cmpKind_ne PySem.F.cmpSplit_ne (I.type.andThen (looks_mroIn X T.ob)) (PySem.F.cmpArgs_ne _ _) ?_))
    refine wpAny_mono body (fun fin s' z => ?_) fun _ _ e => e
    obtain ⟨v, rfl, b, rfl, q⟩ := z
    show wpAny (model prog w) A (pure (some (Value.bool b))) (fun r s' => ∃ b, r = some (.bool b) ∧ Q (.bool b) s') E s'
    exact wpAny_pure ⟨b, rfl, q⟩
  unfold richCompare
  simp only [oneThing_ref]
  refine wpAny_holding (wpAny_bind (wpAny_cRoomFor (Nat.lt_of_succ_lt hu) ?_))
  refine wpAny_bind (I.type.here (wpAny_bind (hy.here ?_)))
  rw [show (Value.ref C != Value.ref C) = false from by simp]
  simp only [Bool.false_eq_true, if_false]
  refine wpAny_bind (wpAny_pure ?_)
  simp only [Bool.false_eq_true, if_false]
  refine wpAny_bind (wpAny_mono one (fun r s' z => ?_) fun _ _ e => e)
  obtain ⟨b, rfl, q⟩ := z
  exact wpAny_pure q
end
section
variable {X : Cx} {n : Nat}
/-- x != y: the own == says true -/
def rNeG (D : Eqv) : R2 := fun x y H Q => D x y H ∧ ∀ H', Ext H H' → Q (.bl false) H'
theorem op_neG {CX : CXT} {C f : Addr} {fd : FuncData} {ps : List Str} {R : Addr → Addr → Hp → Prop} {E : XK} (F : FnOk X.prog X.w X.K X.mg X.base CX n f fd ps (spEq R))
    (T : NeC X.K C f) (hb : Binds X.K fd ps []) (hx : Passes CX X E) (hr : Room (n + 1) X.A) : OpR X (compareOp .NotEq) (rNeG (DIns C R)) := by
  intro pins s σ H x y v u Q I rx ry hq
  obtain ⟨⟨a, b, dx, dy, fs, gs, rfl, rfl, ha, hb', hrr⟩, q⟩ := hq
  cases rx
  cases ry
  show wpAny (model X.prog X.w) X.A (richCompare .NotEq (.ref a) (.ref b)) (EP X pins σ Q) X.xe s
  obtain ⟨mA, J, _⟩ := ins_get I.hok ha
  obtain ⟨mB, J', _⟩ := ins_get I.hok hb'
  obtain ⟨od, J, _⟩ := J.look
  obtain ⟨od', J', _⟩ := J'.look
  have hr1 : Room n X.A.in1 := hr.in1
  refine ne_own T (by have := hr.units; omega) I.kIn J J'.type ?_
  have hsp : spEq R [.ref a, .ref b] H (fun v H' => v = .bl true ∧ Ext H H') E := ⟨a, b, rfl, hrr, fun H' e => ⟨rfl, e⟩⟩
  have e0 := I.env0.in1
  have hl := F.len _ _ _ _ hsp
  have r2 : Vals [V.ref a, V.ref b] [Value.ref a, Value.ref b] := .cons rfl (.cons rfl .nil)
  refine wpAny_call (codeAny_mono (F.run X.A.in1 X.stack s H ⟨[.ref a, .ref b], []⟩ [.ref a, .ref b] [.ref a, .ref b] _ E hr1 e0 (by
    have := hb s [.ref a, .ref b] I.kIn (by simpa using hl)
    simpa using this) r2 hsp) fun r s' hq => ?_)
  cases r with
  | error e => exact hx pins σ H s e s' I hq
  | ok fl =>
    cases fl with
    | ret w =>
      obtain ⟨z, H', I', rz, ez, ex⟩ := I.after hq
      subst ez
      cases rz
      exact ⟨true, rfl, .bl false, H', I', rfl, q H' ex⟩
    | next => exact False.elim hq
    | brk => exact False.elim hq
    | cont => exact False.elim hq
end
end K36
/-! text KFz -/
/-! a frozenset of unlike texts, made of a tuple; two of them compared -/
namespace K36
open PySem PySem.Spec PyProof.Rows L2
theorem fz_mro : mroOf (.type "frozenset") = pure [.type "frozenset", .type "object"] := by rw [mroOf_type]; kernel_rfl
theorem fz_lookup : typeLookup (.type "frozenset") "__new__" = pure (some (.builtin "frozenset.__new__")) := by rw [typeLookup_type, builtinLookup_eq_fast]; kernel_rfl
theorem fz_init : Slot "frozenset" "__init__" "object.__init__" :=
  .of (owner := "object") (n := "__init__") (by rw [typeLookup_type, builtinLookup_eq_fast]; kernel_rfl) (by decide +kernel) (by decide +kernel) (by decide +kernel) (by first | exact .inl (by decide +kernel) | exact .inr (by decide +kernel)) (by rw [isSubtype_type]; kernel_rfl)
theorem fz_called : TypeCalled "frozenset" "frozenset.__new__" "object.__init__" :=
  ⟨by decide +kernel, by decide +kernel, ⟨_, _, fz_mro⟩, madeBy_type fz_mro fz_lookup (by decide +kernel), by decide +kernel, by rw [isSubtype_type]; kernel_rfl, fz_init⟩
theorem fz_type1 (a : Value) : checkTypeCall "frozenset" ⟨[a], []⟩ = pure () := by kernel_rfl
theorem fz_new1 (a : Value) : checkBuiltinCall "frozenset.__new__" ⟨[.type "frozenset", a], []⟩ = pure () := by kernel_rfl
theorem fz_entry : entryFor table "frozenset.__new__" = some Builtin.«frozenset.__new__» := entryFor_of_tree (by kernel_rfl)
theorem fz_plain : plainId "frozenset.__new__" = true := by decide +kernel
theorem fz_self : isSubtype (.type "frozenset") (.type "frozenset") = pure true := by rw [isSubtype_type]; kernel_rfl
theorem fz_noset : isSubtype (.type "frozenset") (.type "set") = pure false := by rw [isSubtype_type]; kernel_rfl
theorem fz_eq : Slot "frozenset" "__eq__" "frozenset.__eq__" :=
  .of (owner := "frozenset") (n := "__eq__") (by rw [typeLookup_type, builtinLookup_eq_fast]; kernel_rfl) (by decide +kernel) (by decide +kernel) (by decide +kernel) (by first | exact .inl (by decide +kernel) | exact .inr (by decide +kernel)) (by rw [isSubtype_type]; kernel_rfl)
theorem fz_eqEntry : entryFor table "frozenset.__eq__" = some Builtin.«frozenset.__eq__» := entryFor_of_tree (by kernel_rfl)
section
variable {P : Program} {w : World} {A : Around} {E : Value → Shared → Prop} {s : Shared}
/-- an entry that stands for the text x -/
def EntS (w : World) (e : Int × Value) (x : Str) : Prop := e.1 = hashStr w x ∧ ∃ tk, e.2 = .str x tk
/-- the frozenset at a holds the texts xs, in some order -/
structure FzIs (w : World) (h : Heap) (a : Addr) (xs : List Str) : Prop where
  ex : ∃ (o : Obj) (es : Array (Int × Value)) (ep : Nat) (t : SetTable) (L : List (Int × Value)), h.get? a = some o ∧ o.cls = .type "frozenset" ∧ o.dict = none ∧ o.data = .set es ep t ∧ t.fits es.size = true ∧ es.toList.Perm L ∧ Paired (EntS w) L xs
theorem ent_is {e : Int × Value} {x : Str} (h : EntS w e x) (y : Str) : (PySem.strKind P w).is y e.2 = decide (y = x) := by
  obtain ⟨_, tk, h2⟩ := h
  have : (PySem.strKind P w).is x e.2 = true := by
    rw [h2]
    show Value.isStrOf x (.str x tk) = true
    simp [Value.isStrOf]
  exact KeyKind.is_eq_decide this y
theorem ent_elems {es L : List (Int × Value)} {xs : List Str} (hp : es.Perm L) (hL : Paired (EntS w) L xs) : ElemsOf (PySem.strKind P w) es := fun e he => by
  obtain ⟨i, hi⟩ := List.mem_iff_getElem?.mp (hp.mem_iff.mp he)
  obtain ⟨x, _, hx⟩ := Paired.at' hL hi
  refine ⟨⟨x, by rw [ent_is hx x, decide_eq_true rfl], hx.1⟩, ?_⟩
  obtain ⟨_, tk, h2⟩ := hx
  rw [h2]; rfl
theorem ent_find {es L : List (Int × Value)} {xs : List Str} (hp : es.Perm L) (hL : Paired (EntS w) L xs) (y : Str) : (es.findIdx? (fun e => (PySem.strKind P w).is y e.2)).isSome = decide (y ∈ xs) := by
  rw [List.findIdx?_isSome]
  by_cases h : y ∈ xs
  · rw [decide_eq_true h, List.any_eq_true]
    obtain ⟨e, he, hx⟩ := paired_mem hL h
    exact ⟨e, hp.mem_iff.mpr he, by rw [ent_is hx y, decide_eq_true rfl]⟩
  · rw [decide_eq_false h, List.any_eq_false]
    intro e he
    obtain ⟨i, hi⟩ := List.mem_iff_getElem?.mp (hp.mem_iff.mp he)
    obtain ⟨x, hxi, hx⟩ := Paired.at' hL hi
    rw [ent_is hx y, decide_eq_true_eq]
    exact fun z => h (by rw [z]; exact List.mem_of_getElem? hxi)
theorem fz_store {h : Heap} {a : Addr} {o : Obj} {es es' L' : _} {ep : Nat} {t t' : SetTable} {ys : List Str} (ho : h.get? a = some o) (hc : o.cls = .type "frozenset") (hn : o.dict = none) (hd : o.data = .set es ep t) (hf : t'.fits es'.size = true)
    (hp : es'.toList.Perm L') (hL : Paired (EntS w) L' ys) : (h.update a (Obj.putSet es' t')).get? a = some { o with data := .set es' (ep + 1) t' } ∧ FzIs w (h.update a (Obj.putSet es' t')) a ys := by
  have hg : (h.update a (Obj.putSet es' t')).get? a = some { o with data := .set es' (ep + 1) t' } := by
    have := Heap.get?_update_self (Obj.putSet es' t') ho (by rw [putSet_of es' t' hd]; rfl)
    rwa [putSet_of es' t' hd] at this
  exact ⟨hg, _, es', ep + 1, t', L', hg, hc, hn, rfl, hf, hp, hL⟩
theorem fz_add {a : Addr} {xs : List Str} {x : Str} {tk : Tok} {Q : Bool → Shared → Prop} (h0 : FzIs w s.heap a xs) (hx : x ∉ xs) (few : xs.length + 1 < 1000)
    (h : ∀ h', Heap.SameBut a s.heap h' → FzIs w h' a (xs ++ [x]) → Q true { s with heap := h' }) : wpAny (model P w) A (setAddHashed a (.str x tk) (hashStr w x)) Q E s := by
  obtain ⟨o, es, ep, t, L, ho, hc, hn, hd, hf, hp, hL⟩ := h0.ex
  have hel := ent_elems (P := P) hp hL
  have hsz : es.size = xs.length := by rw [← Array.length_toList, hp.length_eq, hL.length]
  have hkey : (PySem.strKind P w).is x (.str x tk) = true := by rw [ent_is (e := (hashStr w x, .str x tk)) ⟨rfl, tk, rfl⟩ x, decide_eq_true rfl]
  have hsc : (Value.str x tk).scannable = true := rfl
  have hb : es.size < scanBound := by unfold scanBound; omega
  unfold setAddHashed setAddHashedIn
  refine wpAny_holding (wpAny_bind (wpAny_setState_of ho hd hf ?_))
  dsimp only
  rw [byScan_of hsc hb hel]
  simp only [↓reduceIte]
  unfold setAddByScan
  refine wpAny_bind ?_
  refine wpAny_bind (wpAny_rule ?_)
  refine wpAny_bind (wpAny_setScan_of (knd := PySem.strKind P w) hkey ho hd hf hel ?_)
  have hno : es.toList.findIdx? (fun e => (PySem.strKind P w).is x e.2) = none := by
    have := ent_find (P := P) hp hL x
    rw [decide_eq_false hx] at this
    exact Option.not_isSome_iff_eq_none.mp (by rw [this]; decide)
  rw [hno]
  dsimp only
  have hgw : ∀ (b : Bool) {s1 : Shared} {Q' : Unit → Shared → Prop}, Q' () s1 → wpAny (model P w) A (match b with | true => rule "set.scan.the-table-gave-way" | false => pure ()) Q' E s1 :=
    fun b s1 Q' q => by cases b <;> first | exact wpAny_pure q | exact wpAny_rule q
  have hperm := layNew_perm t es (hashStr w x) (.str x tk)
  have hfits := layNew_fits t es (hashStr w x) (.str x tk)
  generalize layNew t es (hashStr w x) (.str x tk) = L1 at hperm hfits ⊢
  obtain ⟨es1, t1, wasDummy, gave⟩ := L1
  dsimp only at hperm hfits ⊢
  rw [Array.toList_push] at hperm
  have hp1 : es1.toList.Perm (L ++ [(hashStr w x, .str x tk)]) := hperm.trans (hp.append_right _)
  have hL1 : Paired (EntS w) (L ++ [(hashStr w x, .str x tk)]) (xs ++ [x]) := Paired.snoc hL ⟨rfl, tk, rfl⟩
  have hsz1 : es1.size < scanBound := by
    rw [← Array.length_toList, hp1.length_eq, hL1.length, List.length_append]
    show xs.length + 1 < 4096
    omega
  have tail : ∀ t2 : SetTable, t2.fits es1.size = true → wpAny (model P w) A (do
        storeSet a es1 t2
        if (!wasDummy && t2.tooFull) = true then do
            (match (relayAll t2 es1 (SetTable.grown es1.size)).2.2 with | true => rule "set.scan.the-table-gave-way" | false => pure ())
            storeSet a (relayAll t2 es1 (SetTable.grown es1.size)).1 (relayAll t2 es1 (SetTable.grown es1.size)).2.1
            pure (some true)
          else pure (some true)) (fun r s' => r = some true ∧ Q true s') E s := fun t2 hf2 => by
    refine wpAny_bind (wpAny_storeSet_of ho hd ?_ (fits_of_scanBound hsz1))
    obtain ⟨ho1, hS1⟩ := fz_store (w := w) ho hc hn hd hf2 hp1 hL1
    have hsb1 := Heap.SameBut.update s.heap a (Obj.putSet es1 t2)
    split
    · have hpr := relayAll_perm t2 es1 (SetTable.grown es1.size)
      have hfr := relayAll_fits t2 es1 (SetTable.grown es1.size)
      generalize relayAll t2 es1 (SetTable.grown es1.size) = R1 at hpr hfr ⊢
      obtain ⟨es2, t3, gave2⟩ := R1
      dsimp only at hpr hfr ⊢
      have hsz2 : es2.size < scanBound := by rw [← Array.length_toList, hpr.length_eq, Array.length_toList]; exact hsz1
      refine wpAny_bind (hgw _ ?_)
      refine wpAny_bind (wpAny_storeSet_of ho1 rfl ?_ (fits_of_scanBound hsz2))
      obtain ⟨_, hS2⟩ := fz_store (w := w) ho1 hc hn rfl hfr (hpr.trans hp1) hL1
      exact wpAny_pure ⟨rfl, h _ (hsb1.trans (Heap.SameBut.update _ a _)) hS2⟩
    · exact wpAny_pure ⟨rfl, h _ hsb1 hS1⟩
  refine wpAny_bind (hgw _ ?_)
  split
  · refine wpAny_bind ?_
    rw [hashByValue_scannable 8 hsc]
    refine wpAny_pure ?_
    refine wpAny_mono (tail _ ?_) (fun r s' z => ?_) fun _ _ z => z
    · split
      · exact hfits
      · exact SetTable.fits_plain_off hfits
    · rw [z.1]; exact wpAny_pure z.2
  · refine wpAny_bind (wpAny_pure ?_)
    simp only [↓reduceIte]
    refine wpAny_mono (tail _ hfits) (fun r s' z => ?_) fun _ _ z => z
    rw [z.1]; exact wpAny_pure z.2
end
section
variable {prog : Program} {w : World} {A : Around} {R : Result → Shared → Prop} {I : Addr} {fp wr : List Addr} {G : Array GenState → Array GenState → Prop} {n : Nat} {P : Nat → Value → Prop} {St : Nat → Shared → Prop}
theorem FzIs.moved {h h' : Heap} {a : Addr} {xs : List Str} (x : FzIs w h a xs) (k : ∀ o, h.get? a = some o → h'.get? a = some o) : FzIs w h' a xs := by
  obtain ⟨o, es, ep, t, L, ho, r⟩ := x.ex
  exact ⟨o, es, ep, t, L, k o ho, r⟩
theorem loopFz (W : WalksS prog w A.in1 I fp wr G n P St) (S : Addr) (hSf : S ∉ fp) (xs : List Str) (hsz : xs.length = n) (hnd : xs.Nodup) (hn1 : n ≤ 900)
    (hval : ∀ i v, P i v → ∃ t, v = .str (xs.getD i Str.empty) t) :
    ∀ (k i : Nat) (s : Shared), n - i = k → i ≤ n → St i s → FzIs w s.heap S (xs.take i) →
      (∀ s', Moved (S :: wr) G s s' → FzIs w s'.heap S (xs.take n) → R (.ok (.ret .none)) s') →
      codeAny (model prog w) A (.builtin "set.update.loop" ⟨[.ref S, .ref I], []⟩) R s := by
  have hSw : S ∉ wr := fun h => hSf (W.sub _ h)
  have hsub : ∀ b ∈ wr, b ∈ S :: wr := fun b hb => List.mem_cons_of_mem _ hb
  intro k
  induction k with
  | zero =>
    intro i s hk hi hst hS hR
    have hin : i = n := by omega
    subst hin
    refine codeAny_builtin PyProof.Rows.F.entry_set_update_loop ?_
    rw [Around.under_plainId PyProof.Rows.F.plain_set_update_loop _]
    show wpAny _ A.in1 (pyNext (.ref I) >>= _) _ _ s
    refine wpAny_bind (W.done s _ _ hst fun s' hm => ?_)
    show wpAny _ A.in1 (ret Value.none) _ _ s'
    exact wpAny_pure (hR s' (hm.mono hsub) (hS.moved fun o e => hm.heap S o hSw e))
  | succ k ih =>
    intro i s hk hi hst hS hR
    have hlt : i < n := by omega
    refine codeAny_builtin PyProof.Rows.F.entry_set_update_loop ?_
    rw [Around.under_plainId PyProof.Rows.F.plain_set_update_loop _]
    show wpAny _ A.in1 (pyNext (.ref I) >>= _) _ _ s
    refine wpAny_bind (W.item i s _ _ hlt hst fun v s' hP hst' hm => ?_)
    obtain ⟨t, rfl⟩ := hval i v hP
    have hS' : FzIs w s'.heap S (xs.take i) := hS.moved fun o e => hm.heap S o hSw e
    have hx : xs[i]? = some (xs.getD i Str.empty) := by rw [List.getElem?_eq_getElem (by omega), List.getD_eq_getElem?_getD, List.getElem?_eq_getElem (by omega)]; rfl
    show wpAny _ A.in1 (holding [Value.str (xs.getD i Str.empty) t] (setAdd S (.str (xs.getD i Str.empty) t)) >>= _) _ _ s'
    refine wpAny_bind (wpAny_holding ?_)
    unfold setAdd
    refine wpAny_holding ?_
    refine wpAny_bind ((PySem.strKind prog w).pyHash (k := xs.getD i Str.empty) (strKind_is _ _ _ _) ?_)
    refine fz_add (P := prog) (s := { s' with toks := s'.toks + 1 }) hS' (not_mem_take hnd hx) (by rw [List.length_take]; omega) fun h' hsb hS2 => ?_
    have hSi : FzIs w h' S (xs.take (i + 1)) := by rw [List.take_add_one, hx]; exact hS2
    refine wpAny_pure ⟨plainId_quiet PyProof.Rows.F.plain_set_update_loop _, ih (i + 1) _ (by omega) hlt (W.frame _ s' _ _ hst' (Nat.le_succ _) fun b hb o e => ?_) hSi fun s'' hm'' hS'' => ?_⟩
    · rw [hsb.2 b (fun h : b = S => hSf (by rw [← h]; exact hb))]; exact e
    · refine hR s'' (Moved.trans W.gtrans ((hm.mono hsub).then_heap (Nat.le_succ _) fun b o hb e => ?_) hm'') hS''
      rw [hsb.2 b (fun h : b = S => hb (by rw [h]; exact List.mem_cons_self))]; exact e
end
section
variable {prog : Program} {w : World} {A : Around} {E : Value → Shared → Prop} {s : Shared}
theorem fz_fresh {h : Heap} {a : Addr} {led : Bool} (ho : h.get? a = some { cls := .type "frozenset", dict := none, data := .set #[] 0 (.fresh 0 0 led) }) : FzIs w h a [] :=
  ⟨_, #[], 0, _, [], ho, rfl, rfl, rfl, rfl, List.Perm.refl _, .nil⟩
set_option maxHeartbeats 8000000 in
theorem code_fz_new {l : Addr} {items : Array Value} {xs : List Str} {Q1 : Value → Shared → Prop}
    (hh : A.handled = none) (hl : s.heap.IsTuple l items) (hi : PyProof.Rows.StrsAre items.toList xs) (hnd : xs.Nodup) (hn1 : xs.length ≤ 900)
    (h : ∀ (h' : Heap) (tk : Nat), FzIs w h' s.heap.objs.size xs → (∀ b o, b < s.heap.objs.size → s.heap.get? b = some o → h'.get? b = some o) → Q1 (.ref s.heap.objs.size) { s with heap := h', toks := tk }) :
    codeAny (model prog w) A (.call (.builtin "frozenset.__new__") ⟨[.type "frozenset", .ref l], []⟩) (wants Q1 E) s := by
  refine codeAny_of_tree ?_
  show wpAny _ A.in1 (do checkBuiltinCall "frozenset.__new__" ⟨[.type "frozenset", .ref l], []⟩; again (.builtin "frozenset.__new__" ⟨[.type "frozenset", .ref l], []⟩)) _ _ s
  refine wpAny_bind (wpAny_of_eq (fz_new1 _) (wpAny_pure ⟨plainId_quiet fz_plain _, codeAny_builtin fz_entry ?_⟩))
  rw [Around.under_plainId fz_plain _]
  obtain ⟨ol, hol, hcl, nl, hdl⟩ := hl
  obtain ⟨ocls, odict, odata, oslots⟩ := ol
  simp only at hcl hdl
  subst hcl; subst hdl
  have hsub := fz_self
  have hin := fz_init.lookup
  unfold Builtin.«frozenset.__new__» Builtin.Frozenset.newClass Builtin.Frozenset.newFrom newSet setsByText
  obtain ⟨hp, g, d, tk, os⟩ := s
  dsimp only at hol ⊢
  generalize hUF : Builtin.Frozenset.updateFrom = UF
  wp_walk
  refine wpAny_askSetting (wpAny_pure ?_)
  dsimp only
  simp only [newObj]
  refine wpAny_bind (wpAny_alloc (wpAny_pure ?_))
  subst hUF
  generalize (!(model prog w).w.params.followText "set-order") = led
  dsimp only
  have hS : (hp.push { cls := .type "frozenset", dict := none, data := .set #[] 0 (.fresh 0 0 led) }).get? hp.objs.size = some { cls := .type "frozenset", dict := none, data := .set #[] 0 (.fresh 0 0 led) } := Heap.get?_push_size _ rfl
  have hol' : (hp.push { cls := .type "frozenset", dict := none, data := .set #[] 0 (.fresh 0 0 led) }).get? l = some { cls := .type "tuple", dict := odict, data := .seq items nl, slots := oslots } := Heap.get?_push_of_some _ hol
  have hsls := PySem.F.sub_tuple_set
  have hslf := PySem.F.sub_tuple_frozenset
  have hne : (Value.type "tuple" == Value.type "dict") = false := by decide
  have hl1 : (hp.push { cls := .type "frozenset", dict := none, data := .set #[] 0 (.fresh 0 0 led) }).IsTuple l items := ⟨_, hol', rfl, nl, rfl⟩
  unfold Builtin.Frozenset.updateFrom
  generalize hPI : pyIter = PI
  wp_walk
  subst hPI
  refine wpAny_pyIter_tuple hl1 ?_
  refine wpAny_bind (wpAny_runValue ?_)
  have hlS : l < hp.objs.size := Heap.lt_size hol
  have hh3 : A.in1.in1.handled = none := by simp [hh]
  have hneI : l ≠ (hp.push { cls := .type "frozenset", dict := none, data := .set #[] 0 (.fresh 0 0 led) }).objs.size := by
    rw [Heap.size_push]; exact Nat.ne_of_lt (Nat.lt_succ_of_lt hlS)
  have hSf : hp.objs.size ∉ [(hp.push { cls := .type "frozenset", dict := none, data := .set #[] 0 (.fresh 0 0 led) }).objs.size, l] := by
    rw [Heap.size_push]
    simp only [List.mem_cons, List.not_mem_nil, or_false, not_or]
    exact ⟨Nat.ne_of_lt (Nat.lt_succ_self _), Nat.ne_of_gt hlS⟩
  have hsz : xs.length = items.size := by rw [← StrsAre.len_eq hi, Array.length_toList]
  have hval : ∀ (i : Nat) (v : Value), items[i]? = some v → ∃ t, v = .str (xs.getD i Str.empty) t := fun i v hv => SS.strs_at hi i v (by rw [Array.getElem?_toList]; exact hv)
  refine loopFz ((Walks.tuple hh3 _ l hneI items).toS) hp.objs.size hSf xs hsz hnd (by rw [← hsz]; exact hn1) hval (items.size - 0) 0 _ (by omega) (Nat.zero_le _)
    ⟨⟨_, Heap.get?_push_size _ rfl, rfl, rfl⟩, (hl1.push _)⟩ (fz_fresh (Heap.get?_push_of_some _ hS)) ?hR
  intro s' hm hS'
  obtain ⟨h', g', d', tk', os'⟩ := s'
  have eg : g' = g := hm.gens
  have ed : d' = d := hm.drawn
  have eo : os' = os := hm.os
  subst eg; subst ed; subst eo
  show wpAny _ _ _ _ _ _
  refine wpAny_pure (wpAny_pure ?_)
  show wpAny _ _ (ret _) _ _ _
  refine wpAny_pure (h h' tk' (by rw [← hsz, List.take_length] at hS'; exact hS') fun b o hb e => ?_)
  have hb1 : b ≠ hp.objs.size := Nat.ne_of_lt hb
  have hb2 : b ≠ (hp.push { cls := .type "frozenset", dict := none, data := .set #[] 0 (.fresh 0 0 led) }).objs.size := by
    rw [Heap.size_push]; exact Nat.ne_of_lt (Nat.lt_succ_of_lt hb)
  exact hm.heap b o (by simp only [List.mem_cons, List.not_mem_nil, or_false, not_or]; exact ⟨hb1, hb2⟩) (Heap.get?_push_of_some _ (Heap.get?_push_of_some _ e))
theorem call_fz {l : Addr} {items : Array Value} {xs : List Str} {Q : Value → Shared → Prop}
    (hh : A.handled = none) (hl : s.heap.IsTuple l items) (hi : PyProof.Rows.StrsAre items.toList xs) (hnd : xs.Nodup) (hn1 : xs.length ≤ 900)
    (h : ∀ (h' : Heap) (tk : Nat), FzIs w h' s.heap.objs.size xs → (∀ b o, b < s.heap.objs.size → s.heap.get? b = some o → h'.get? b = some o) → Q (.ref s.heap.objs.size) { s with heap := h', toks := tk }) :
    wpAny (model prog w) A (call (.type "frozenset") [.ref l]) Q E s := by
  refine callType_codes (T := "frozenset") (Bi := Builtin.«object.__init__») (Q₁ := fun r s1 => (∃ a xs, r = .ref a ∧ FzIs w s1.heap a xs) ∧ Q r s1) fz_called (fz_type1 _) PySem.F.entry_object_init ?_ ?_
  · exact code_fz_new (A := A.in1) (by simp [hh]) hl hi hnd hn1 fun h' tk hS hk => ⟨⟨_, _, rfl, hS⟩, h h' tk hS hk⟩
  · rintro obj s1 ⟨⟨a, ys, rfl, hS⟩, hq⟩
    obtain ⟨o, es, ep, t, L, ho, hc, _⟩ := hS.ex
    have hT : s1.TypeIs (.ref a) "frozenset" := ⟨o, ho, hc⟩
    exact ⟨hT, PySem.F.args_object_init_2 _ _, object_init_meets fz_called.init.lookup fz_called.made (by decide) prog w A.in1 _ s1 ⟨hT, rfl, hq⟩⟩
theorem xor_perm {f : Int → Nat} {l m : List Int} (p : l.Perm m) : ∀ a : Nat, l.foldl (fun acc x => acc ^^^ f x) a = m.foldl (fun acc x => acc ^^^ f x) a := by
  induction p with
  | nil => intro a; rfl
  | cons x _ ih => intro a; exact ih _
  | swap x y l =>
    intro a
    show List.foldl _ (a ^^^ f y ^^^ f x) l = List.foldl _ (a ^^^ f x ^^^ f y) l
    rw [Nat.xor_assoc, Nat.xor_comm (f y), ← Nat.xor_assoc]
  | trans _ _ h1 h2 => intro a; exact (h1 a).trans (h2 a)
theorem hash_perm {l m : List Int} (p : l.Perm m) : Builtin.Frozenset.hashOf l = Builtin.Frozenset.hashOf m := by
  unfold Builtin.Frozenset.hashOf
  dsimp only
  rw [xor_perm p, p.length_eq]
theorem ent_hash {L : List (Int × Value)} {xs : List Str} : Paired (EntS w) L xs → L.map (·.1) = xs.map (hashStr w)
  | .nil => rfl
  | .cons h r => by rw [List.map_cons, List.map_cons, h.1, ent_hash r]
theorem fz_args (a b : Value) : argsOk "frozenset.__eq__" ⟨[a, b], []⟩ := by unfold argsOk; kernel_rfl
theorem fz_few {h : Heap} {a : Addr} {xs : List Str} (x : FzIs w h a xs) : ∃ (o : Obj) (es : Array (Int × Value)) (ep : Nat) (t : SetTable) (L : List (Int × Value)), h.get? a = some o ∧ o.cls = .type "frozenset" ∧ o.dict = none ∧ o.data = .set es ep t ∧ t.fits es.size = true ∧ es.toList.Perm L ∧ Paired (EntS w) L xs ∧ es.size = xs.length := by
  obtain ⟨o, es, ep, t, L, h1, h2, h3, h4, h5, hp, hL⟩ := x.ex
  exact ⟨o, es, ep, t, L, h1, h2, h3, h4, h5, hp, hL, by rw [← Array.length_toList, hp.length_eq, hL.length]⟩
theorem fz_find {a : Addr} {xs : List Str} {x : Str} {tk : Tok} {Q : Option Nat → Shared → Prop} (h0 : FzIs w s.heap a xs) (few : xs.length ≤ 900) (hx : x ∈ xs) (h : ∀ r : Option Nat, r.isSome = true → Q r s) :
    wpAny (model prog w) A (setFind a (.str x tk) (hashStr w x)) Q E s := by
  obtain ⟨o, es, ep, t, L, ho, hc, hn, hd, hf, hp, hL, hsz⟩ := fz_few h0
  have hel := ent_elems (P := prog) hp hL
  have hkey : (PySem.strKind prog w).is x (.str x tk) = true := by rw [ent_is (e := (hashStr w x, .str x tk)) ⟨rfl, tk, rfl⟩ x, decide_eq_true rfl]
  have hsc : (Value.str x tk).scannable = true := rfl
  have hb : es.size < scanBound := by unfold scanBound; omega
  unfold setFind setFindIn
  refine wpAny_bind (wpAny_setState_of ho hd hf ?_)
  dsimp only
  rw [byScan_of hsc hb hel]
  simp only [↓reduceIte]
  refine wpAny_bind (wpAny_rule ?_)
  refine wpAny_bind (wpAny_setScan_of (knd := PySem.strKind prog w) hkey ho hd hf hel ?_)
  have hfd := ent_find (P := prog) hp hL x
  rw [decide_eq_true hx] at hfd
  cases hr : List.findIdx? (fun e => (PySem.strKind prog w).is x e.2) es.toList with
  | none => rw [hr] at hfd; cases hfd
  | some j =>
    dsimp only
    exact wpAny_pure (h _ rfl)
theorem subset_fz {id : String} {a b : Addr} {xs : List Str} {Q : Bool → Shared → Prop} (ha : FzIs w s.heap a xs) (hb : FzIs w s.heap b xs) (few : xs.length ≤ 900) (h : Q true s) :
    wpAny (model prog w) A (Builtin.Frozenset.subsetOf id a b) Q E s := by
  obtain ⟨o, es, ep, t, L, ho, hc, hdn, hd, hf, hp, hL, hsz⟩ := fz_few ha
  obtain ⟨o2, es2, ep2, t2, L2, ho2, hc2, hdn2, hd2, hf2, hp2, hL2, hsz2⟩ := fz_few hb
  have e1 : ∀ {Q : Array (Int × Value) → Shared → Prop}, Q es s → wpAny (model prog w) A (setEntries a) Q E s := fun q => wpAny_setEntries_of ho hd hf q
  have e2 : ∀ {Q : Array (Int × Value) → Shared → Prop}, Q es2 s → wpAny (model prog w) A (setEntries b) Q E s := fun q => wpAny_setEntries_of ho2 hd2 hf2 q
  have key : ∀ {M : List (Int × Value)} {l : List (Int × Value)}, l.Perm M → Paired (EntS w) M xs → ∀ e ∈ l, ∃ y ∈ xs, EntS w e y := fun hpp hM e he => by
    obtain ⟨i, hi⟩ := List.mem_iff_getElem?.mp (hpp.mem_iff.mp he)
    obtain ⟨y, hy, hx⟩ := Paired.at' hM hi
    exact ⟨y, List.mem_of_getElem? hy, hx⟩
  unfold Builtin.Frozenset.subsetOf Builtin.Frozenset.sizeOf
  refine wpAny_bind (wpAny_bind (e1 (wpAny_pure ?_)))
  refine wpAny_bind (wpAny_bind (e2 (wpAny_pure ?_)))
  rw [if_neg (by omega)]
  refine wpAny_bind (wpAny_setEpoch_of ho hd hf ?_)
  have walk : wpAny (model prog w) A (Builtin.Frozenset.walkUnseen a b) (fun l s' => l = es.toList ∧ s' = s) E s := by
    unfold Builtin.Frozenset.walkUnseen
    refine wpAny_bind (e1 ?_)
    refine wpAny_bind (e2 ?_)
    refine wpAny_bind (wpAny_mono (wpAny_forIn_list _ (fun rest (b : Option (List (Int × Value)) × Unit) s' => b.1 = none ∧ s' = s ∧ ∀ e ∈ rest, ∃ y ∈ xs, EntS w e y) (fun b s' => b.1 = none ∧ s' = s) ?_ ?_ _ _ ?_) (fun bb s' z => ?_) fun _ _ z => z)
    · rintro ⟨h1, x⟩ rest bb s' ⟨hb', rfl, hall⟩
      obtain ⟨y, _, _, tk, hx⟩ := hall _ (List.mem_cons_self ..)
      simp only at hx
      subst hx
      unfold Builtin.Frozenset.quietEq
      dsimp only
      refine wpAny_bind (wpAny_pure ?_)
      rw [if_neg (by decide)]
      exact wpAny_pure ⟨rfl, rfl, fun e he => hall e (List.mem_cons_of_mem _ he)⟩
    · rintro bb s' ⟨hb', rfl, _⟩
      exact ⟨hb', rfl⟩
    · refine ⟨rfl, rfl, fun e he => ?_⟩
      rcases List.mem_append.mp he with z | z
      · exact key hp hL e z
      · exact key hp2 hL2 e z
    · obtain ⟨b1, b2⟩ := bb
      obtain ⟨z1, rfl⟩ := z
      simp only at z1
      subst z1
      exact wpAny_pure ⟨rfl, rfl⟩
  refine wpAny_bind (wpAny_mono walk (fun l s' z => ?_) fun _ _ z => z)
  obtain ⟨z1, z2⟩ := z
  rw [z1, z2]
  refine wpAny_bind (wpAny_mono (wpAny_forIn_list _ (fun rest (b : Option Bool × Unit) s' => b.1 = none ∧ s' = s ∧ ∀ e ∈ rest, ∃ y ∈ xs, EntS w e y) (fun b s' => b.1 = none ∧ s' = s) ?_ ?_ _ _ ?_) (fun bb s' z => ?_) fun _ _ z => z)
  · rintro ⟨h1, x⟩ rest bb s' ⟨hb', rfl, hall⟩
    obtain ⟨y, hy, e1, tk, hx⟩ := hall _ (List.mem_cons_self ..)
    simp only at hx e1
    subst hx e1
    dsimp only
    refine wpAny_bind (wpAny_holding (fz_find hb few hy fun r hr => ?_))
    rw [if_neg (by cases r <;> simp_all)]
    unfold Builtin.Frozenset.unchanged
    refine wpAny_bind (wpAny_bind (wpAny_setEpoch_of ho hd hf ?_))
    rw [if_neg (by simp)]
    exact wpAny_pure (wpAny_pure ⟨rfl, rfl, fun e he => hall e (List.mem_cons_of_mem _ he)⟩)
  · rintro bb s' ⟨hb', rfl, _⟩
    exact ⟨hb', rfl⟩
  · exact ⟨rfl, rfl, key hp hL⟩
  · obtain ⟨b1, b2⟩ := bb
    obtain ⟨z1, rfl⟩ := z
    simp only at z1
    subst z1
    exact wpAny_pure h
set_option maxHeartbeats 8000000 in
theorem body_fz {a b : Addr} {xs : List Str} {Q : Value → Shared → Prop} (ha : FzIs w s.heap a xs) (hb : FzIs w s.heap b xs) (hn : xs.length ≤ 900) (h : (fun v s' => wants Q E (.ok (.ret v)) s') (.bool true) s) :
    wpAny (model prog w) A.in1 (Builtin.«frozenset.__eq__» ⟨[.ref a, .ref b], []⟩) (GQ.FinOf prog w A (wants Q E)) (fun e s' => wants Q E (.error e) s') s := by
  have ha' := ha
  have hb' := hb
  obtain ⟨⟨oc, od, odt, osl⟩, es, ep, t, L, ho, hc, hdn, hd, hf, hp, hL, hsz⟩ := fz_few ha
  obtain ⟨⟨oc2, od2, odt2, osl2⟩, es2, ep2, t2, L2, ho2, hc2, hdn2, hd2, hf2, hp2, hL2, hsz2⟩ := fz_few hb
  simp only at hc hdn hd hc2 hdn2 hd2
  subst hc hdn hd hc2 hdn2 hd2
  have f1 := fz_self
  have f2 := fz_noset
  have hT : s.TypeIs (.ref a) "frozenset" := ⟨_, ho, rfl⟩
  have hT2 : s.TypeIs (.ref b) "frozenset" := ⟨_, ho2, rfl⟩
  have hs : (es.size != es2.size) = false := by rw [hsz, hsz2]; simp
  have hpm : (es.toList.map (·.1)).Perm (es2.toList.map (·.1)) := by
    refine (hp.map _).trans ?_
    rw [ent_hash hL, ← ent_hash hL2]
    exact (hp2.map _).symm
  have hh : (Builtin.Frozenset.hashOf (es.toList.map (·.1)) != Builtin.Frozenset.hashOf (es2.toList.map (·.1))) = false := by rw [hash_perm hpm]; simp
  obtain ⟨hp_, g, d, tk, os⟩ := s
  have fit : ∀ {t : SetTable} {n : Nat}, t.fits n = true → (t.place.size != n || decide (t.fill > t.mask)) = false := fun {t n} hf => by
    simp only [SetTable.fits, Bool.and_eq_true, beq_iff_eq, decide_eq_true_eq] at hf
    simp [hf.1, Nat.not_lt.mpr hf.2]
  have g1 := fit hf
  have g2 := fit hf2
  wp_walk
  rw [if_neg (by rw [g1]; decide)]
  refine wpAny_pure (wpAny_pure (wpAny_pure ?_))
  refine wpAny_bind ?_
  unfold Builtin.Frozenset.sizeOf
  refine wpAny_bind (wpAny_setEntries_of ho2 rfl hf2 (wpAny_pure ?_))
  dsimp only
  refine wpAny_bind ?_
  rw [if_neg (by rw [hs]; decide)]
  wp_walk
  rw [if_neg (by rw [g1]; decide)]
  refine wpAny_pure (wpAny_pure ?_)
  refine wpAny_bind (wpAny_setEntries_of ho2 rfl hf2 ?_)
  rw [if_neg (by rw [hh]; decide)]
  exact subset_fz ha' hb' hn (wpAny_pure h)
end
/-- the frozenset of the texts xs at a -/
def FzO (w : World) (a : Addr) (xs : List Str) : HO := .ext fun h => FzIs w h a xs
theorem fzO_new {P : Program} {w : World} {H : Hp} {h : Heap} {a : Addr} {xs : List Str} (x : FzIs w h a xs) : ObjOk P w H h a (FzO w a xs) := by
  refine ⟨x, ?_, fun h1 h2 y k => FzIs.moved y fun o e => k o e⟩
  obtain ⟨o, es, ep, t, L, ho, _⟩ := x.ex
  exact ⟨o, ho⟩
section
variable {X : Cx}
def rFz (K : PySem.W.Frag) (w : World) : List V → Hp → VK → Prop := fun vs H Q => ∃ (l : Addr) (xs : List Str), vs = [V.ref l] ∧ SqT K H l (xs.map V.str) ∧ xs.Nodup ∧ xs.length ≤ 900 ∧ ∀ p, H p = none → Q (.ref p) (upd H p (FzO w p xs))
theorem cr_fz (hc : X.calm = true) : CallR X (.type "frozenset") (rFz X.K X.w) := by
  intro pins s σ H xs us Q I r h
  obtain ⟨l, ys, rfl, hl, nd, hn, q⟩ := h
  rw [Vals.ref1 r]
  obtain ⟨its, rv, hT, hz⟩ := I.tuple hl
  refine call_fz (I.ok.hd hc) hT (by simpa using strsAre_of rv) nd hn fun h' tk hS hk => ?_
  exact ⟨.ref s.heap.objs.size, upd H s.heap.objs.size (FzO X.w s.heap.objs.size ys), I.laid (t' := tk) (fun b o e => hk b o (Heap.lt_size e) e) (Nat.le_refl _) (fzO_new hS), rfl, q _ (I.hok.fresh (Nat.le_refl _))⟩
def rFzEq (w : World) : R2 := fun x y H Q => ∃ (a b : Addr) (xs : List Str), x = .ref a ∧ y = .ref b ∧ H a = some (FzO w a xs) ∧ H b = some (FzO w b xs) ∧ xs.length ≤ 900 ∧ Q (.bl true) H
theorem op_fz (hu : X.A.units < cLine) : OpR X (compareOp .Eq) (rFzEq X.w) := by
  intro pins s σ H x y v u Q I rx ry h
  obtain ⟨a, b, xs, rfl, rfl, ha, hb, hn, q⟩ := h
  cases rx
  cases ry
  obtain ⟨ha1, _⟩ := I.hok a _ ha
  obtain ⟨hb1, _⟩ := I.hok b _ hb
  have ha2 : FzIs X.w s.heap a xs := ha1
  have hb2 : FzIs X.w s.heap b xs := hb1
  obtain ⟨o, es, ep, t, L, ho, hcc, _⟩ := ha2.ex
  obtain ⟨o2, es2, ep2, t2, L2, ho2, hcc2, _⟩ := hb2.ex
  show wpAny (model X.prog X.w) X.A (richCompare .Eq (.ref a) (.ref b)) (EP X pins σ Q) X.xe s
  refine wpAny_richCompare_same_room (op := .Eq) ⟨_, ho, hcc⟩ ⟨_, ho2, hcc2⟩ fz_eq (GQ.call_here fz_eq ⟨_, ho, hcc⟩ fz_eqEntry (fz_args _ _) ?_) hu
  exact body_fz (Q := fun v s' => v ≠ .notImplemented ∧ EP X pins σ Q v s') ha2 hb2 hn ⟨(fun z => nomatch z), .bl true, H, I, rfl, q⟩
end
end K36
/-! text KR8 -/
/-! == of rows, grounds, rooms -/
namespace K36
open PySem PySem.Spec PyProof.Rows L2
open LamX (Tabs TabS TabB ExtN CodeO)
/-- what the written part says of the own classes' == -/
structure OwnC (K : PySem.W.Frag) : Prop where
  row : C8.InsC K (He.ga K "Row")
  room : C8.InsC K (He.ga K "Room")
  ground : C8.InsC K (He.ga K "Ground")
  rowEq : PySem.W.findIn K (.ref (He.ga K "Row")) "__eq__" = some (some (.ref (He.ma K (He.ga K "Row") "__eq__")))
  rowFn : PySem.W.isFn K (.ref (He.ma K (He.ga K "Row") "__eq__")) = true
  roomEq : PySem.W.findIn K (.ref (He.ga K "Room")) "__eq__" = some (some (.ref (He.ma K (He.ga K "Room") "__eq__")))
  roomFn : PySem.W.isFn K (.ref (He.ma K (He.ga K "Room") "__eq__")) = true
  groundNe : NeC K (He.ga K "Ground") (He.ma K (He.ga K "Ground") "__eq__")
  rowNe : NeC K (He.ga K "Row") (He.ma K (He.ga K "Row") "__eq__")
  rowStr : PySem.W.findIn K (.ref (He.ga K "Row")) "__str__" = some (some (.ref (He.ma K (He.ga K "Row") "__str__")))
  rowTup : PySem.W.kitOne K (.ref (He.ga K "Row")) (.type "tuple") = some false
  strFn : PySem.W.isFn K (.ref (He.ma K (He.ga K "Row") "__str__")) = true
/-- the same object -/
def DSame : Eqv := fun x y _ => x = y ∧ ∃ a, x = .ref a
theorem mon_same : Mon DSame := fun _ _ _ _ _ d => d
theorem eqG_same {X : Cx} : EqG X 0 DSame := by
  intro A pins s σ H x y u v sb I rx ry d
  obtain ⟨rfl, a, rfl⟩ := d
  cases rx
  cases ry
  exact SeqAt.EqAt.same (A := A) (s := s) (.ref a) X.prog X.w X.xe _ ⟨rfl, H, I, Ext.rfl'⟩
/-- a rule of == within a block: the written part said -/
def DFS : Eqv := fun x y H => DFlat x y H ∨ DSame x y H
theorem mon_FS : Mon DFS := mon_flat.or mon_same
theorem eqG_FS {X : Cx} : EqG X 0 DFS := eqG_flat.or eqG_same
theorem rc_five {X : Cx} : RcG X 1 (DTup X.K DFS) := rcG_tup mon_FS eqG_FS
theorem dfs_flat {v : V} {H : Hp} (h : flatV v = true) (h2 : eqV v v = true) : DFS v v H := .inl ⟨h, h, h2⟩
theorem dfs_int {i : Int} {H : Hp} : DFS (.int i) (.int i) H := dfs_flat rfl (by unfold eqV; first | rfl | simp)
theorem dfs_ref {a : Addr} {H : Hp} : DFS (.ref a) (.ref a) H := .inr ⟨rfl, a, rfl⟩
theorem prs_enc (r : RowD) (H : Hp) : Prs DFS r.enc r.enc H := Prs.cons dfs_int (Prs.cons dfs_int (Prs.cons dfs_int (Prs.cons dfs_ref (Prs.cons dfs_int Prs.nil))))
section
variable {P : Program} {w : World} {K : PySem.W.Frag} {mg : Str → Option Value} {base : Heap}
abbrev N_Row_five : List Str := ["self"]
theorem sc_Row_five : FnScope N_Row_five ["self"] (defScope s_Row_five) := ⟨rfl, rfl, rfl, by decide +kernel, rfl, by decide +kernel, by decide +kernel⟩
def sp_five (K : PySem.W.Frag) : Sp := fun vs H Q _ => ∃ (p dx : Addr) (r : RowD), vs = [.ref p] ∧ H p = some (.ins (He.ga K "Row") dx (rwF r)) ∧ ∀ (t : Addr) H', Ext H H' → SqT K H' t r.enc → Q (.ref t) H'
theorem ok_five (T : Tx w K mg) : C8.Met P w K mg base 1 (He.ga K "Row") "five" (sp_five K) [] := by
  refine met_mk T.c_Row T.m_Row_five T.F_Row_five sc_Row_five (fun _ _ _ _ _ _ us hl => match us, hl with | [_], _ => rfl) (fun vs H Q E h => ?_) (fun cdv A0 outer s H vs Q E hr h => ?_)
  · obtain ⟨p, dx, r, rfl, _⟩ := h
    rfl
  · obtain ⟨p, dx, r, rfl, hp, k⟩ := h
    refine ⟨_, (pss_one (ps_ret (pe_tup (pa_cons (pe_fld (pv 0) rfl) (pa_cons (pe_fld (pv 0) rfl) (pa_cons (pe_fld (pv 0) rfl) (pa_cons (pe_fld (pv 0) rfl) (pa_cons (pe_fld (pv 0) rfl) pa_nil)))))))), ?_⟩
    refine ⟨_, rfl, p, _, dx, _, _, rfl, hp, T.c_Row, T.n_Row_number, rfl, _, rfl, p, _, dx, _, _, rfl, hp, T.c_Row, T.n_Row_written, rfl, _, rfl, p, _, dx, _, _, rfl, hp, T.c_Row, T.n_Row_at, rfl, _, rfl, p, _, dx, _, _, rfl, hp, T.c_Row, T.n_Row_deed, rfl, _, rfl, p, _, dx, _, _, rfl, hp, T.c_Row, T.n_Row_right, rfl, sz rfl, fun t ht => ?_⟩
    exact k t _ (Ext.upd ht) (SqT.of upd_same)
abbrev N_Row_eq : List Str := ["self", "other"]
theorem sc_Row_eq : FnScope N_Row_eq ["self", "other"] (defScope s_Row_eq) := ⟨rfl, rfl, rfl, by decide +kernel, rfl, by decide +kernel, by decide +kernel⟩
def RRow (K : PySem.W.Frag) : Addr → Addr → Hp → Prop := fun a b H => ∃ (r : RowD) (dx dy : Addr), H a = some (.ins (He.ga K "Row") dx (rwF r)) ∧ H b = some (.ins (He.ga K "Row") dy (rwF r))
theorem mon_row (a b : Addr) (H H' : Hp) (e : Ext H H') (h : RRow K a b H) : RRow K a b H' := let ⟨r, dx, dy, h1, h2⟩ := h; ⟨r, dx, dy, e _ _ h1, e _ _ h2⟩
/-- an own == promised -/
structure EqOk (P : Program) (w : World) (K : PySem.W.Frag) (mg : Str → Option Value) (base : Heap) (k : Nat) (f : Addr) (R : Addr → Addr → Hp → Prop) : Prop where
  ex : ∃ fd ps, FnOk P w K mg base C8.CX0 k f fd ps (spEq R) ∧ Binds K fd ps []
theorem ok_row_eq (T : Tx w K mg) (O : OwnC K) (G_five : C8.Met P w K mg base 1 (He.ga K "Row") "five" (sp_five K) []) : EqOk P w K mg base 2 (He.ma K (He.ga K "Row") "__eq__") (RRow K) := by
  obtain ⟨fd, F⟩ := T.F_Row_eq
  refine ⟨fd, ["self", "other"], F.ok sc_Row_eq (fun vs H Q E h => ?_) (fun cdv A0 outer s H vs Q E hr h => ?_), F.bindsN (fun _ _ _ _ _ _ us hl => match us, hl with | [_, _], _ => rfl)⟩
  · obtain ⟨a, b, rfl, _⟩ := h
    rfl
  · obtain ⟨a, b, rfl, ⟨r, dx, dy, ha, hb⟩, k⟩ := h
    have D : PSs (cxOf C8.CX0 P w K mg base N_Row_eq "Row.__eq__" (defScope s_Row_eq) (He.ma K (He.ga K "Row") "__eq__") cdv A0 outer s H E).nox (defBody s_Row_eq) _ := (pss_one (ps_ret (pe_and (pe_callB (C8.call_isC O.row) (by rfl) T.b_isinstance (by decide +kernel) (pa_cons (pv 1) (pa_cons (C8.pe_gc (v := .ref (He.ga K "Row")) rfl ⟨_, T.g_Row, rfl⟩) pa_nil))) (pe_one (pe_cmpR (op_eqG rc_five (hr.mono (by decide))) (C8.pe_mt0 G_five hr (by decide) (pv 0)) (C8.pe_mt0 G_five hr (by decide) (pv 1)) (nomark _))))))
    refine ⟨_, D.nox, ?_⟩
    refine ⟨_, rfl, b, dy, _, rfl, hb, true, rfl, iteT ?_⟩
    refine ⟨_, rfl, a, dx, _, rfl, ha, rfl, a, dx, r, rfl, ha, fun t1 H1 e1 h1 => ?_⟩
    refine ⟨_, rfl, b, dy, _, rfl, e1 _ _ hb, rfl, b, dy, r, rfl, e1 _ _ hb, fun t2 H2 e2 h2 => ?_⟩
    exact ⟨⟨t1, t2, _, _, rfl, rfl, SqT.ext h1 e2, h2, prs_enc r _⟩, fun H3 e3 => k _ ((e1.trans e2).trans e3)⟩
end
end K36
/-! text KR9 -/
/-! == of grounds and rooms -/
namespace K36
open PySem PySem.Spec PyProof.Rows L2
open LamX (Tabs TabS TabB ExtN CodeO)
section
variable {P : Program} {w : World} {K : PySem.W.Frag} {mg : Str → Option Value} {base : Heap}
abbrev N_Ground_eq : List Str := ["self", "other"]
theorem sc_Ground_eq : FnScope N_Ground_eq ["self", "other"] (defScope s_Ground_eq) := ⟨rfl, rfl, rfl, by decide +kernel, rfl, by decide +kernel, by decide +kernel⟩
def RGr (K : PySem.W.Frag) : Addr → Addr → Hp → Prop := fun a b H => ∃ (A : Adr) (g : Gd), GOk g ∧ GAt K H A g ∧ (∃ dx D, H a = some (.ins (He.ga K "Ground") dx (grF A.P A.R A.S D))) ∧ ∃ dx D, H b = some (.ins (He.ga K "Ground") dx (grF A.P A.R A.S D))
theorem mon_gr (a b : Addr) (H H' : Hp) (e : Ext H H') (h : RGr K a b H) : RGr K a b H' :=
  let ⟨A, g, h1, h2, ⟨dx, D, h3⟩, ⟨dy, D', h4⟩⟩ := h; ⟨A, g, h1, h2.tm (tmE e), ⟨dx, D, e _ _ h3⟩, ⟨dy, D', e _ _ h4⟩⟩
theorem ok_ground_eq (T : Tx w K mg) (O : OwnC K) (G_plain_roads : C8.Cal P w K mg base 1 "plain_roads" (sp_plain_roads K) []) : EqOk P w K mg base 2 (He.ma K (He.ga K "Ground") "__eq__") (RGr K) := by
  obtain ⟨fd, F⟩ := T.F_Ground_eq
  refine ⟨fd, ["self", "other"], F.ok sc_Ground_eq (fun vs H Q E h => ?_) (fun cdv A0 outer s H vs Q E hr h => ?_), F.bindsN (fun _ _ _ _ _ _ us hl => match us, hl with | [_, _], _ => rfl)⟩
  · obtain ⟨a, b, rfl, _⟩ := h
    rfl
  · obtain ⟨a, b, rfl, ⟨A, g, gok, ga, ⟨dx, D1, ha⟩, ⟨dy, D2, hb⟩⟩, k⟩ := h
    have D : PSs (cxOf C8.CX0 P w K mg base N_Ground_eq "Ground.__eq__" (defScope s_Ground_eq) (He.ma K (He.ga K "Ground") "__eq__") cdv A0 outer s H E).nox (defBody s_Ground_eq) _ := (pss_cons (ps_if (PW.pt (pw_or (pt_not (pt_val (pe_callB (C8.call_isC O.ground) (by rfl) T.b_isinstance (by decide +kernel) (pa_cons (pv 1) (pa_cons (C8.pe_gc (v := .ref (He.ga K "Ground")) rfl ⟨_, T.g_Ground, rfl⟩) pa_nil))))) (pw_or1 (pt_cmpR (op_neD hr.units) (pe_callB (cr_sortD (hu65 hr)) (by rfl) T.b_sorted (by decide +kernel) (pa_cons (pe_fld (pv 0) rfl) pa_nil)) (pe_callB (cr_sortD (hu65 hr)) (by rfl) T.b_sorted (by decide +kernel) (pa_cons (pe_fld (pv 1) rfl) pa_nil)) (nomark _)))))
      (pss_one (ps_ret pe_bl))
      pss_nil)
    (pss_one (ps_ret (pe_and (pe_cmpR (op_eqD hr.units) (C8.pe_c G_plain_roads hr (by decide) rfl (pa_cons (pe_fld (pv 0) rfl) pa_nil)) (C8.pe_c G_plain_roads hr (by decide) rfl (pa_cons (pe_fld (pv 1) rfl) pa_nil)) (nomark _)) (pe_one (pe_cmpR (op_fz hr.units0) (pe_callTy (cr_fz rfl) (by rfl) T.b_frozenset (by decide +kernel) (pa_cons (pe_fld (pv 0) rfl) pa_nil)) (pe_callTy (cr_fz rfl) (by rfl) T.b_frozenset (by decide +kernel) (pa_cons (pe_fld (pv 1) rfl) pa_nil)) (nomark _)))))))
    refine ⟨_, D.nox, ?_⟩
    refine ⟨_, rfl, b, dy, _, rfl, hb, true, rfl, iteF ?_⟩
    have hal : ∀ r ∈ g.places.map encP, ∀ r' ∈ g.places.map encP, W.alike (dR r) (dR r') = true := fun r hr r' hr' => by
      obtain ⟨q, _, rfl⟩ := List.mem_map.mp hr
      obtain ⟨q', _, rfl⟩ := List.mem_map.mp hr'
      rfl
    have hne : ∀ r ∈ g.places.map encP, r ≠ [] := fun r hr z => by
      obtain ⟨q, _, rfl⟩ := List.mem_map.mp hr
      cases z
    have hp40 : (g.places.map encP).length ≤ 1000 := by rw [List.length_map]; have := gok.p40; omega
    have hsv : ∀ r ∈ (g.places.map encP).mergeSort leR, r.all isV = true := fun r hr => gok.prows r ((List.mergeSort_perm _ _).mem_iff.mp hr)
    -- sorted
    refine ⟨_, rfl, a, _, dx, _, _, rfl, ha, T.c_Ground, T.n_Ground_places, rfl, ?_⟩
    show rSortD K [V.ref A.P] H _
    refine r_sortR A.tP _ (.inr ga.p) ga.ps gok.prows hal hne hp40 fun p1 ls1 hp1 hls1 => ?_
    generalize hg1 : upd H p1 _ = H1
    obtain ⟨e1, h1, _⟩ := newF hp1 hg1
    refine ⟨_, rfl, b, _, dy, _, _, rfl, e1 _ _ hb, T.c_Ground, T.n_Ground_places, rfl, ?_⟩
    show rSortD K [V.ref A.P] H1 _
    refine r_sortR A.tP _ (.inr (SqT.ext ga.p e1)) (ga.ps.tm (tmE e1)) gok.prows hal hne hp40 fun p2 ls2 hp2 hls2 => ?_
    generalize hg2 : upd H1 p2 _ = H2
    obtain ⟨e2, h2, _⟩ := newF hp2 hg2
    refine ⟨_, _, .lst (SqL.of (e2 _ _ h1)) (dp_rows (hls1.tm (tmE (e1.trans e2))) hsv), .lst (SqL.of h2) (dp_rows (hls2.tm (tmE e2)) hsv), shaped_rs hsv, shaped_rs hsv, false, ?_, iteF ?_⟩
    · rw [SeqAt.eqv_refl _ (show PyData.canLay0 (.list (((g.places.map encP).mergeSort leR).map dR)) = true from lay_rs hsv)]; rfl
    have E2 := e1.trans e2
    have ga2 := ga.tm (tmE E2)
    have hro : ∀ r ∈ g.roads, PyData.strOk r.1 = true ∧ PyData.strOk r.2.1 = true := fun r hr => by
      obtain ⟨z1, z2, _⟩ := gok.road r hr
      exact ⟨(gok.nm _ z1).ok, (gok.nm _ z2).ok⟩
    have hrv : ∀ r ∈ (g.roads.map prD).mergeSort leR, r.all isV = true := fun r hr => by
      obtain ⟨q, hq, rfl⟩ := List.mem_map.mp ((List.mergeSort_perm _ _).mem_iff.mp hr)
      obtain ⟨z1, z2⟩ := hro q hq
      unfold prD
      split
      · show (isV (.str q.1) && (isV (.str q.2.1) && true)) = true
        rw [show isV (.str q.1) = true from z1, show isV (.str q.2.1) = true from z2]; rfl
      · show (isV (.str q.2.1) && (isV (.str q.1) && true)) = true
        rw [show isV (.str q.1) = true from z1, show isV (.str q.2.1) = true from z2]; rfl
    -- plain_roads
    refine ⟨_, rfl, a, _, dx, _, _, rfl, E2 _ _ ha, T.c_Ground, T.n_Ground_roads, rfl, A.R, A.tR, g.roads, rfl, ga2.r, ga2.rs, gok.r80, hro, fun l3 ls3 H3 e3 h3 hls3 => ?_⟩
    refine ⟨_, rfl, b, _, dy, _, _, rfl, e3 _ _ (E2 _ _ hb), T.c_Ground, T.n_Ground_roads, rfl, A.R, A.tR, g.roads, rfl, SqT.ext ga2.r e3, ga2.rs.tm (tmE e3), gok.r80, hro, fun l4 ls4 H4 e4 h4 hls4 => ?_⟩
    refine ⟨_, _, .lst (SqL.of (e4 _ _ h3)) (dp_rows (hls3.tm (tmE e4)) hrv), .lst (SqL.of h4) (dp_rows hls4 hrv), shaped_rs hrv, shaped_rs hrv, true, ?_, iteT ?_⟩
    · exact congrArg V.bl (SeqAt.eqv_refl _ (show PyData.canLay0 (.list (((g.roads.map prD).mergeSort leR).map dR)) = true from lay_rs hrv))
    have E4 := (E2.trans e3).trans e4
    -- frozenset
    have s12 := gok.s12
    refine ⟨_, rfl, a, _, dx, _, _, rfl, E4 _ _ ha, T.c_Ground, T.n_Ground_stations, rfl, A.S, g.stations, rfl, SqT.ext ga.s E4, gok.sd, by omega, fun p5 hp5 => ?_⟩
    generalize hg5 : upd H4 p5 _ = H5
    obtain ⟨e5, h5, _⟩ := newF hp5 hg5
    have E5 := E4.trans e5
    refine ⟨_, rfl, b, _, dy, _, _, rfl, E5 _ _ hb, T.c_Ground, T.n_Ground_stations, rfl, A.S, g.stations, rfl, SqT.ext ga.s E5, gok.sd, by omega, fun p6 hp6 => ?_⟩
    exact ⟨p5, p6, g.stations, rfl, rfl, (Ext.upd hp6) _ _ h5, upd_same, by omega, k _ (E5.trans (Ext.upd hp6))⟩
abbrev N_Room_eq : List Str := ["self", "other"]
theorem sc_Room_eq : FnScope N_Room_eq ["self", "other"] (defScope s_Room_eq) := ⟨rfl, rfl, rfl, by decide +kernel, rfl, by decide +kernel, by decide +kernel⟩
/-- two rooms of one ground, engines and rows -/
def RRm (K : PySem.W.Frag) : Addr → Addr → Hp → Prop := fun a b H => ∃ (E : Addr) (tE : List Addr) (es : List Eng) (st : List Str) (dx dy go1 go2 k1 k2 f1 f2 d1 d2 : Addr) (ps1 ps2 : List Addr) (rows : List RowD),
  H a = some (.ins (He.ga K "Room") dx (rmF go1 E k1 f1 d1)) ∧ H b = some (.ins (He.ga K "Room") dy (rmF go2 E k2 f2 d2)) ∧ RGr K go1 go2 H ∧ SqT K H E (tE.map V.ref) ∧ Rows K H tE (es.map encE) ∧ (∀ r ∈ es.map encE, r.all isV = true) ∧
  H k1 = some (.lst (ps1.map V.ref)) ∧ H k2 = some (.lst (ps2.map V.ref)) ∧ Paired (RowO K H) ps1 rows ∧ Paired (RowO K H) ps2 rows
theorem ok_room_eq (T : Tx w K mg) (O : OwnC K) (GG : EqOk P w K mg base 2 (He.ma K (He.ga K "Ground") "__eq__") (RGr K)) (GR : EqOk P w K mg base 2 (He.ma K (He.ga K "Row") "__eq__") (RRow K)) : EqOk P w K mg base 4 (He.ma K (He.ga K "Room") "__eq__") (RRm K) := by
  obtain ⟨fd, F⟩ := T.F_Room_eq
  obtain ⟨fdG, psG, FG, bG⟩ := GG.ex
  obtain ⟨fdR, psR, FR, bR⟩ := GR.ex
  refine ⟨fd, ["self", "other"], F.ok sc_Room_eq (fun vs H Q E h => ?_) (fun cdv A0 outer s H vs Q E hr h => ?_), F.bindsN (fun _ _ _ _ _ _ us hl => match us, hl with | [_, _], _ => rfl)⟩
  · obtain ⟨a, b, rfl, _⟩ := h
    rfl
  · obtain ⟨a, b, rfl, ⟨aE, tE, es, st, dx, dy, go1, go2, k1, k2, f1, f2, d1, d2, ps1, ps2, rows, ha, hb, hg, hE, hEs, hV, hk1, hk2, hp1, hp2⟩, k⟩ := h
    have D : PSs (cxOf C8.CX0 P w K mg base N_Room_eq "Room.__eq__" (defScope s_Room_eq) (He.ma K (He.ga K "Room") "__eq__") cdv A0 outer s H E).nox (defBody s_Room_eq) _ := (pss_cons (ps_if (PW.pt (pw_or (pt_not (pt_val (pe_callB (C8.call_isC O.room) (by rfl) T.b_isinstance (by decide +kernel) (pa_cons (pv 1) (pa_cons (C8.pe_gc (v := .ref (He.ga K "Room")) rfl ⟨_, T.g_Room, rfl⟩) pa_nil))))) (pw_or (pt_cmpR (op_neG FG O.groundNe bG (C8.pass0 (E := C8.E0)) (hr.mono (by decide))) (pe_fld (pv 0) rfl) (pe_fld (pv 1) rfl) (nomark _)) (pw_or1 (pt_cmpR (op_neD hr.units) (pe_fld (pv 0) rfl) (pe_fld (pv 1) rfl) (nomark _))))))
      (pss_one (ps_ret pe_bl))
      pss_nil)
    (pss_one (ps_ret (pe_cmpR (op_eqG (rcG_list (mon_ins mon_row) (eqG_ins FR O.rowEq O.rowFn bR (C8.pass0 (E := C8.E0)))) (hr.mono (by decide))) (pe_fld (pv 0) rfl) (pe_fld (pv 1) rfl) (nomark _)))))
    refine ⟨_, D.nox, ?_⟩
    refine ⟨_, rfl, b, dy, _, rfl, hb, true, rfl, iteF ?_⟩
    have hg' := hg
    obtain ⟨A, g, gok, ga, ⟨dx1, D1, hg1⟩, ⟨dx2, D2, hg2⟩⟩ := hg
    refine ⟨_, rfl, a, _, dx, _, _, rfl, ha, T.c_Room, T.n_Room_ground, rfl, _, rfl, b, _, dy, _, _, rfl, hb, T.c_Room, T.n_Room_ground, rfl, ⟨go1, go2, dx1, dx2, _, _, rfl, rfl, hg1, hg2, hg'⟩, fun H1 e1 => ⟨false, rfl, iteF ?_⟩⟩
    refine ⟨_, rfl, a, _, dx, _, _, rfl, e1 _ _ ha, T.c_Room, T.n_Room_engines, rfl, _, rfl, b, _, dy, _, _, rfl, e1 _ _ hb, T.c_Room, T.n_Room_engines, rfl, .tuple ((es.map encE).map dR), .tuple ((es.map encE).map dR), .tup (SqT.ext hE e1) (dp_rows (hEs.tm (tmE e1)) hV), .tup (SqT.ext hE e1) (dp_rows (hEs.tm (tmE e1)) hV), shaped_rs hV, shaped_rs hV, false, ?_, iteF ?_⟩
    · rw [SeqAt.eqv_refl _ (show PyData.canLay0 (.tuple ((es.map encE).map dR)) = true from lay_rs hV)]; rfl
    refine ⟨_, rfl, a, _, dx, _, _, rfl, e1 _ _ ha, T.c_Room, T.n_Room_kept, rfl, _, rfl, b, _, dy, _, _, rfl, e1 _ _ hb, T.c_Room, T.n_Room_kept, rfl, ⟨k1, k2, _, _, rfl, rfl, e1 _ _ hk1, e1 _ _ hk2, ?_, fun i x y hx hy => ?_⟩, fun H2 e2 => k _ (e1.trans e2)⟩
    · rw [List.length_map, List.length_map, hp1.length, hp2.length]
    · obtain ⟨p, hp, rfl⟩ := map_at hx
      obtain ⟨q, hq, rfl⟩ := map_at hy
      obtain ⟨r, hr1, ⟨dx3, ho1⟩, _⟩ := Paired.at' hp1 hp
      obtain ⟨r', hr2, ⟨dx4, ho2⟩, _⟩ := Paired.at' hp2 hq
      rw [hr1] at hr2
      cases hr2
      exact ⟨p, q, dx3, dx4, _, _, rfl, rfl, e1 _ _ ho1, e1 _ _ ho2, r, dx3, dx4, e1 _ _ ho1, e1 _ _ ho2⟩
end
end K36
/-! text KStr -/
/-! str(o) by an own __str__; lengths of texts -/
namespace K36
open PySem PySem.Spec PyProof.Rows L2
section
variable {X : Cx} {n : Nat}
def rStrO (C : Addr) (sp : Sp) (E : XK) : List V → Hp → VK → Prop := fun xs H Q => ∃ a dx fs, xs = [V.ref a] ∧ H a = some (.ins C dx fs) ∧ sp [.ref a] H (fun v H' => ∃ z, v = .str z ∧ Q v H') E
theorem cr_strO {CX : CXT} {C f : Addr} {fd : FuncData} {ps : List Str} {sp : Sp} {E : XK} (F : FnOk X.prog X.w X.K X.mg X.base CX n f fd ps sp)
    (hs : PySem.W.findIn X.K (.ref C) "__str__" = some (some (.ref f))) (hf : PySem.W.isFn X.K (.ref f) = true) (hb : Binds X.K fd ps []) (hx : Passes CX X E) (hr : Room (n + 2) X.A) : CallR X (.type "str") (rStrO C sp E) := by
  intro pins s σ H xs us Q I r h
  obtain ⟨a, dx, fs, rfl, ha, hsp⟩ := h
  rw [Vals.ref1 r]
  obtain ⟨mA, J, _⟩ := ins_get I.hok ha
  obtain ⟨od, J, _⟩ := J.look
  have hr2 : Room n X.A.in1.in1 := hr.in1.in1
  refine PySem.W.kso_call hr2.units0 I.kIn J hs hf ?_
  have e0 := I.env0.in1.in1
  have hl := F.len _ _ _ _ hsp
  have r2 : Vals [V.ref a] [Value.ref a] := .cons rfl .nil
  refine wpAny_call (codeAny_mono (F.run X.A.in1.in1 X.stack s H ⟨[.ref a], []⟩ [.ref a] [.ref a] _ E hr2 e0 (by
    have := hb s [.ref a] I.kIn (by simpa using hl)
    simpa using this) r2 hsp) fun r s' hq => ?_)
  cases r with
  | error e => exact hx pins σ H s e s' I hq
  | ok fl =>
    cases fl with
    | ret w =>
      obtain ⟨z, H', I', rz, y, ez, q⟩ := I.after hq
      subst ez
      obtain ⟨t, rfl⟩ := rz
      exact ⟨.str y, H', I', ⟨t, rfl⟩, q⟩
    | next => exact False.elim hq
    | brk => exact False.elim hq
    | cont => exact False.elim hq
end
/-! ### lengths -/
theorem len_cat (a b : Str) : (a ++ b).length = a.length + b.length := size_cat a b
theorem len_int {n : Int} (h0 : 0 ≤ n) (h : n < 10 ^ 10) : (toString n : Str).length ≤ 10 := PySem.W.KT.len_num h0 h
theorem len_zfill (x : Str) : (Txt.zfill x 2).length ≤ x.length + 2 := by
  unfold Txt.zfill
  split
  · omega
  · unfold zfilled
    have key : ∀ c, x.cps[0]? = some c → 1 ≤ x.length := fun c hc => (Array.getElem?_eq_some_iff.mp hc).1
    split
    · rename_i hc
      have h2 := key _ hc
      rw [size_cat, size_padded, size_strSub x 0 1 h2, size_strSub x 1 x.length (Nat.le_refl _)]; omega
    · rename_i hc
      have h2 := key _ hc
      rw [size_cat, size_padded, size_strSub x 0 1 h2, size_strSub x 1 x.length (Nat.le_refl _)]; omega
    · rw [size_padded]; omega
end K36
/-! text KR10 -/
/-! the texts of minutes and rows -/
namespace K36
open PySem PySem.Spec PyProof.Rows L2
section
variable {P : Program} {w : World} {K : PySem.W.Frag} {mg : Str → Option Value} {base : Heap}
abbrev N_shown : List Str := ["minute", "day", "rest", "hour", "left"]
theorem sc_shown : FnScope N_shown ["minute"] (defScope s_shown) := ⟨rfl, rfl, rfl, by decide +kernel, rfl, by decide +kernel, by decide +kernel⟩
def shownT (m : Int) : Str := (toString (m / 1440) : Str) ++ (" " : Str) ++ Txt.zfill (toString (m % 1440 / 60)) 2 ++ (":" : Str) ++ Txt.zfill (toString (m % 1440 % 60)) 2
def sp_shown : Sp := fun vs H Q _ => ∃ m : Int, vs = [.int m] ∧ 0 ≤ m ∧ m ≤ 9999 ∧ ∀ H', Ext H H' → Q (.str (shownT m)) H'
theorem small_int {n : Int} (h0 : 0 ≤ n) (h : n < 10 ^ 10) : n.natAbs.log2 < 1920 := by
  have h2 : n.natAbs < 2 ^ 64 := by omega
  by_cases z : n.natAbs = 0
  · rw [z]; decide
  · have := (Nat.log2_lt z).mpr h2
    omega
theorem shown_len {m : Int} (h0 : 0 ≤ m) (h1 : m ≤ 9999) : (shownT m).length ≤ 100 := by
  unfold shownT
  have a1 := len_int (n := m / 1440) (by omega) (by omega)
  have a2 := len_int (n := m % 1440 / 60) (by omega) (by omega)
  have a3 := len_int (n := m % 1440 % 60) (by omega) (by omega)
  have b2 := len_zfill (toString (m % 1440 / 60))
  have b3 := len_zfill (toString (m % 1440 % 60))
  have c1 : (" " : Str).length = 1 := by decide +kernel
  have c2 : (":" : Str).length = 1 := by decide +kernel
  rw [len_cat, len_cat, len_cat, len_cat]
  omega
theorem ok_shown (T : Tx w K mg) : C8.Cal P w K mg base 1 "shown" sp_shown [] := by
  refine cal_mk T.F_shown T.g_shown sc_shown (fun _ _ _ _ _ _ us hl => match us, hl with | [_], _ => rfl) (fun vs H Q E h => ?_) (fun cdv A0 outer s H vs Q E hr h => ?_)
  · obtain ⟨m, rfl, _⟩ := h
    rfl
  · obtain ⟨m, rfl, h0, h1, k⟩ := h
    refine ⟨_, (pss_cons (ps_asg (pe_callB call_divmod (by rfl) T.b_divmod (by decide +kernel) (pa_cons (pv 0) (pa_cons (C8.pe_gc rfl T.k_DAY) pa_nil))) (pg_tup rfl (pgs_cons (pg_name (i := 1) sc_shown.nd rfl (Or.inl rfl)) (pgs_cons (pg_name (i := 2) sc_shown.nd rfl (Or.inl rfl)) pgs_nil))))
    (pss_cons (ps_asg (pe_callB call_divmod (by rfl) T.b_divmod (by decide +kernel) (pa_cons (pv 2) (pa_cons (C8.pe_gc rfl T.k_HOUR) pa_nil))) (pg_tup rfl (pgs_cons (pg_name (i := 3) sc_shown.nd rfl (Or.inl rfl)) (pgs_cons (pg_name (i := 4) sc_shown.nd rfl (Or.inl rfl)) pgs_nil))))
    (pss_one (ps_ret (pe_op op_add_str (pe_op op_add_str (pe_op op_add_str (pe_op op_add_str (pe_callTy call_str_int (by rfl) T.b_str (by decide +kernel) (pa_cons (pv 1) pa_nil)) pe_str) (pe_bm PySem.F.plainAttrs_str PySem.F.slot_str_zfill PySem.F.type_str_zfill mt_zfill (pe_callTy call_str_int (by rfl) T.b_str (by decide +kernel) (pa_cons (pv 3) pa_nil)) (pa_cons pe_int pa_nil))) pe_str) (pe_bm PySem.F.plainAttrs_str PySem.F.slot_str_zfill PySem.F.type_str_zfill mt_zfill (pe_callTy call_str_int (by rfl) T.b_str (by decide +kernel) (pa_cons (pv 4) pa_nil)) (pa_cons pe_int pa_nil))))))), ?_⟩
    have a1 := len_int (n := m / 1440) (by omega) (by omega)
    have a2 := len_int (n := m % 1440 / 60) (by omega) (by omega)
    have a3 := len_int (n := m % 1440 % 60) (by omega) (by omega)
    have b2 := len_zfill (toString (m % 1440 / 60))
    have b3 := len_zfill (toString (m % 1440 % 60))
    have c1 : (" " : Str).length = 1 := by decide +kernel
    have c2 : (":" : Str).length = 1 := by decide +kernel
    refine ⟨_, rfl, m, 1440, rfl, ⟨by decide, by decide⟩, fun p1 hp1 => ?_⟩
    generalize hg1 : upd H p1 _ = H1
    obtain ⟨e1, h1', _⟩ := newF hp1 hg1
    refine ⟨p1, _, rfl, SqT.of h1', rfl, _, _, rfl, _, _, rfl, rfl, ?_⟩
    refine ⟨_, rfl, m % 1440, 60, rfl, ⟨by decide, by decide⟩, fun p2 hp2 => ?_⟩
    generalize hg2 : upd H1 p2 _ = H2
    obtain ⟨e2, h2', _⟩ := newF hp2 hg2
    refine ⟨p2, _, rfl, SqT.of h2', rfl, _, _, rfl, _, _, rfl, rfl, ?_⟩
    have s1 : sizeLine = 16777216 := sizeLine_eq
    refine ⟨_, rfl, m / 1440, rfl, small_int (by omega) (by omega), _, _, rfl, rfl, by rw [s1]; omega, ?_⟩
    refine ⟨_, rfl, m % 1440 / 60, rfl, small_int (by omega) (by omega), rfl, _, _, rfl, rfl, by decide, _, _, rfl, rfl, by rw [s1, len_cat]; omega, ?_⟩
    refine ⟨_, _, rfl, rfl, by rw [s1, len_cat, len_cat]; omega, ?_⟩
    refine ⟨_, rfl, m % 1440 % 60, rfl, small_int (by omega) (by omega), rfl, _, _, rfl, rfl, by decide, _, _, rfl, rfl, by rw [s1, len_cat, len_cat, len_cat]; omega, ?_⟩
    exact k _ (e1.trans e2)
/-- a word of a deed as a text -/
def wordT : V → Str
  | .str x => x
  | .int i => toString i
  | _ => ""
theorem kind_len {k : Str} (h : k ∈ kinds) : k.length ≤ 10 := by
  have : kinds.all (fun k => decide (k.length ≤ 10)) = true := by decide +kernel
  exact of_decide_eq_true (List.all_eq_true.mp this k h)
/-- a word that a deed may have -/
def WordOk (v : V) : Prop := (∃ x, v = .str x ∧ x.length ≤ 10) ∨ ∃ i : Int, v = .int i ∧ 0 ≤ i ∧ i < 10 ^ 10
theorem deed_words {g : Gd} {es : List Eng} {d : Deed} (gk : GOk g) (ek : EOk g.stations es) (h : DOk g es d) : d.vs.length ≤ 3 ∧ ∀ v ∈ d.vs, WordOk v := by
  have nm : ∀ x ∈ g.names, WordOk (.str x) := fun x hx => .inl ⟨x, rfl, by have := (gk.nm x hx).2.1; omega⟩
  have en : ∀ x ∈ es.map (·.1), WordOk (.str x) := fun x hx => by
    obtain ⟨e, he, rfl⟩ := List.mem_map.mp hx
    exact .inl ⟨_, rfl, by have := (ek.nm e he).2.1; omega⟩
  have st : ∀ x ∈ g.stations, WordOk (.str x) := fun x hx => nm x (gk.st x hx)
  have it : ∀ i : Int, 0 ≤ i → i ≤ 1000 → WordOk (.int i) := fun i h0 h1 => .inr ⟨i, rfl, h0, by omega⟩
  have wd : ∀ x : Str, x.length ≤ 10 → WordOk (.str x) := fun x hx => .inl ⟨x, rfl, hx⟩
  have r80 := gk.r80
  have key : ∀ (x : Str) (r : List V), x.length ≤ 10 → r.length ≤ 2 → (∀ v ∈ r, WordOk v) → (V.str x :: r).length ≤ 3 ∧ ∀ v ∈ V.str x :: r, WordOk v := fun x r hx hr hv => ⟨by rw [List.length_cons]; omega, fun v hm => by
    rcases List.mem_cons.mp hm with z | z
    · rw [z]; exact wd x hx
    · exact hv v z⟩
  have one : ∀ {v : V}, WordOk v → ∀ u ∈ [v], WordOk u := fun {v} hv u hu => by rw [List.mem_singleton.mp hu]; exact hv
  have two : ∀ {v v' : V}, WordOk v → WordOk v' → ∀ u ∈ [v, v'], WordOk u := fun {v v'} hv hv' u hu => by
    rcases List.mem_cons.mp hu with z | z
    · rw [z]; exact hv
    · rw [List.mem_singleton.mp z]; exact hv'
  cases d with
  | call p k => exact key _ _ (by decide +kernel) (Nat.le_refl _) (two (nm _ h.1) (wd _ (kind_len h.2)))
  | again c => exact key _ _ (by decide +kernel) (Nat.le_of_ble_eq_true rfl) (one (it _ (by have := h.1; omega) (by have := h.2; omega)))
  | make c p => exact key _ _ (by decide +kernel) (Nat.le_of_ble_eq_true rfl) (two (it _ (by have := h.1.1; omega) (by have := h.1.2; omega)) (it _ (by have := h.2.1; omega) (by have := h.2.2; omega)))
  | stop c => exact key _ _ (by decide +kernel) (Nat.le_of_ble_eq_true rfl) (one (it _ (by have := h.1; omega) (by have := h.2; omega)))
  | send e c => exact key _ _ (by decide +kernel) (Nat.le_of_ble_eq_true rfl) (two (en _ h.1) (it _ (by have := h.2.1; omega) (by have := h.2.2; omega)))
  | there e => exact key _ _ (by decide +kernel) (Nat.le_of_ble_eq_true rfl) (one (en _ h))
  | back e => exact key _ _ (by decide +kernel) (Nat.le_of_ble_eq_true rfl) (one (en _ h))
  | home e => exact key _ _ (by decide +kernel) (Nat.le_of_ble_eq_true rfl) (one (en _ h))
  | off e => exact key _ _ (by decide +kernel) (Nat.le_of_ble_eq_true rfl) (one (en _ h))
  | on e => exact key _ _ (by decide +kernel) (Nat.le_of_ble_eq_true rfl) (one (en _ h))
  | stand e s => exact key _ _ (by decide +kernel) (Nat.le_of_ble_eq_true rfl) (two (en _ h.1) (st _ h.2))
  | lend e s => exact key _ _ (by decide +kernel) (Nat.le_of_ble_eq_true rfl) (two (en _ h.1) (st _ h.2))
  | shut r => exact key _ _ (by decide +kernel) (Nat.le_of_ble_eq_true rfl) (one (it _ h.1 (by have := h.2; omega)))
  | clear r => exact key _ _ (by decide +kernel) (Nat.le_of_ble_eq_true rfl) (one (it _ h.1 (by have := h.2; omega)))
  | nothing => exact key _ _ (by decide +kernel) (Nat.le_of_ble_eq_true rfl) (fun _ hu => absurd hu (by simp))
theorem word_len {v : V} (h : WordOk v) : (wordT v).length ≤ 10 := by
  rcases h with ⟨x, rfl, hx⟩ | ⟨i, rfl, h0, h1⟩
  · exact hx
  · exact len_int h0 h1
def wordsR (r : RowD) : List Str := ([(toString r.n : Str), shownT r.written, shownT r.at_] : List Str) ++ r.deed.vs.map wordT
def allR (r : RowD) : List Str := if r.right ≠ 0 then wordsR r ++ ([("right" : Str), (toString r.right : Str)] : List Str) else wordsR r
def textR (r : RowD) : Str := Txt.join " " (allR r)
/-- str of an int or a text -/
theorem cr_strW {X : Cx} : CallR X (.type "str") (fun xs H Q => ∃ v, xs = [v] ∧ WordOk v ∧ Q (.str (wordT v)) H) := by
  intro pins s σ H xs us Q I r h
  obtain ⟨v, rfl, hw, q⟩ := h
  rcases hw with ⟨x, rfl, _⟩ | ⟨i, rfl, h0, h1⟩
  · exact SkE.call_str_str pins s σ H _ us Q I r ⟨x, rfl, q⟩
  · exact call_str_int pins s σ H _ us Q I r ⟨i, rfl, small_int h0 h1, q⟩
abbrev N_text_of : List Str := ["row", "words", "word"]
theorem sc_text_of : FnScope N_text_of ["row"] (defScope s_text_of) := ⟨rfl, rfl, rfl, by decide +kernel, rfl, by decide +kernel, by decide +kernel⟩
/-- a row whose text may be told -/
structure RowT (K : PySem.W.Frag) (H : Hp) (p : Addr) (r : RowD) : Prop where
  o : RowO K H p r
  n0 : 0 ≤ r.n
  n1 : r.n < 10 ^ 10
  w0 : 0 ≤ r.written
  w1 : r.written ≤ 9999
  a0 : 0 ≤ r.at_
  a1 : r.at_ ≤ 9999
  r0 : 0 ≤ r.right
  r1 : r.right < 10 ^ 10
  d3 : r.deed.vs.length ≤ 3
  dw : ∀ v ∈ r.deed.vs, WordOk v
def sp_text_of (K : PySem.W.Frag) : Sp := fun vs H Q _ => ∃ (p : Addr) (r : RowD), vs = [.ref p] ∧ RowT K H p r ∧ ∀ H', Ext H H' → Q (.str (textR r)) H'
theorem ok_text_of (T : Tx w K mg) (G_shown : C8.Cal P w K mg base 1 "shown" sp_shown []) : C8.Cal P w K mg base 2 "text_of" (sp_text_of K) [] := by
  refine cal_mk T.F_text_of T.g_text_of sc_text_of (fun _ _ _ _ _ _ us hl => match us, hl with | [_], _ => rfl) (fun vs H Q E h => ?_) (fun cdv A0 outer s H vs Q E hr h => ?_)
  · obtain ⟨p, r, rfl, _⟩ := h
    rfl
  · obtain ⟨p, r, rfl, hT, k⟩ := h
    refine ⟨_, (pss_cons (ps_set (i := 1) sc_text_of.nd rfl (Or.inl rfl) (pe_op op_cat (pe_lst (pa_cons (pe_callTy call_str_int (by rfl) T.b_str (by decide +kernel) (pa_cons (pe_fld (pv 0) rfl) pa_nil)) (pa_cons (C8.pe_c G_shown hr (by decide) rfl (pa_cons (pe_fld (pv 0) rfl) pa_nil)) (pa_cons (C8.pe_c G_shown hr (by decide) rfl (pa_cons (pe_fld (pv 0) rfl) pa_nil)) pa_nil)))) (pe_lc (own := [("word", 2)]) (g := (gName 2)) (tt := tYes) rfl sc_text_of.nd (pi_tup (pe_fld (pv 0) rfl)) (blkOk_by (N := N_text_of) (sc := defScope s_text_of) (by decide +kernel)) (fun _ _ _ _ _ => (pg_name (i := 2) sc_text_of.nd rfl (Or.inl rfl))) (fun _ _ _ _ _ => pts_nil) (fun _ _ _ _ _ => (pe_callTy cr_strW (by rfl) T.b_str (by decide +kernel) (pa_cons (pv 2) pa_nil))))))
    (pss_cons (ps_if (pt_cmpR op_ne (pe_fld (pv 0) rfl) pe_int (nomark _))
      (pss_one (ps_aug (i := 1) sc_text_of.nd rfl (Or.inl rfl) (pe_lst (pa_cons pe_str (pa_cons (pe_callTy call_str_int (by rfl) T.b_str (by decide +kernel) (pa_cons (pe_fld (pv 0) rfl) pa_nil)) pa_nil))) iop_ext))
      pss_nil)
    (pss_one (ps_ret (pe_join pe_str (pv 1)))))), ?_⟩
    obtain ⟨⟨dx, hp⟩, hd⟩ := hT.o
    refine ⟨_, rfl, p, _, dx, _, _, rfl, hp, T.c_Row, T.n_Row_number, rfl, r.n, rfl, small_int hT.n0 hT.n1, ?_⟩
    refine ⟨_, rfl, p, _, dx, _, _, rfl, hp, T.c_Row, T.n_Row_written, rfl, r.written, rfl, hT.w0, hT.w1, fun H1 e1 => ?_⟩
    refine ⟨_, rfl, p, _, dx, _, _, rfl, e1 _ _ hp, T.c_Row, T.n_Row_at, rfl, r.at_, rfl, hT.a0, hT.a1, fun H2 e2 => ?_⟩
    refine ⟨sz rfl, fun l3 hl3 => ?_⟩
    generalize hg3 : upd H2 l3 _ = H3
    obtain ⟨e3, h3, _⟩ := newF hl3 hg3
    have E3 := (e1.trans e2).trans e3
    refine ⟨_, rfl, p, _, dx, _, _, rfl, E3 _ _ hp, T.c_Row, T.n_Row_deed, rfl, r.dA, rfl, ⟨_, SqT.ext hd E3⟩, fun D hD => ?_⟩
    have d3 := hT.d3
    refine lc_it walk_tup (fun i H' => Ext H3 H' ∧ H' D = some (.lst (((r.deed.vs.take i).map wordT).map V.str))) ⟨Ext.upd hD, upd_same⟩ (fun i H' _ ⟨e, _⟩ => SqT.ext hd (E3.trans e)) ?_ ?_
    · rintro i y H4 H5 hi ⟨e, hDD⟩ ⟨rfl, hy⟩
      refine ⟨rfl, _, rfl, y, rfl, hT.dw y (List.mem_of_getElem? hy), _, hDD, szl (by rw [List.length_map, List.length_map, List.length_take]; omega), updE e hD, ?_⟩
      rw [upd_same, take_map_snoc hy, List.map_append]; rfl
    · rintro H4 ⟨e4, hD4⟩
      rw [List.take_length] at hD4
      refine ⟨l3, D, _, _, rfl, rfl, e4 _ _ h3, hD4, szn (by rw [List.length_map, List.length_map]; show 3 + _ ≤ _; omega), fun l5 hl5 => ?_⟩
      generalize hg5 : upd H4 l5 _ = H5
      obtain ⟨e5, h5, _⟩ := newF hl5 hg5
      have E5 := (E3.trans e4).trans e5
      have h5' : H5 l5 = some (.lst ((wordsR r).map V.str)) := h5.trans (by unfold wordsR; rw [List.map_append]; rfl)
      have wl : ∀ x ∈ wordsR r, x.length ≤ 100 := fun x hx => by
        rcases List.mem_append.mp hx with z | z
        · rcases List.mem_cons.mp z with z | z
          · rw [z]; have := len_int hT.n0 hT.n1; omega
          · rcases List.mem_cons.mp z with z | z
            · rw [z]; exact shown_len hT.w0 hT.w1
            · rw [List.mem_singleton.mp z]; exact shown_len hT.a0 hT.a1
        · obtain ⟨v, hv, rfl⟩ := List.mem_map.mp z
          have := word_len (hT.dw v hv)
          omega
      have w6 : (wordsR r).length ≤ 6 := by unfold wordsR; rw [List.length_append, List.length_map]; show 3 + _ ≤ _; omega
      have sum_le : ∀ l : List Str, (∀ x ∈ l, x.length ≤ 100) → (l.map (·.length)).sum ≤ 100 * l.length := by
        intro l
        induction l with
        | nil => intro _; exact Nat.zero_le _
        | cons a l ih =>
          intro h
          rw [List.map_cons, List.sum_cons, List.length_cons]
          have h1 := h a (List.mem_cons_self ..)
          have h2 := ih fun x hx => h x (List.mem_cons_of_mem _ hx)
          omega
      have c1 : (" " : Str).length = 1 := by decide +kernel
      have fin : ∀ (ys : List Str) (H' : Hp), H' l5 = some (.lst (ys.map V.str)) → (∀ x ∈ ys, x.length ≤ 100) → ys.length ≤ 8 → ys = allR r → Ext H H' → tRet (tM1 (fun x xs H Q => ∃ a p, ∃ ys : List Str, x = .str a ∧ xs = [.ref p] ∧ (SqL K H p (ys.map V.str) ∨ SqT K H p (ys.map V.str)) ∧
          (ys.map (·.length)).sum + ys.length * a.length ≤ 16777216 ∧ Q (.str (Txt.join a ys)) H) (tC (.str " ")) (tVar 1)) { nx := fun _ H' => Q .non H', rt := Q } [some (.ref p), some (.ref l5), none] H' := fun ys H' hl hx h8 he eE => by
        refine ⟨⟨_, rfl⟩, _, rfl, _, l5, ys, rfl, rfl, .inl (SqL.of hl), ?_, ?_⟩
        · have := sum_le ys hx
          rw [c1]
          omega
        · rw [he]; exact k _ eE
      refine ⟨_, rfl, p, _, dx, _, _, rfl, E5 _ _ hp, T.c_Row, T.n_Row_right, rfl, rfl, _, rfl, ?_⟩
      refine ite2 (fun z => ?_) (fun z => ?_)
      · have nz : r.right ≠ 0 := fun e => by rw [e] at z; exact absurd z (by decide +kernel)
        refine ⟨_, rfl, _, rfl, p, _, dx, _, _, rfl, E5 _ _ hp, T.c_Row, T.n_Row_right, rfl, r.right, rfl, small_int hT.r0 hT.r1, sz rfl, fun l6 hl6 => ?_⟩
        generalize hg6 : upd H5 l6 _ = H6
        obtain ⟨e6, h6, _⟩ := newF hl6 hg6
        have n56 : l5 ≠ l6 := ne_of_none h5 hl6
        refine ⟨l5, l6, _, _, rfl, rfl, e6 _ _ h5', h6, szn (by rw [List.length_map]; show _ + 2 ≤ _; omega), ?_⟩
        have ea : allR r = wordsR r ++ ([("right" : Str), (toString r.right : Str)] : List Str) := by unfold allR; rw [if_pos nz]
        refine fin (allR r) _ ?_ (fun x hx => ?_) (by rw [ea, List.length_append]; show _ + 2 ≤ _; omega) rfl (updE (E5.trans e6) ?_)
        · rw [upd_same, ea, List.map_append]; rfl
        · rw [ea] at hx
          rcases List.mem_append.mp hx with z | z
          · exact wl x z
          · rcases List.mem_cons.mp z with z | z
            · rw [z]; exact (by decide +kernel : ("right" : Str).length ≤ 100)
            · rw [List.mem_singleton.mp z]; have := len_int hT.r0 hT.r1; omega
        · exact Ext.free (E3.trans e4) hl5
      · have nz : r.right = 0 := by
          by_cases e : r.right = 0
          · exact e
          · exact absurd (by rw [decide_eq_false (fun q => e (V.int.inj q))]; rfl) z
        exact fin (wordsR r) _ h5' wl (by omega) (by unfold allR; rw [if_neg (fun q => q nz)]) E5
abbrev N_Row_str : List Str := ["self"]
theorem sc_Row_str : FnScope N_Row_str ["self"] (defScope s_Row_str) := ⟨rfl, rfl, rfl, by decide +kernel, rfl, by decide +kernel, by decide +kernel⟩
/-- an own __str__ promised -/
structure StrOk (P : Program) (w : World) (K : PySem.W.Frag) (mg : Str → Option Value) (base : Heap) (k : Nat) (f : Addr) (sp : Sp) : Prop where
  ex : ∃ fd ps, FnOk P w K mg base C8.CX0 k f fd ps sp ∧ Binds K fd ps []
theorem ok_row_str (T : Tx w K mg) (G_text_of : C8.Cal P w K mg base 2 "text_of" (sp_text_of K) []) : StrOk P w K mg base 3 (He.ma K (He.ga K "Row") "__str__") (sp_text_of K) := by
  obtain ⟨fd, F⟩ := T.F_Row_str
  refine ⟨fd, ["self"], F.ok sc_Row_str (fun vs H Q E h => ?_) (fun cdv A0 outer s H vs Q E hr h => ?_), F.bindsN (fun _ _ _ _ _ _ us hl => match us, hl with | [_], _ => rfl)⟩
  · obtain ⟨p, r, rfl, _⟩ := h
    rfl
  · obtain ⟨p, r, rfl, hT, k⟩ := h
    have D : PSs (cxOf C8.CX0 P w K mg base N_Row_str "Row.__str__" (defScope s_Row_str) (He.ma K (He.ga K "Row") "__str__") cdv A0 outer s H E).nox (defBody s_Row_str) _ := (pss_one (ps_ret (pe_callTy SkE.call_str_str (by rfl) T.b_str (by decide +kernel) (pa_cons (C8.pe_c G_text_of hr (by decide) rfl (pa_cons (pv 0) pa_nil)) pa_nil))))
    exact ⟨_, D.nox, _, rfl, p, r, rfl, hT, fun H1 e1 => ⟨_, rfl, k _ e1⟩⟩
end
end K36
/-! text KW1 -/
/-! the law's look at the rows -/
namespace K36
open PySem PySem.Spec PyProof.Rows L2
section
variable {P : Program} {w : World} {K : PySem.W.Frag} {mg : Str → Option Value} {base : Heap}
abbrev N_law_is_book : List Str := ["_law_rows", "_law_last", "_law_dead", "_law_at", "_law_number", "_law_written", "_law_minute", "_law_deed_here", "_law_right"]
theorem sc_law_is_book : FnScope N_law_is_book ["_law_rows"] (defScope s_law_is_book) := ⟨rfl, rfl, rfl, by decide +kernel, rfl, by decide +kernel, by decide +kernel⟩
def sp_is_book (K : PySem.W.Frag) : Sp := fun vs H Q _ => ∃ (l : Addr) (tR : List Addr) (rows : List RowD) (g : Gd) (es : List Eng), vs = [.ref l] ∧ RowsL K H l tR rows ∧ Book g es rows ∧ rows.length ≤ 60 ∧ ∀ H', Ext H H' → Q (.bl true) H'
theorem ok_is_book (T : Tx w K mg) : C8.Cal P w K mg base 1 "_law_is_book" (sp_is_book K) [] := by
  refine cal_mk T.F_law_is_book T.g_law_is_book sc_law_is_book (fun _ _ _ _ _ _ us hl => match us, hl with | [_], _ => rfl) (fun vs H Q E h => ?_) (fun cdv A0 outer s H vs Q E hr h => ?_)
  · obtain ⟨l, tR, rows, g, es, rfl, _⟩ := h
    rfl
  · obtain ⟨l, tR, rows, g, es, rfl, hL, hB, h60, k⟩ := h
    refine ⟨_, (pss_cons (ps_par (i := 1) (j := 2) rfl sc_law_is_book.nd rfl rfl (by decide) rfl rfl (pa_cons pe_int (pa_cons (pe_lst pa_nil) pa_nil)) (by rfl))
    (pss_cons (ps_for PassesOwn.never rfl (pi_enum (by rfl) T.b_enumerate (pa_cons (pv 0) pa_nil)) (pg_tup rfl (pgs_cons (pg_name (i := 3) sc_law_is_book.nd rfl (Or.inl rfl)) (pgs_cons (pg_tup rfl (pgs_cons (pg_name (i := 4) sc_law_is_book.nd rfl (Or.inl rfl)) (pgs_cons (pg_name (i := 5) sc_law_is_book.nd rfl (Or.inl rfl)) (pgs_cons (pg_name (i := 6) sc_law_is_book.nd rfl (Or.inl rfl)) (pgs_cons (pg_name (i := 7) sc_law_is_book.nd rfl (Or.inl rfl)) (pgs_cons (pg_name (i := 8) sc_law_is_book.nd rfl (Or.inl rfl)) pgs_nil)))))) pgs_nil)))
      (pss_cons (ps_if (PW.pt (pw_or (pt_cmpR op_ne (pv 4) (pe_op op_add (pv 3) pe_int) (nomark _)) (pw_or (pt_cmpR op_lt (pv 5) (pv 1) (nomark _)) (pw_or (pt_not (pt_chain op_le op_le pe_int (pv 6) (pv 5))) (pw_or (pt_cmpR op_in_seq (pv 8) (pv 2) (by rfl)) (pw_or1 (pt_not (pt_chain op_le op_lt pe_int (pv 8) (pv 4)))))))))
          (pss_one (ps_ret pe_bl))
          pss_nil)
        (pss_cons (ps_set (i := 1) sc_law_is_book.nd rfl (Or.inl rfl) (pv 5))
        (pss_one (ps_set (i := 2) sc_law_is_book.nd rfl (Or.inl rfl) (pe_op op_cat (pv 2) (pe_op op_rep (pe_lst (pa_cons (pv 8) pa_nil)) (pe_callTy call_int1 (by rfl) T.b_int (by decide +kernel) (pa_cons (pe_cmpR op_gt (pv 8) pe_int (nomark _)) pa_nil)))))))))
    (pss_one (ps_ret pe_bl)))), ?_⟩
    refine ⟨sz rfl, fun D0 hD0 => ?_⟩
    have hlen := hL.len
    refine ⟨_, _, rfl, _, rfl, l, _, rfl, SqL.of ((Ext.upd hD0) _ _ hL.l), for_it walk_enum (fun i σ' H' => ∃ (last : Int) (D : Addr) (v3 v4 v5 v6 v7 v8 : Option V), σ' = [some (.ref l), some (.int last), some (.ref D), v3, v4, v5, v6, v7, v8] ∧ Ext H H' ∧ H' D = some (.lst ((deadOf (rows.take i)).map V.int)) ∧ (last = 0 ∨ ∃ q ∈ rows.take i, last = q.written))
      ⟨_, _, _, _, _, _, _, _, rfl, Ext.upd hD0, upd_same, .inl rfl⟩ (fun i σ' H' _ ⟨_, _, _, _, _, _, _, _, _, e, _⟩ => SqL.of (e _ _ hL.l)) ?_ ?_⟩
    · rintro i x σ' H1 H2 hi ⟨last, D, v3, v4, v5, v6, v7, v8, rfl, e, hDD, hlast⟩ ⟨T1, a1, b1, rfl, hT1, rfl, ha, hb⟩
      obtain ⟨t, ht, rfl⟩ := map_at hb
      obtain ⟨r, hri, hT⟩ := hL.at e ht
      have ok := hB.at i r hri
      have hi' := (List.getElem?_eq_some_iff.mp hri).1
      cases ha
      have e2 : Ext H (upd H1 T1 (.tup [.int (i : Nat), .ref t])) := e.trans (Ext.upd hT1)
      have hD2 := show upd H1 T1 (.tup [.int (i : Nat), .ref t]) D = _ from (upd_ne (ne_of_none hDD hT1)).trans hDD
      have hT2 : SqT K (upd H1 T1 (.tup [.int (i : Nat), .ref t])) t r.enc := SqT.ext hT (Ext.upd hT1)
      refine ⟨T1, _, rfl, SqT.of upd_same, rfl, _, _, rfl, ?_⟩
      refine i_gn ⟨_, _, rfl, t, _, rfl, hT2, rfl, _, _, rfl, _, _, rfl, _, _, rfl, _, _, rfl, _, _, rfl, rfl, rfl, ?_⟩
      have hln : ((rows.take i).length : Int) = i := by rw [List.length_take]; omega
      have hn : r.n = (i : Int) + 1 := by rw [ok.n, hln]
      have hlw : last ≤ r.written := by
        rcases hlast with h | ⟨q, hq, h⟩
        · have := ok.at0; have := ok.at1; omega
        · rw [h]; exact ok.last q hq
      refine ⟨_, rfl, _, rfl, _, _, rfl, rfl, rfl, false, ?_, iteF ?_⟩
      · rw [hn]; simp
      refine ⟨_, rfl, _, rfl, _, _, rfl, rfl, _, rfl, ?_⟩
      rw [decide_eq_false (show ¬ r.written < last by omega)]
      refine iteF ?_
      refine ⟨_, rfl, _, _, rfl, rfl, _, rfl, ?_⟩
      rw [decide_eq_true ok.at0]
      refine iteT ⟨_, rfl, _, _, rfl, rfl, _, rfl, ?_⟩
      rw [decide_eq_true ok.at1]
      refine iteF ?_
      refine ⟨_, rfl, _, rfl, D, _, rfl, .inl (SqL.of hD2), rfl, flat_ints _, _, rfl, ?_⟩
      rw [inV_int, decide_eq_false ok.rd]
      refine iteF ?_
      refine ⟨_, rfl, _, _, rfl, rfl, _, rfl, ?_⟩
      rw [decide_eq_true ok.r0]
      refine iteT ⟨_, rfl, _, _, rfl, rfl, _, rfl, ?_⟩
      rw [decide_eq_true (show r.right < r.n by have := ok.r1; omega)]
      refine iteF ?_
      refine ⟨_, rfl, _, rfl, _, rfl, sz rfl, fun L1 hL1 => ?_⟩
      generalize hg3 : upd (upd H1 T1 _) L1 _ = H3
      obtain ⟨e3, h3, _⟩ := newF hL1 hg3
      refine ⟨_, rfl, _, _, rfl, rfl, .inr ⟨_, rfl, ?_⟩⟩
      have hdl : (deadOf (rows.take i)).length ≤ 60 := by
        unfold deadOf
        refine Nat.le_trans (List.length_filter_le _ _) ?_
        rw [List.length_map, List.length_take]; omega
      have hz : ∀ b, decide (0 < r.right) = b → (List.replicate (if b = true then (1 : Int) else 0).toNat [V.int r.right]).flatten = (if 0 < r.right then [r.right] else []).map V.int := fun b hb => by
        cases b with
        | true => rw [if_pos (of_decide_eq_true hb)]; rfl
        | false => rw [if_neg (of_decide_eq_false hb)]; rfl
      refine ⟨L1, _, _, rfl, rfl, h3, by split <;> decide, by split <;> decide, (by rw [sizeLine_eq]; show 1 * _ ≤ _; split <;> simp), fun L2 hL2 => ?_⟩
      rw [hz _ rfl]
      have hr1 : (if 0 < r.right then [r.right] else []).length ≤ 1 := by split <;> simp
      generalize hg4 : upd H3 L2 _ = H4
      obtain ⟨e4, h4, _⟩ := newF hL2 hg4
      refine ⟨D, L2, _, _, rfl, rfl, e4 _ _ (e3 _ _ hD2), h4, (by rw [List.length_map, List.length_map, sizeLine_eq]; omega), fun L3 hL3 => ?_⟩
      refine ⟨r.written, L3, _, _, _, _, _, _, rfl, ((e2.trans e3).trans e4).trans (Ext.upd hL3), upd_same.trans ?_, .inr ⟨r, ?_, rfl⟩⟩
      · rw [List.take_add_one, hri]
        show _ = some (HO.lst ((deadOf (rows.take i ++ [r])).map V.int))
        rw [dead_snoc, ← List.map_append]
        split
        · rfl
        · rw [List.append_nil]
      · rw [List.take_add_one, hri]
        exact List.mem_append_right _ (List.mem_singleton.mpr rfl)
    · rintro σ' H1 ⟨last, D, v3, v4, v5, v6, v7, v8, rfl, e, hDD, hlast⟩
      exact k _ e
end
end K36
/-! text KVoid -/
/-! the void rows as plain data -/
namespace K36
open PySem PySem.Spec PyProof.Rows L2
theorem play_void (l : List RR) : ∀ acc : RS × List (Int × Str), ∃ (sub : List RR) (X : List (Int × Str)), sub.Sublist l ∧ (l.foldl stepR acc).2 = acc.2 ++ X ∧ X.map (·.1) = sub.map (·.1.n) ∧ ∀ v ∈ X, v.2 ∈ whys := by
  induction l with
  | nil => intro acc; exact ⟨[], [], .slnil, (List.append_nil _).symm, rfl, fun _ h => absurd h (by simp)⟩
  | cons q l ih =>
    intro acc
    obtain ⟨sub, X, h1, h2, h3, h4⟩ := ih (stepR acc q)
    rw [List.foldl_cons]
    by_cases e : (doneP acc.1 q.1.deed q.2 q.1.at_).1 = ""
    · refine ⟨sub, X, h1.cons _, ?_, h3, h4⟩
      rw [h2]
      show (if _ then _ else _) ++ X = _
      rw [if_pos e]
    · refine ⟨q :: sub, (q.1.n, (doneP acc.1 q.1.deed q.2 q.1.at_).1) :: X, h1.cons₂ _, ?_, ?_, ?_⟩
      · rw [h2]
        show (if _ then _ else _) ++ X = _
        rw [if_neg e, List.append_assoc]; rfl
      · rw [List.map_cons, List.map_cons, h3]
      · intro v hv
        rcases List.mem_cons.mp hv with z | z
        · rw [z]; exact (done_why _ _ _ _).resolve_left e
        · exact h4 v z
theorem leQ_trans (a b c : RR) (h1 : leQ a b = true) (h2 : leQ b c = true) : leQ a c = true := by
  unfold leQ at *
  rw [decide_eq_true_eq] at *
  omega
theorem leQ_total (a b : RR) : (leQ a b || leQ b a) = true := by
  unfold leQ
  rw [Bool.or_eq_true, decide_eq_true_eq, decide_eq_true_eq]
  omega
theorem order_sorted (rr : List RR) (at_ wo : Int) : (orderR rr at_ wo).Pairwise fun a b => leQ a b = true := List.pairwise_mergeSort leQ_trans leQ_total _
/-- the rows that are void, and their texts -/
structure VoidOk (rr : List RR) (sub : List RR) (X : List (Int × Str)) : Prop where
  ns : X.map (·.1) = sub.map (·.1.n)
  why : ∀ v ∈ X, v.2 ∈ whys
  mem : ∀ q ∈ sub, q ∈ rr ∧ q.1.n ∉ deadOf (rws rr)
  srt : sub.Pairwise fun a b => leQ a b = true
  nd : (sub.map (·.1.n)).Nodup
theorem order_nd {g : Gd} {es : List Eng} {rr : List RR} (hb : Book g es (rws rr)) (at_ wo : Int) : ((orderR rr at_ wo).map (·.1.n)).Nodup := by
  have h1 : (rr.map (·.1.n)).Nodup := by
    have := book_nd hb
    unfold rws at this
    rwa [List.map_map] at this
  have h2 : ((uptoR (livingR rr wo) at_).map (·.1.n)).Nodup := (((List.filter_sublist).trans List.filter_sublist).map _).nodup h1
  exact ((List.mergeSort_perm _ _).map _).nodup_iff.mpr h2
theorem mem_living {rr : List RR} {at_ wo : Int} {q : RR} (h : q ∈ orderR rr at_ wo) : q ∈ rr ∧ q.1.n ∉ deadOf (rws rr) := by
  unfold orderR at h
  rw [(List.mergeSort_perm _ _).mem_iff] at h
  have h1 := (List.mem_filter.mp h).1
  obtain ⟨h2, h3⟩ := List.mem_filter.mp h1
  rw [Bool.and_eq_true, Bool.not_eq_true', decide_eq_false_iff_not] at h3
  exact ⟨h2, h3.1⟩
theorem void_ok {g : Gd} {es : List Eng} {rr : List RR} (hb : Book g es (rws rr)) (es' : List Eng) : ∃ sub, VoidOk rr sub (replayP es' rr 9999 0).2 := by
  obtain ⟨sub, X, h1, h2, h3, h4⟩ := play_void (orderR rr 9999 0) (initS es', [])
  have e : (replayP es' rr 9999 0).2 = X := h2.trans (List.nil_append X)
  rw [e]
  exact ⟨sub, h3, h4, fun q hq => mem_living (h1.subset hq), (order_sorted rr 9999 0).sublist h1, (h1.map _).nodup (order_nd hb 9999 0)⟩
theorem VoidOk.len {rr sub : List RR} {X : List (Int × Str)} (h : VoidOk rr sub X) : X.length = sub.length := by
  have := congrArg List.length h.ns
  rwa [List.length_map, List.length_map] at this
/-- a list without twins that lies in another is no longer -/
theorem nodup_le {α : Type} [DecidableEq α] : ∀ {l m : List α}, l.Nodup → (∀ x ∈ l, x ∈ m) → l.length ≤ m.length
  | [], _, _, _ => Nat.zero_le _
  | x :: l, m, hn, hs => by
    have hx := hs x (List.mem_cons_self ..)
    obtain ⟨h1, h2⟩ := List.nodup_cons.mp hn
    have := nodup_le (l := l) (m := m.erase x) h2 fun y hy => (List.mem_erase_of_ne (fun e => h1 (by rw [← e]; exact hy))).mpr (hs y (List.mem_cons_of_mem _ hy))
    rw [List.length_erase_of_mem hx] at this
    have hp : 0 < m.length := List.length_pos_of_mem hx
    rw [List.length_cons]
    omega
/-- the tuple that the law makes of a void row -/
def ordRow (q : RR) : List V := [.int q.1.at_, .int q.1.n]
theorem leR_ord (p q : RR) : leR (ordRow p) (ordRow q) = leQ p q := congrFun (congrFun (W.dataLe_ii (β := RR) (fun b => b.1.at_) (fun b => b.1.n)) p) q
theorem ord_sorted {rr sub : List RR} {X : List (Int × Str)} (h : VoidOk rr sub X) : (sub.map ordRow).mergeSort leR = sub.map ordRow := by
  refine List.mergeSort_of_pairwise ?_
  refine List.pairwise_map.mpr (h.srt.imp fun {a b} z => ?_)
  rw [leR_ord]; exact z
theorem ord_isV (sub : List RR) : ∀ r ∈ sub.map ordRow, r.all isV = true := fun r hr => by
  obtain ⟨q, _, rfl⟩ := List.mem_map.mp hr
  rfl
theorem ord_nd {rr sub : List RR} {X : List (Int × Str)} (h : VoidOk rr sub X) : (sub.map fun q => [q.1.at_, q.1.n]).Nodup := by
  have h2 := h.nd
  refine List.Pairwise.map _ (fun a b z => ?_) (List.pairwise_map.mp h2)
  intro e
  injection e with e1 e2
  injection e2 with e3 e4
  exact z e3
end K36
/-! text K6 -/
namespace K36
open PySem PySem.Spec PyProof.Rows L2 SX
section
variable {P : Program} {w : World} {K : PySem.W.Frag} {mg : Str → Option Value} {base : Heap}
abbrev N_law_calls_of : List Str := ["_law_rows", "_law_row"]
theorem sc_law_calls_of : FnScope N_law_calls_of ["_law_rows"] (defScope s_law_calls_of) := ⟨rfl, rfl, rfl, by decide +kernel, rfl, by decide +kernel, by decide +kernel⟩
def sp_calls_of (K : PySem.W.Frag) : Sp := fun vs H Q _ => ∃ (l : Addr) (tR : List Addr) (rows : List RowD), vs = [.ref l] ∧ RowsL K H l tR rows ∧ rows.length ≤ 60 ∧ ∀ (p : Addr) (cs : List Int) H', (∀ c ∈ cs, ∃ r ∈ rows, r.n = c) → cs.length ≤ rows.length → H p = none → H' p = some (.lst (cs.map V.int)) → Ext H H' → Q (.ref p) H'
theorem deed_word (d : Deed) : ∃ (x : Str) (r : List V), d.vs = .str x :: r := by cases d <;> exact ⟨_, _, rfl⟩
theorem ok_calls_of (T : Tx w K mg) : C8.Cal P w K mg base 1 "_law_calls_of" (sp_calls_of K) [] := by
  refine cal_mk T.F_law_calls_of T.g_law_calls_of sc_law_calls_of (fun _ _ _ _ _ _ us hl => match us, hl with | [_], _ => rfl) (fun vs H Q E h => ?_) (fun cdv A outer s H vs Q E hr h => ?_)
  · obtain ⟨l, tR, rows, rfl, _⟩ := h
    rfl
  · obtain ⟨l, tR, rows, rfl, hR, hlen, k⟩ := h
    refine ⟨_, (pss_one (ps_ret (pe_lc (own := [("_law_row", 1)]) (g := (gName 1)) rfl sc_law_calls_of.nd (pi_list (pv 0)) (blkOk_by (N := N_law_calls_of) (sc := defScope s_law_calls_of) (by decide +kernel)) (fun _ _ _ _ _ => (pg_name (i := 1) sc_law_calls_of.nd rfl (Or.inl rfl))) (fun _ _ _ _ _ => (pts_one (PW.pt (pw_and (pt_cmpR op_eq (pe_ix (ix_tupK K) (pe_ix (ix_tupK K) (pv 1) pe_int (fun _ _ => rfl)) pe_int (fun _ _ => rfl)) pe_str (nomark _)) (pw_and1 (pt_cmpR op_eq (pe_ix (ix_tupK K) (pv 1) pe_int (fun _ _ => rfl)) pe_int (nomark _))))))) (fun _ _ _ _ _ => (pe_ix (ix_tupK K) (pv 1) pe_int (fun _ _ => rfl)))))), ?_⟩
    refine ⟨_, rfl, l, rfl, ⟨_, SqL.of hR.l⟩, fun D hD => ?_⟩
    have lt : tR.length = rows.length := by have := hR.ts.length; rwa [List.length_map] at this
    refine lc_list (xs := tR.map V.ref) (fun i H' => ∃ cs : List Int, (∀ c ∈ cs, ∃ r ∈ rows, r.n = c) ∧ cs.length ≤ i ∧ Ext H H' ∧ H' D = some (.lst (cs.map V.int)))
      ⟨[], fun _ z => absurd z (by simp), Nat.le_refl _, Ext.upd hD, upd_same⟩ (fun i H' _ ⟨_, _, _, e, _⟩ => SqL.of (e _ _ hR.l)) ?_ ?_
    · rintro i y H' hy ⟨cs, c1, c2, e, hDD⟩
      obtain ⟨t, ht, rfl⟩ := map_at hy
      obtain ⟨row, hrow, hT⟩ := Paired.at' hR.ts ht
      obtain ⟨r, hr', rfl⟩ : ∃ r, rows[i]? = some r ∧ r.enc = row := by
        rw [List.getElem?_map] at hrow
        cases e : rows[i]? with
        | none => rw [e] at hrow; cases hrow
        | some z => rw [e] at hrow; exact ⟨z, rfl, Option.some.inj hrow⟩
      have hT' := SqT.ext hT e
      have hd := SqT.ext (hR.ds r (List.mem_of_getElem? hr')) e
      obtain ⟨x, rr, hx⟩ := deed_word r.deed
      rw [hx] at hd
      have hi : i < rows.length := (List.getElem?_eq_some_iff.mp hr').1
      refine ⟨rfl, ?_⟩
      refine ⟨_, rfl, t, _, _, _, rfl, rfl, hT', rfl, r.dA, _, _, _, rfl, rfl, hd, at_of (j := 0) rfl rfl, rfl, _, rfl, ?_⟩
      refine ite2 (fun _ => ?_) (fun _ => iteF ⟨cs, c1, by omega, e, hDD⟩)
      refine ⟨_, rfl, t, _, _, _, rfl, rfl, hT', rfl, rfl, _, rfl, ?_⟩
      refine ite2 (fun _ => ?_) (fun _ => ⟨cs, c1, by omega, e, hDD⟩)
      refine ⟨_, rfl, t, _, _, _, rfl, rfl, hT', rfl, _, hDD, szl (by rw [List.length_map]; omega), cs ++ [r.n], fun c hc => ?_, by rw [List.length_append]; show _ + 1 ≤ _; omega, updE e hD, by rw [upd_same, List.map_append]; rfl⟩
      rcases List.mem_append.mp hc with z | z
      · exact c1 c z
      · exact ⟨r, List.mem_of_getElem? hr', (List.mem_singleton.mp z).symm⟩
    · rintro H' ⟨cs, c1, c2, e, hDD⟩
      exact k D cs H' c1 (by rw [List.length_map] at c2; omega) hD hDD e
/-- one column of the rows, as a list -/
theorem lc_col {l : Addr} {tR : List Addr} {rows : List RowD} {σ : L2.St} {H : Hp} {Q : VK} {i j kk : Nat} (f : RowD → V) (hσ : σ[i]? = some (some (.ref l))) (hj : j < σ.length) (hR : RowsL K H l tR rows) (len : rows.length ≤ 60) (hf : ∀ r : RowD, r.enc[kk]? = some (f r))
    (k : ∀ D H', H D = none → Ext H H' → H' D = some (.lst (rows.map f)) → Q (.ref D) H') : tLc (iList K (tVar i)) (gName j) tYes (tOp (rIxT K) (tVar j) (tC (.int kk))) [j] σ H Q := by
  refine ⟨_, hσ, l, rfl, ⟨_, SqL.of hR.l⟩, fun D hD => ?_⟩
  have lt : tR.length = rows.length := by have := hR.ts.length; rwa [List.length_map] at this
  refine lc_list (xs := tR.map V.ref) (fun i H' => Ext H H' ∧ H' D = some (.lst ((rows.take i).map f))) ⟨Ext.upd hD, upd_same⟩ (fun i H' _ ⟨e, _⟩ => SqL.of (e _ _ hR.l)) ?_ ?_
  · rintro n y H' hy ⟨e, hDD⟩
    obtain ⟨t, ht, rfl⟩ := map_at hy
    obtain ⟨row, hrow, hT⟩ := Paired.at' hR.ts ht
    obtain ⟨r, hr', rfl⟩ : ∃ r, rows[n]? = some r ∧ r.enc = row := by
      rw [List.getElem?_map] at hrow
      cases e : rows[n]? with
      | none => rw [e] at hrow; cases hrow
      | some z => rw [e] at hrow; exact ⟨z, rfl, Option.some.inj hrow⟩
    have hi : n < rows.length := (List.getElem?_eq_some_iff.mp hr').1
    have w1 : wipe σ [j] = σ.set j none := rfl
    refine ⟨?_, ?_⟩
    · show ((wipe σ [j]).set j _).set j none = _
      rw [w1, List.set_set, List.set_set]
    · refine ⟨_, ?_, t, _, _, _, rfl, rfl, SqT.ext hT e, atI_nat (hf r), _, hDD, szl (by rw [List.length_map, List.length_take]; omega), updE e hD, ?_⟩
      · rw [w1, List.set_set, List.getElem?_set_self hj]
      · rw [upd_same, List.take_add_one, hr', List.map_append]; rfl
  · rintro H' ⟨e, hDD⟩
    rw [List.length_map, lt, List.take_length] at hDD
    exact k D H' hD e hDD
abbrev N_law_next : List Str := ["_law_bag_here", "_law_told", "_law_engines_here", "_law_rows", "_law_last", "_law_written", "_law_at", "_law_deed_here", "_law_dead", "_law_living", "_law_right", "_law_row"]
theorem sc_law_next : FnScope N_law_next ["_law_bag_here", "_law_told", "_law_engines_here", "_law_rows"] (defScope s_law_next) := ⟨rfl, rfl, rfl, by decide +kernel, rfl, by decide +kernel, by decide +kernel⟩
/-- what may be written next -/
structure NextOk (g : Gd) (es : List Eng) (rows : List RowD) (written at_ : Int) (d : Deed) (right : Int) : Prop where
  w : written ≤ 9999
  last : ∀ q ∈ rows, q.written ≤ written
  at0 : 0 ≤ at_
  at1 : at_ ≤ written
  deed : DOk g es d
  r0 : 0 ≤ right
  r1 : right ≤ rows.length
  rd : right ∉ deadOf rows
def sp_next (K : PySem.W.Frag) : Sp := fun vs H Q _ => ∃ (b l : Addr) (A : Adr) (g : Gd) (es : List Eng) (tR : List Addr) (rows : List RowD), vs = [.ref b, .ref A.T, .ref A.E, .ref l] ∧ Bag H b ∧ GOk g ∧ EOk g.stations es ∧ GAt K H A g ∧ EAt K H A es ∧ SqT K H A.T [.ref A.P, .ref A.R, .ref A.S] ∧
  RowsL K H l tR rows ∧ l ≠ b ∧ Book g es rows ∧ rows.length ≤ 60 ∧ ∀ (t dA : Addr) (written at_ right : Int) (d : Deed) H', NextOk g es rows written at_ d right → SqT K H' dA d.vs → SqT K H' t [.int written, .int at_, .ref dA, .int right] → BagEx b H H' → Q (.ref t) H'
theorem ok_next (T : Tx w K mg) (G_law_take : C8.Cal P w K mg base 1 "_law_take" sp_take []) (G_law_deed : C8.Cal P w K mg base 3 "_law_deed" (sp_deed K) []) (G_law_calls_of : C8.Cal P w K mg base 1 "_law_calls_of" (sp_calls_of K) []) : C8.Cal P w K mg base 4 "_law_next" (sp_next K) [] := by
  refine cal_mk T.F_law_next T.g_law_next sc_law_next (fun _ _ _ _ _ _ us hl => match us, hl with | [_, _, _, _], _ => rfl) (fun vs H Q E h => ?_) (fun cdv A outer s H vs Q E hr h => ?_)
  · obtain ⟨b, l, A, g, es, tR, rows, rfl, _⟩ := h
    rfl
  · obtain ⟨b, l, A, g, es, tR, rows, rfl, hB, gok, eok, ga, ea, hT, hR, nlb, bk, len, k⟩ := h
    refine ⟨_, (pss_cons (ps_set (i := 4) sc_law_next.nd rfl (Or.inl rfl) (pe_callB (cr_max rfl) (by rfl) T.b_max (by decide +kernel) (pa_cons (pe_op op_cat (pe_lc (own := [("_law_row", 11)]) (g := (gName 11)) (tt := tYes) rfl sc_law_next.nd (pi_list (pv 3)) (blkOk_by (N := N_law_next) (sc := defScope s_law_next) (by decide +kernel)) (fun _ _ _ _ _ => (pg_name (i := 11) sc_law_next.nd rfl (Or.inl rfl))) (fun _ _ _ _ _ => pts_nil) (fun _ _ _ _ _ => (pe_ix (ix_tupK K) (pv 11) pe_int (fun _ _ => rfl)))) (pe_lst (pa_cons pe_int pa_nil))) pa_nil)))
    (pss_cons (ps_set (i := 5) sc_law_next.nd rfl (Or.inl rfl) (pe_callB (call_min2 rfl) (by rfl) T.b_min (by decide +kernel) (pa_cons pe_int (pa_cons (pe_op op_add (pv 4) (C8.pe_c G_law_take hr (by decide) rfl (pa_cons (pv 0) (pa_cons (pe_ix ix_tup (pe_tup (pa_cons pe_int (pa_cons pe_int (pa_cons pe_int pa_nil)))) (C8.pe_c G_law_take hr (by decide) rfl (pa_cons (pv 0) (pa_cons pe_int pa_nil))) (fun _ _ => rfl)) pa_nil)))) pa_nil))))
    (pss_cons (ps_set (i := 6) sc_law_next.nd rfl (Or.inl rfl) (pe_op op_sub (pv 5) (C8.pe_c G_law_take hr (by decide) rfl (pa_cons (pv 0) (pa_cons (pe_op op_add pe_int (pe_callB (call_min2 rfl) (by rfl) T.b_min (by decide +kernel) (pa_cons (pv 5) (pa_cons (pe_ix ix_tup (pe_tup (pa_cons pe_int (pa_cons pe_int (pa_cons pe_int (pa_cons pe_int pa_nil))))) (C8.pe_c G_law_take hr (by decide) rfl (pa_cons (pv 0) (pa_cons pe_int pa_nil))) (fun _ _ => rfl)) pa_nil)))) pa_nil)))))
    (pss_cons (ps_set (i := 7) sc_law_next.nd rfl (Or.inl rfl) (C8.pe_c G_law_deed hr (by decide) rfl (pa_cons (pv 0) (pa_cons (pv 1) (pa_cons (pv 2) (pa_cons (C8.pe_c G_law_calls_of hr (by decide) rfl (pa_cons (pv 3) pa_nil)) pa_nil))))))
    (pss_cons (ps_set (i := 8) sc_law_next.nd rfl (Or.inr rfl) (pe_lc (own := [("_law_row", 11)]) (g := (gName 11)) (tt := tYes) rfl sc_law_next.nd (pi_list (pv 3)) (blkOk_by (N := N_law_next) (sc := defScope s_law_next) (by decide +kernel)) (fun _ _ _ _ _ => (pg_name (i := 11) sc_law_next.nd rfl (Or.inl rfl))) (fun _ _ _ _ _ => pts_nil) (fun _ _ _ _ _ => (pe_ix (ix_tupK K) (pv 11) pe_int (fun _ _ => rfl)))))
    (pss_cons (ps_setLc (i := 9) (own := [("_law_row", 11)]) (g := (gName 11)) rfl sc_law_next.nd rfl rfl (sw_true rfl rfl rfl (by decide +kernel)) (pi_list (pv 3)) (blkOk_by (N := N_law_next) (sc := defScope s_law_next) (by decide +kernel)) (fun _ _ _ _ _ => (pg_name (i := 11) sc_law_next.nd rfl (Or.inl rfl))) (fun _ _ _ _ _ => (pts_one (pt_cmpR (op_notIn_seqK K) (pe_ix (ix_tupK K) (pv 11) pe_int (fun _ _ => rfl)) (pv 8) (by rfl)))) (fun _ _ _ _ _ => (pe_ix (ix_tupK K) (pv 11) pe_int (fun _ _ => rfl))))
    (pss_cons (ps_set (i := 10) sc_law_next.nd rfl (Or.inl rfl) pe_int)
    (C8.pss_cut (ps_if (PW.pt (pw_and (pt_cmpR (op_neD hr.units) (pv 9) (pe_lst pa_nil) (nomark _)) (pw_and1 (pt_cmpR op_eq (C8.pe_c G_law_take hr (by decide) rfl (pa_cons (pv 0) (pa_cons pe_int pa_nil))) pe_int (nomark _)))))
      (pss_one (ps_set (i := 10) sc_law_next.nd rfl (Or.inl rfl) (pe_ix ix_list (pv 9) (C8.pe_c G_law_take hr (by decide) rfl (pa_cons (pv 0) (pa_cons (pe_callB call_len_seq (by rfl) T.b_len (by decide +kernel) (pa_cons (pv 9) pa_nil)) pa_nil))) (fun _ _ => rfl))))
      pss_nil)
    (C8.pss_cut (ps_if (PW.pt (pw_and (pt_cmpR op_gt (pv 10) pe_int (nomark _)) (pw_and1 (pt_cmpR op_eq (C8.pe_c G_law_take hr (by decide) rfl (pa_cons (pv 0) (pa_cons pe_int pa_nil))) pe_int (nomark _)))))
      (pss_cons (ps_set (i := 7) sc_law_next.nd rfl (Or.inl rfl) (pe_ifExp (pt_cmpR op_eq (pe_ix ix_tup (pv 7) pe_int (fun _ _ => rfl)) (pe_ix ix_tup (pe_ix ix_tup (pe_ix ix_list (pv 3) (pe_op op_sub (pv 10) pe_int) (fun _ _ => rfl)) pe_int (fun _ _ => rfl)) pe_int (fun _ _ => rfl)) (nomark _)) (pv 7) (pe_ix ix_tup (pe_ix ix_list (pv 3) (pe_op op_sub (pv 10) pe_int) (fun _ _ => rfl)) pe_int (fun _ _ => rfl))))
        (pss_one (ps_set (i := 6) sc_law_next.nd rfl (Or.inl rfl) (pe_callB (call_max2 rfl) (by rfl) T.b_max (by decide +kernel) (pa_cons pe_int (pa_cons (pe_callB (call_min2 rfl) (by rfl) T.b_min (by decide +kernel) (pa_cons (pv 5) (pa_cons (pe_op op_add (pe_op op_sub (pe_ix ix_tup (pe_ix ix_list (pv 3) (pe_op op_sub (pv 10) pe_int) (fun _ _ => rfl)) pe_int (fun _ _ => rfl)) pe_int) (C8.pe_c G_law_take hr (by decide) rfl (pa_cons (pv 0) (pa_cons pe_int pa_nil)))) pa_nil))) pa_nil))))))
      pss_nil)
    (pss_one (ps_ret (pe_tup (pa_cons (pv 5) (pa_cons (pv 6) (pa_cons (pv 7) (pa_cons (pv 10) pa_nil)))))))))))))))), ?_⟩
    -- _law_last
    refine i_seq (i_asg (i_cb (i_cons (i_op ?_))))
    refine lc_col (fun r : RowD => V.int r.written) rfl (Nat.le_of_ble_eq_true rfl) hR len (kk := 1) (fun r => rfl) fun D1 H1 hD1 e1 h1 => ?_
    refine ⟨sz rfl, fun l2 hl2 => ?_⟩
    generalize hg2 : upd H1 l2 _ = H2
    obtain ⟨e2, h2, _⟩ := newF hl2 hg2
    refine ⟨_, _, _, _, rfl, rfl, e2 _ _ h1, h2, szn (by rw [List.length_map]; show _ + 1 ≤ _; omega), fun l3 hl3 => ?_⟩
    generalize hg3 : upd H2 l3 _ = H3
    obtain ⟨e3, h3, _⟩ := newF hl3 hg3
    have en : (rows.map fun r : RowD => V.int r.written) ++ [V.int 0] = (rows.map RowD.written ++ [0]).map V.int := by rw [List.map_append, List.map_map]; rfl
    rw [en] at h3
    refine ⟨l3, _, rfl, SqL.of h3, by rw [List.length_append]; show 0 < _ + 1; omega, fun lst hm hle => ?_⟩
    have lst0 : 0 ≤ lst := hle 0 (List.mem_append_right _ (List.mem_singleton.mpr rfl))
    have lstw : ∀ q ∈ rows, q.written ≤ lst := fun q hq => hle _ (List.mem_append_left _ (List.mem_map_of_mem hq))
    have lst9 : lst ≤ 9999 := by
      rcases List.mem_append.mp hm with z | z
      · obtain ⟨q, hq, e⟩ := List.mem_map.mp z
        obtain ⟨i, hi⟩ := List.mem_iff_getElem?.mp hq
        have := (bk.at i q hi).w
        omega
      · have : lst = 0 := by simpa using z
        omega
    have E3 := (e1.trans e2).trans e3
    have B3 := hB.ext E3
    -- _law_written
    refine ⟨_, rfl, _, rfl, sz rfl, fun t4 ht4 => ?_⟩
    generalize hg4 : upd H3 t4 _ = H4
    obtain ⟨e4, h4, _⟩ := newF ht4 hg4
    refine ⟨_, rfl, b, 3, rfl, by decide, by decide, B3.ext e4, fun d5 H5 d50 d51 x5 => ?_⟩
    obtain ⟨m5, hat5, m51, m560⟩ : ∃ m : Int, atI [V.int 1, .int 5, .int 60] d5 = some (.int m) ∧ 1 ≤ m ∧ m ≤ 60 := by
      have h : d5 = 0 ∨ d5 = 1 ∨ d5 = 2 := by omega
      rcases h with rfl | rfl | rfl
      · exact ⟨1, rfl, by decide, by decide⟩
      · exact ⟨5, rfl, by decide, by decide⟩
      · exact ⟨60, rfl, by decide, by decide⟩
    refine ⟨t4, _, _, _, rfl, rfl, x5.t (SqT.of h4), hat5, b, m5, rfl, by omega, by omega, x5.bag, fun d6 H6 d60 d61 x6 => ?_⟩
    have X6 := ((BagEx.of hB (E3.trans e4)).trans x5).trans x6
    refine ⟨_, _, rfl, rfl, _, _, rfl, ?_⟩
    obtain ⟨wr, hwr, wr9, wrl⟩ : ∃ wr : Int, (if lst + d6 < 9999 then lst + d6 else 9999) = wr ∧ wr ≤ 9999 ∧ lst ≤ wr := by
      refine ⟨_, rfl, ?_, ?_⟩ <;> split <;> omega
    rw [hwr]
    -- _law_at
    refine ⟨_, rfl, _, rfl, _, rfl, sz rfl, fun t7 ht7 => ?_⟩
    generalize hg7 : upd H6 t7 _ = H7
    obtain ⟨e7, h7, _⟩ := newF ht7 hg7
    refine ⟨_, rfl, b, 4, rfl, by decide, by decide, X6.bag.ext e7, fun d8 H8 d80 d81 x8 => ?_⟩
    obtain ⟨m8, hat8, m81, m860⟩ : ∃ m : Int, atI [V.int 0, .int 0, .int 20, .int 300] d8 = some (.int m) ∧ 0 ≤ m ∧ m ≤ 300 := by
      have h : d8 = 0 ∨ d8 = 1 ∨ d8 = 2 ∨ d8 = 3 := by omega
      rcases h with rfl | rfl | rfl | rfl
      · exact ⟨0, rfl, by decide, by decide⟩
      · exact ⟨0, rfl, by decide, by decide⟩
      · exact ⟨20, rfl, by decide, by decide⟩
      · exact ⟨300, rfl, by decide, by decide⟩
    refine ⟨t7, _, _, _, rfl, rfl, x8.t (SqT.of h7), hat8, _, _, rfl, ?_⟩
    refine ⟨_, _, rfl, rfl, ?_⟩
    obtain ⟨m9, hm9, m90, m9w, m9t⟩ : ∃ m : Int, (if m8 < wr then m8 else wr) = m ∧ 0 ≤ m ∧ m ≤ wr ∧ m ≤ 300 := by
      refine ⟨_, rfl, ?_, ?_, ?_⟩ <;> split <;> omega
    rw [hm9]
    refine ⟨b, 1 + m9, rfl, by omega, by omega, x8.bag, fun d9 H9 d90 d91 x9 => ?_⟩
    refine ⟨_, _, rfl, rfl, ?_⟩
    obtain ⟨at0, hat0, a0, a1⟩ : ∃ a : Int, wr - d9 = a ∧ 0 ≤ a ∧ a ≤ wr := ⟨_, rfl, by omega, by omega⟩
    have X9 := ((X6.ext e7).trans x8).trans x9
    have hR9 : RowsL K H9 l tR rows := ⟨X9.keep _ _ nlb hR.l, hR.ts.tm X9.tm, fun r hr => X9.t (hR.ds r hr)⟩
    -- _law_deed_here
    refine ⟨_, rfl, _, rfl, _, rfl, _, rfl, l, tR, rows, rfl, hR9, len, fun lc cs H10 hcs lcs hlc0 hlc e10 => ?_⟩
    have X10 := X9.ext e10
    have hR10 : RowsL K H10 l tR rows := ⟨X10.keep _ _ nlb hR.l, hR.ts.tm X10.tm, fun r hr => X10.t (hR.ds r hr)⟩
    refine ⟨b, lc, A, g, es, cs, rfl, X10.bag, gok, eok, ga.tm X10.tm, ea.tm X10.tm, X10.t hT, hlc, BagEx.ne X9.bag hlc0, fun c hc => ?_, by omega, fun d t11 H11 hd ht11 x11 => ?_⟩
    · obtain ⟨r, hr, rfl⟩ := hcs c hc
      obtain ⟨i, hi⟩ := List.mem_iff_getElem?.mp hr
      have := bk.num hi
      have := (List.getElem?_eq_some_iff.mp hi).1
      omega
    have X11 := X10.trans x11
    have hR11 : RowsL K H11 l tR rows := ⟨X11.keep _ _ nlb hR.l, hR.ts.tm X11.tm, fun r hr => X11.t (hR.ds r hr)⟩
    -- _law_dead
    refine i_gn ?_
    dsimp only
    refine i_seq (i_asg ?_)
    refine lc_col (fun r : RowD => V.int r.right) rfl (Nat.le_of_ble_eq_true rfl) hR11 len (kk := 4) (fun r => rfl) fun D12 H12 hD12 e12 h12 => ?_
    have hR12 : RowsL K H12 l tR rows := ⟨e12 _ _ hR11.l, hR11.ts.tm (fun _ _ h => SqT.ext h e12), fun r hr => SqT.ext (hR11.ds r hr) e12⟩
    -- _law_living
    refine ⟨_, rfl, l, rfl, ⟨_, SqL.of hR12.l⟩, fun D13 hD13 => ?_⟩
    refine lc_list (xs := tR.map V.ref) (fun i H' => ∃ cs : List Int, (∀ c ∈ cs, ∃ r ∈ rows, r.n = c ∧ c ∉ deadOf rows) ∧ cs.length ≤ i ∧ Ext H12 H' ∧ H' D13 = some (.lst (cs.map V.int)))
      ⟨[], fun _ z => absurd z (by simp), Nat.le_refl _, Ext.upd hD13, upd_same⟩ (fun i H' _ ⟨_, _, _, e, _⟩ => SqL.of (e _ _ hR12.l)) ?_ ?_
    · rintro i y H' hy ⟨cs, c1, c2, e, hDD⟩
      obtain ⟨t, ht, rfl⟩ := map_at hy
      obtain ⟨r, hr', hT'⟩ := hR12.at e ht
      have hi : i < rows.length := (List.getElem?_eq_some_iff.mp hr').1
      refine ⟨rfl, ?_⟩
      refine ⟨_, rfl, t, _, _, _, rfl, rfl, hT', rfl, _, rfl, ?_⟩
      refine ⟨D12, _, rfl, .inl (SqL.of (e _ _ h12)), rfl, (by rw [show (rows.map fun r : RowD => V.int r.right) = (rows.map RowD.right).map V.int by rw [List.map_map]; rfl]; exact flat_ints _), _, rfl, ?_⟩
      rw [show (rows.map fun r : RowD => V.int r.right) = (rows.map RowD.right).map V.int by rw [List.map_map]; rfl, inV_int]
      refine ite2 (fun c => ?_) (fun _ => ⟨cs, c1, by omega, e, hDD⟩)
      have hn : r.n ∉ rows.map RowD.right := fun z => by rw [decide_eq_true z] at c; cases c
      refine ⟨_, rfl, t, _, _, _, rfl, rfl, hT', rfl, _, hDD, szl (by rw [List.length_map]; omega), cs ++ [r.n], fun c hc => ?_, by rw [List.length_append]; show _ + 1 ≤ _; omega, updE e hD13, by rw [upd_same, List.map_append]; rfl⟩
      rcases List.mem_append.mp hc with z | z
      · exact c1 c z
      · refine ⟨r, List.mem_of_getElem? hr', (List.mem_singleton.mp z).symm, fun q => hn ?_⟩
        rw [List.mem_singleton.mp z] at q
        exact (List.mem_filter.mp q).1
    · rintro H13 ⟨cs2, c21, c22, e13, h13⟩
      rw [List.length_map, hR.len] at c22
      have X13 := (X11.ext e12).ext e13
      have hd13 := SqT.ext (SqT.ext ht11 e12) e13
      have X13' := ((BagEx.of X11.bag e12).ext e13)
      have hlv13 := h13
      -- first cut
      refine ⟨fun σ' H' => ∃ right : Int, σ' = [some (.ref b), some (.ref A.T), some (.ref A.E), some (.ref l), some (.int lst), some (.int wr), some (.int (wr - d9)), some (.ref t11), some (.ref D12), some (.ref D13), some (.int right), none] ∧ 0 ≤ right ∧ right ≤ rows.length ∧ right ∉ deadOf rows ∧ BagEx b H13 H', ?_, ?_⟩
      · have zd : (0 : Int) ∉ deadOf rows := fun z => absurd (mem_dead.mp z).1 (by decide)
        refine ⟨_, rfl, sz rfl, fun t14 ht14 => ?_⟩
        generalize hg14 : upd H13 t14 _ = H14
        obtain ⟨e14, h14, _⟩ := newF ht14 hg14
        refine ⟨.list ((cs2.map V.int).map dV), .list [], .lst (SqL.of (e14 _ _ h13)) (dpAll_v (isV_ints _)), .lst (SqL.of h14) .nil, shaped_ints _, by decide +kernel, _, rfl, ?_⟩
        refine ite2 (fun q => ?_) (fun _ => iteF ⟨0, rfl, by decide, by omega, zd, BagEx.of X13.bag e14⟩)
        have cne : 0 < cs2.length := by
          cases cs2 with
          | nil => exact absurd q (by decide +kernel)
          | cons a r => exact Nat.succ_pos _
        refine ⟨_, rfl, b, 4, rfl, by decide, by decide, X13.bag.ext e14, fun d4 H4' _ _ x4 => ⟨rfl, _, rfl, ?_⟩⟩
        have X4 := (BagEx.of X13.bag e14).trans x4
        refine ite2 (fun _ => ?_) (fun _ => ⟨0, rfl, by decide, by omega, zd, X4⟩)
        have nDb : D13 ≠ b := BagEx.ne (X11.ext e12).bag hD13
        have hC4 := x4.keep _ _ nDb (e14 _ _ h13)
        refine ⟨_, rfl, _, rfl, _, rfl, D13, _, rfl, .inl (SqL.of hC4), b, _, rfl, ?_, ?_, x4.bag, fun d5 H5' d50 d51 x5 => ?_⟩
        · rw [List.length_map]; omega
        · rw [List.length_map]; omega
        rw [List.length_map] at d51
        obtain ⟨i, rfl⟩ := Int.eq_ofNat_of_zero_le d50
        have hi : cs2[i]? = some cs2[i] := List.getElem?_eq_getElem (by omega)
        obtain ⟨r, hr1, hr2, hr3⟩ := c21 _ (List.getElem_mem (show i < cs2.length by omega))
        obtain ⟨j, hj⟩ := List.mem_iff_getElem?.mp hr1
        have n1 := bk.num hj
        have n2 := (List.getElem?_eq_some_iff.mp hj).1
        exact ⟨D13, _, _, _, rfl, rfl, SqL.of (x5.keep _ _ nDb hC4), atI_nat (by rw [List.getElem?_map, hi]; rfl), cs2[i], rfl, by omega, by omega, hr3, X4.trans x5⟩
      · rintro _ H14 ⟨right, rfl, r0, r1, rd, x14⟩
        have X14 := X13.trans x14
        have hR14 := hR.bag X14 nlb
        have hd14 := x14.t hd13
        -- second cut
        refine ⟨fun σ' H' => ∃ (at_ : Int) (d' : Deed) (dA : Addr), σ' = [some (.ref b), some (.ref A.T), some (.ref A.E), some (.ref l), some (.int lst), some (.int wr), some (.int at_), some (.ref dA), some (.ref D12), some (.ref D13), some (.int right), none] ∧ 0 ≤ at_ ∧ at_ ≤ wr ∧ DOk g es d' ∧ SqT K H' dA d'.vs ∧ BagEx b H14 H', ?_, ?_⟩
        · refine ⟨_, rfl, _, _, rfl, rfl, _, rfl, ?_⟩
          refine ite2 (fun q0 => ?_) (fun _ => iteF ⟨_, d, t11, rfl, by omega, by omega, hd, hd14, BagEx.rfl' x14.bag⟩)
          have q0' : 0 < right := by simpa using q0
          refine ⟨_, rfl, b, 2, rfl, by decide, by decide, x14.bag, fun d15 H15 _ _ x15 => ⟨rfl, _, rfl, ?_⟩⟩
          refine ite2 (fun _ => ?_) (fun _ => ⟨_, d, t11, rfl, by omega, by omega, hd, x15.t hd14, x15⟩)
          obtain ⟨i, rfl⟩ : ∃ i : Nat, right = (i : Int) + 1 := ⟨(right - 1).toNat, by omega⟩
          have hi : rows[i]? = some rows[i] := List.getElem?_eq_getElem (by omega)
          generalize rows[i]'(by omega) = r at hi
          have hR15 := hR14.bag x15 nlb
          obtain ⟨tr, htr, hT⟩ := hR15.at1 hi
          have hix : atI (tR.map V.ref) ((i : Int) + 1 - 1) = some (.ref tr) := by rw [show (i : Int) + 1 - 1 = (i : Nat) by omega]; exact atI_nat (by rw [List.getElem?_map, htr]; rfl)
          have hdr := hR15.ds r (List.mem_of_getElem? hi)
          have hd15 := x15.t hd14
          have okr := (bk.at i r hi).deed
          obtain ⟨x1, rr1, hx1⟩ := deed_word d
          obtain ⟨x2, rr2, hx2⟩ := deed_word r.deed
          refine ⟨_, rfl, t11, _, _, _, rfl, rfl, hx1 ▸ hd15, at_of (j := 0) rfl rfl, _, rfl, _, rfl, _, _, rfl, rfl, l, _, _, _, rfl, rfl, SqL.of hR15.l, hix, tr, _, _, _, rfl, rfl, hT, rfl, r.dA, _, _, _, rfl, rfl, hx2 ▸ hdr, at_of (j := 0) rfl rfl, rfl, _, rfl, ?_⟩
          refine ite2 (fun _ => ?_) (fun _ => ?_)
          · refine ⟨_, rfl, ?_⟩
            refine ⟨_, rfl, _, rfl, _, rfl, _, _, rfl, rfl, l, _, _, _, rfl, rfl, SqL.of hR15.l, hix, tr, _, _, _, rfl, rfl, hT, rfl, _, _, rfl, rfl, _, rfl, b, 20, rfl, by decide, by decide, x15.bag, fun d16 H16 _ _ x16 => ⟨_, _, rfl, rfl, _, _, rfl, _, _, rfl, ?_⟩⟩
            refine ⟨_, d, t11, rfl, ?_, ?_, hd, x16.t hd15, x15.trans x16⟩
            · split <;> omega
            · split <;> (split <;> omega)
          · refine ⟨_, rfl, _, rfl, _, _, rfl, rfl, l, _, _, _, rfl, rfl, SqL.of hR15.l, hix, tr, _, _, _, rfl, rfl, hT, rfl, ?_⟩
            refine ⟨_, rfl, _, rfl, _, rfl, _, _, rfl, rfl, l, _, _, _, rfl, rfl, SqL.of hR15.l, hix, tr, _, _, _, rfl, rfl, hT, rfl, _, _, rfl, rfl, _, rfl, b, 20, rfl, by decide, by decide, x15.bag, fun d16 H16 _ _ x16 => ⟨_, _, rfl, rfl, _, _, rfl, _, _, rfl, ?_⟩⟩
            refine ⟨_, r.deed, r.dA, rfl, ?_, ?_, okr, x16.t hdr, x15.trans x16⟩
            · split <;> omega
            · split <;> (split <;> omega)
        · rintro _ H15 ⟨at_, d', dA, rfl, a0, a1, hd', hdA, x15⟩
          refine ⟨_, rfl, _, rfl, _, rfl, _, rfl, sz rfl, fun t ht => ?_⟩
          exact k t dA wr at_ right d' _ ⟨wr9, fun q hq => Int.le_trans (lstw q hq) wrl, a0, a1, hd', r0, r1, rd⟩ (SqT.ext hdA (Ext.upd ht)) (SqT.of upd_same) ((X14.trans x15).ext (Ext.upd ht))
end
end K36
/-! text KW2 -/
/-! the law's look at the void rows -/
namespace K36
open PySem PySem.Spec PyProof.Rows L2
open LamX (Tabs TabS TabB ExtN CodeO)
section
variable {P : Program} {w : World} {K : PySem.W.Frag} {mg : Str → Option Value} {base : Heap}
theorem VoidOk.at {rr sub : List RR} {X : List (Int × Str)} (h : VoidOk rr sub X) {i : Nat} {v : Int × Str} (hv : X[i]? = some v) : ∃ q, sub[i]? = some q ∧ q.1.n = v.1 := by
  have e : (X.map (·.1))[i]? = some v.1 := by rw [List.getElem?_map, hv]; rfl
  rw [h.ns, List.getElem?_map] at e
  cases q : sub[i]? with
  | none => rw [q] at e; cases e
  | some z => rw [q] at e; exact ⟨z, rfl, Option.some.inj e⟩
abbrev N_law_void_holds : List Str := ["_law_room", "_law_rows", "_law_dead", "_law_void", "_law_order", "_law_row", "_law_number", "_law_why"]
theorem sc_law_void_holds : FnScope N_law_void_holds ["_law_room", "_law_rows"] (defScope s_law_void_holds) := ⟨rfl, rfl, rfl, by decide +kernel, rfl, by decide +kernel, by decide +kernel⟩
def sp_void_holds (K : PySem.W.Frag) (T : List (Addr × Str)) : Sp := fun vs H Q _ => ∃ (c : RoomC) (A : Adr) (g : Gd) (es : List Eng) (ps : List Addr) (rr : List RR) (l : Addr) (tR : List Addr), vs = [.ref c.ro, .ref l] ∧ RoomAt K T H c A g es ps rr ∧ RoomP g es rr ∧ RowsL K H l tR (rws rr) ∧ ∀ H', ExtN H H' → Tabs T H' → Q (.bl true) H'
theorem ok_void_holds (T : Tx w K mg) {Tb : List (Addr × Str)} (G_void : C8.Met P w K mg base 5 (He.ga K "Room") "void" (sp_void K Tb) []) : C8.Cal P w K mg base 6 "_law_void_holds" (sp_void_holds K Tb) [] := by
  refine cal_mk T.F_law_void_holds T.g_law_void_holds sc_law_void_holds (fun _ _ _ _ _ _ us hl => match us, hl with | [_, _], _ => rfl) (fun vs H Q E h => ?_) (fun cdv A0 outer s H vs Q E hr h => ?_)
  · obtain ⟨c, A, g, es, ps, rr, l, tR, rfl, _⟩ := h
    rfl
  · obtain ⟨c, A, g, es, ps, rr, l, tR, rfl, hR, hP, hL, k⟩ := h
    refine ⟨_, (pss_cons (ps_set (i := 2) sc_law_void_holds.nd rfl (Or.inr rfl) (pe_lc (own := [("_law_row", 5)]) (g := (gName 5)) (tt := tYes) rfl sc_law_void_holds.nd (pi_list (pv 1)) (blkOk_by (N := N_law_void_holds) (sc := defScope s_law_void_holds) (by decide +kernel)) (fun _ _ _ _ _ => (pg_name (i := 5) sc_law_void_holds.nd rfl (Or.inl rfl))) (fun _ _ _ _ _ => pts_nil) (fun _ _ _ _ _ => (pe_ix (ix_tupK K) (pv 5) pe_int (fun _ _ => rfl)))))
    (pss_cons (ps_set (i := 3) sc_law_void_holds.nd rfl (Or.inl rfl) (C8.pe_mt0 G_void hr (by decide) (pv 0)))
    (pss_cons (ps_setLc (i := 4) (own := [("_law_number", 6), ("_law_why", 7)]) (g := (gTup _ 2 (gCons (gName 6) (gCons (gName 7) gNil)))) (tt := tYes) rfl sc_law_void_holds.nd rfl rfl (sw_true rfl rfl rfl (by decide +kernel)) (pi_list (pv 3)) (blkOk_by (N := N_law_void_holds) (sc := defScope s_law_void_holds) (by decide +kernel)) (fun _ _ _ _ _ => (pg_tup rfl (pgs_cons (pg_name (i := 6) sc_law_void_holds.nd rfl (Or.inl rfl)) (pgs_cons (pg_name (i := 7) sc_law_void_holds.nd rfl (Or.inl rfl)) pgs_nil)))) (fun _ _ _ _ _ => pts_nil) (fun _ _ _ _ _ => (pe_tup (pa_cons (pe_ix (ix_tupK K) (pe_ix (ix_listK K) (pv 1) (pe_op op_sub (pv 6) pe_int) (fun _ _ => rfl)) pe_int (fun _ _ => rfl)) (pa_cons (pv 6) pa_nil)))))
    (pss_cons (ps_if (PW.pt (pw_or (pt_cmpR (op_neD hr.units) (pe_callB (cr_sortD (hu65 hr)) (by rfl) T.b_sorted (by decide +kernel) (pa_cons (pv 4) pa_nil)) (pv 4) (nomark _)) (pw_or1 (pt_cmpR op_ne (pe_callB cr_lenT (by rfl) T.b_len (by decide +kernel) (pa_cons (pe_callTy (cr_setOfT rfl hr.units) (by rfl) T.b_set (by decide +kernel) (pa_cons (pv 4) pa_nil)) pa_nil)) (pe_callB call_len_seq (by rfl) T.b_len (by decide +kernel) (pa_cons (pv 4) pa_nil)) (nomark _)))))
      (pss_one (ps_ret pe_bl))
      pss_nil)
    (pss_one (ps_ret (pe_not (pe_callB (cr_any rfl) (by rfl) T.b_any (by decide +kernel) (pa_cons (pe_lc (own := [("_law_number", 6), ("_law_why", 7)]) (g := (gTup _ 2 (gCons (gName 6) (gCons (gName 7) gNil)))) (tt := tYes) rfl sc_law_void_holds.nd (pi_list (pv 3)) (blkOk_by (N := N_law_void_holds) (sc := defScope s_law_void_holds) (by decide +kernel)) (fun _ _ _ _ _ => (pg_tup rfl (pgs_cons (pg_name (i := 6) sc_law_void_holds.nd rfl (Or.inl rfl)) (pgs_cons (pg_name (i := 7) sc_law_void_holds.nd rfl (Or.inl rfl)) pgs_nil)))) (fun _ _ _ _ _ => pts_nil) (fun _ _ _ _ _ => (pe_or (pe_cmpR (op_in_seqK K) (pv 6) (pv 2) (by rfl)) (pe_one (pe_cmpR (op_notIn_seqK K) (pv 7) (pe_tup (pa_cons pe_str (pa_cons pe_str (pa_cons pe_str (pa_cons pe_str pa_nil))))) (by rfl)))))) pa_nil))))))))), ?_⟩
    have hps := hR.plen
    have hlen := hP.len
    have hlr : (rws rr).length ≤ 60 := by rw [rws_len]; exact hlen
    obtain ⟨sub, vo⟩ := void_ok hP.bk es
    generalize hX : (replayP es rr 9999 0).2 = X at vo
    have hvol := vo.len
    have hsl : sub.length ≤ 60 := by
      have := nodup_le vo.nd (m := rr.map (·.1.n)) fun x hx => by
        obtain ⟨q, hq, rfl⟩ := List.mem_map.mp hx
        exact List.mem_map_of_mem (vo.mem q hq).1
      rw [List.length_map, List.length_map] at this
      omega
    -- _law_dead
    refine i_seq (i_asg ?_)
    refine lc_col (fun r : RowD => V.int r.right) rfl (Nat.le_of_ble_eq_true rfl) hL hlr (kk := 4) (fun r => rfl) fun D1 H1 hD1 e1 h1 => ?_
    have hR1 := hR.ext e1
    have hL1 := hL.ext e1
    -- _law_void
    refine ⟨_, rfl, c.ro, c.dx, _, rfl, hR1.x, rfl, c, A, g, es, ps, rr, rfl, hR1, hP, fun H2 vl vts en t2 hv hvr => ?_⟩
    rw [hX] at hvr
    have hL2 : RowsL K H2 l tR (rws rr) := hL1.tm (ExtN.tm en) (en _ _ hL1.l fun _ z => by cases z)
    have h12 : H2 D1 = some (.lst ((rws rr).map fun r => V.int r.right)) := en _ _ h1 fun _ z => by cases z
    have E02 : ExtN H H2 := (extN_of e1).trans en
    -- _law_order
    have hvl : vts.length = X.length := by have := hvr.length; rwa [List.length_map] at this
    refine ⟨_, rfl, vl, rfl, ⟨_, SqL.of hv⟩, fun D3 hD3 => ?_⟩
    refine lc_list (xs := vts.map V.ref) (fun i H' => ∃ os : List Addr, Ext H2 H' ∧ Rows K H' os ((sub.take i).map ordRow) ∧ H' D3 = some (.lst (os.map V.ref))) ⟨[], Ext.upd hD3, .nil, upd_same⟩ (fun i H' _ ⟨_, e, _⟩ => SqL.of (e _ _ hv)) ?_ ?_
    · rintro i y H3 hy ⟨os, e, hos, hDD⟩
      obtain ⟨t, ht, rfl⟩ := map_at hy
      obtain ⟨row, hrow, hT⟩ := Paired.at' hvr ht
      obtain ⟨v, hvi, rfl⟩ := map_some hrow
      obtain ⟨q, hq, hqn⟩ := vo.at hvi
      have hi' := (List.getElem?_eq_some_iff.mp hq).1
      obtain ⟨hqr, hqd⟩ := vo.mem q (List.mem_of_getElem? hq)
      obtain ⟨j, hj⟩ := List.mem_iff_getElem?.mp hqr
      have hjr : (rws rr)[j]? = some q.1 := by unfold rws; rw [List.getElem?_map, hj]; rfl
      have hnum := hP.bk.num hjr
      obtain ⟨tr, htr, hTr⟩ := hL2.at1 hjr
      have hix : atI (tR.map V.ref) (v.1 - 1) = some (.ref tr) := by rw [← hqn, hnum, show (j : Int) + 1 - 1 = (j : Nat) by omega]; exact atI_nat (by rw [List.getElem?_map, htr]; rfl)
      refine ⟨t, _, rfl, SqT.ext hT e, rfl, _, _, rfl, _, _, rfl, rfl, rfl, ?_⟩
      refine ⟨_, rfl, _, rfl, _, _, rfl, rfl, l, _, _, _, rfl, rfl, SqL.of (e _ _ hL2.l), hix, tr, _, _, _, rfl, rfl, SqT.ext hTr e, rfl, _, rfl, sz rfl, fun p hp => ?_⟩
      generalize hg4 : upd H3 p _ = H4
      obtain ⟨e4, h4, _⟩ := newF hp hg4
      have los : os.length = i := by have := hos.length; rw [List.length_map, List.length_take] at this; omega
      refine ⟨_, e4 _ _ hDD, szl (by rw [List.length_map]; omega), os ++ [p], updE (e.trans e4) hD3, ?_, ?_⟩
      · rw [take_map_snoc hq]
        have tm : TM K H3 (upd H4 D3 (.lst (os.map V.ref ++ [V.ref p]))) := (tmE e4).trans (tm_updL (e4 _ _ hDD))
        rw [← hqn] at h4
        exact Paired.snoc (hos.tm tm) (tm_updL (e4 _ _ hDD) _ _ (SqT.of h4))
      · rw [upd_same, List.map_append]; rfl
    · rintro H3 ⟨os, e3, hos, hD3'⟩
      rw [List.length_map, hvl, hvol, List.take_length] at hos
      have hol : os.length = sub.length := by have := hos.length; rwa [List.length_map] at this
      have hal : ∀ r ∈ sub.map ordRow, ∀ r' ∈ sub.map ordRow, W.alike (dR r) (dR r') = true := fun r hr r' hr' => by
        obtain ⟨q, _, rfl⟩ := List.mem_map.mp hr
        obtain ⟨q', _, rfl⟩ := List.mem_map.mp hr'
        rfl
      have hne : ∀ r ∈ sub.map ordRow, r ≠ [] := fun r hr z => by
        obtain ⟨q, _, rfl⟩ := List.mem_map.mp hr
        cases z
      -- sorted
      refine ⟨_, rfl, ?_⟩
      show rSortD K [V.ref D3] H3 _
      refine r_sortR os _ (.inl (SqL.of hD3')) hos (ord_isV sub) hal hne (by rw [List.length_map]; omega) fun p5 ls' hp5 hls => ?_
      generalize hg5 : upd H3 p5 _ = H5
      obtain ⟨e5, h5, _⟩ := newF hp5 hg5
      rw [ord_sorted vo] at hls
      refine ⟨_, rfl, .list ((sub.map ordRow).map dR), .list ((sub.map ordRow).map dR), .lst (SqL.of h5) (dp_rows (hls.tm (tmE e5)) (ord_isV sub)), .lst (SqL.of (e5 _ _ hD3')) (dp_rows (hos.tm (tmE e5)) (ord_isV sub)), shaped_rs (ord_isV sub), shaped_rs (ord_isV sub), false, ?_, iteF ?_⟩
      · rw [SeqAt.eqv_refl _ (show PyData.canLay0 (.list ((sub.map ordRow).map dR)) = true from lay_rs (ord_isV sub))]; rfl
      -- the set
      have hz1 : (os.zip (sub.map fun q => [q.1.at_, q.1.n])).map (fun p => V.ref p.1) = os.map V.ref := by
        rw [show (fun p : Addr × List Int => V.ref p.1) = V.ref ∘ (·.1) from rfl, ← List.map_map, zip_fst (by rw [List.length_map]; exact hol)]
      have hz2 : (os.zip (sub.map fun q => [q.1.at_, q.1.n])).map (·.2) = sub.map fun q => [q.1.at_, q.1.n] := zip_snd (by rw [List.length_map]; exact hol)
      have hpr : Paired (fun (t : Addr) (r : List Int) => SqT K H5 t (r.map V.int)) os (sub.map fun q => [q.1.at_, q.1.n]) := paired_map (f := ordRow) (g := fun q : RR => [q.1.at_, q.1.n]) (fun a d z => z) (hos.tm (tmE e5))
      refine ⟨_, rfl, D3, os.zip (sub.map fun q => [q.1.at_, q.1.n]), rfl, by rw [hz1]; exact SqL.of (e5 _ _ hD3'), zip_paired hpr, by rw [List.length_zip]; omega, fun a L ha hLk hkL => ?_⟩
      generalize hg6 : upd H5 a _ = H6
      obtain ⟨e6, h6, _⟩ := newF ha hg6
      refine ⟨a, L, rfl, h6, fun p hp => SqT.ext (zip_paired hpr p (hLk p hp)) e6, fun nd => ?_⟩
      have hLl : L.length = sub.length := by
        have n1 := nodup_le nd (m := sub.map fun q => [q.1.at_, q.1.n]) fun x hx => by
          obtain ⟨p, hp, rfl⟩ := List.mem_map.mp hx
          rw [← hz2]; exact List.mem_map_of_mem (hLk p hp)
        have n2 := nodup_le (ord_nd vo) (m := L.map (·.2)) fun x hx => by
          rw [← hz2] at hx
          obtain ⟨p, hp, rfl⟩ := List.mem_map.mp hx
          exact hkL p hp
        rw [List.length_map, List.length_map] at n1 n2
        omega
      refine ⟨_, rfl, D3, _, rfl, .inl (SqL.of (e6 _ _ (e5 _ _ hD3'))), rfl, false, ?_, iteF ?_⟩
      · rw [hLl, List.length_map, hol]; exact congrArg V.bl (by rw [decide_eq_true rfl]; rfl)
      -- any
      have E26 : Ext H2 H6 := (e3.trans e5).trans e6
      refine ⟨_, rfl, vl, rfl, ⟨_, SqL.of (E26 _ _ hv)⟩, fun D7 hD7 => ?_⟩
      refine lc_list (xs := vts.map V.ref) (fun i H' => Ext H6 H' ∧ H' D7 = some (.lst ((List.replicate i false).map V.bl))) ⟨Ext.upd hD7, upd_same⟩ (fun i H' _ ⟨e, _⟩ => SqL.of (e _ _ (E26 _ _ hv))) ?_ ?_
      · rintro i y H7 hy ⟨e, hDD⟩
        obtain ⟨t, ht, rfl⟩ := map_at hy
        obtain ⟨row, hrow, hT⟩ := Paired.at' hvr ht
        obtain ⟨v, hvi, rfl⟩ := map_some hrow
        obtain ⟨q, hq, hqn⟩ := vo.at hvi
        have hi' := (List.getElem?_eq_some_iff.mp hq).1
        obtain ⟨hqr, hqd⟩ := vo.mem q (List.mem_of_getElem? hq)
        obtain ⟨j, hj⟩ := List.mem_iff_getElem?.mp hqr
        have hjr : (rws rr)[j]? = some q.1 := by unfold rws; rw [List.getElem?_map, hj]; rfl
        have hnum := hP.bk.num hjr
        have E27 := E26.trans e
        have nd1 : v.1 ∉ (rws rr).map RowD.right := fun z => hqd (by
          rw [hqn]
          obtain ⟨r, hr, er⟩ := List.mem_map.mp z
          exact mem_dead.mpr ⟨by omega, r, hr, er⟩)
        have ee : ((rws rr).map fun r : RowD => V.int r.right) = ((rws rr).map RowD.right).map V.int := by rw [List.map_map]; rfl
        refine ⟨t, _, rfl, SqT.ext hT E27, rfl, _, _, rfl, _, _, rfl, rfl, rfl, ?_⟩
        refine ⟨_, rfl, _, rfl, D1, _, rfl, .inl (SqL.of (E27 _ _ h12)), rfl, by rw [ee]; exact flat_ints _, false, ?_, iteF ?_⟩
        · rw [ee, inV_int, decide_eq_false nd1]; rfl
        refine ⟨_, rfl, sz rfl, fun p hp => ?_⟩
        generalize hg8 : upd H7 p _ = H8
        obtain ⟨e8, h8, _⟩ := newF hp hg8
        refine ⟨p, _, rfl, .inr (SqT.of h8), rfl, rfl, _, e8 _ _ hDD, szl (by rw [List.length_map, List.length_replicate]; omega), updE (e.trans e8) hD7, ?_⟩
        have hw := vo.why v (List.mem_of_getElem? hvi)
        rw [upd_same, List.replicate_succ', List.map_append]
        have hin : inV (V.str v.2) [V.str "call", .str "engine", .str "station", .str "road"] = true := by
          have := inV_str (x := v.2) (xs := whys)
          rw [decide_eq_true hw] at this
          exact this
        rw [hin]; rfl
      · rintro H7 ⟨e7, hD7'⟩
        refine ⟨D7, _, rfl, SqL.of hD7', _, rfl, ?_⟩
        have hany : ∀ n, (List.replicate n false).any id = false := fun n => by
          rw [List.any_eq_false]
          intro b hb
          rw [(List.mem_replicate.mp hb).2]; decide
        rw [hany]
        exact k _ (E02.trans (extN_of (E26.trans e7))) (t2.ext (E26.trans e7))
end
end K36
/-! text KTry -/
/-! try with several clauses 'except x as n' of one name n -/
namespace K36
open PySem PySem.Spec PyProof.Rows L2
/-- what a clause's suite is followed by: the name is gone -/
def gone (i : Nat) (D : Ends) : Ends := { nx := fun σ H => D.nx (σ.set i none) H, rt := D.rt, bk := fun σ H => D.bk (σ.set i none) H, ct := fun σ H => D.ct (σ.set i none) H }
abbrev Cls1 := Value × (Addr → Value → Option Addr → TS)
def wAsM (K : PySem.W.Frag) (m i : Nat) (Wout : WX) (D : Ends) : List Cls1 → WX
  | [] => Wout
  | q :: r => fun cls d σ H => ∃ b, PySem.W.exmOne K cls q.1 = some b ∧ (b = true → ∀ a, H a = none → σ.length = m → q.2 a cls d (gone i D) (σ.set i (some (.ref a))) H) ∧ (b = false → wAsM K m i Wout D r cls d σ H)
inductive HdsAs (X : Cx) (n : Str) : List ExceptHandler → List Cls1 → Prop
  | nil : HdsAs X n [] []
  | cons {x : Str} {q : Cls1} {st : Stmt} {suite : List Stmt} {np pp : Pos} {hds : List ExceptHandler} {l : List Cls1} (hc : Names X x q.1)
      (hsu : ∀ (a : Addr) (oe : Obj) (cls : Value) (d : Option Addr) (pn : List (Addr × Obj)), Zc cls d oe → (∃ vs, oe.data = .fields vs) → PSs (X.suite a ((a, oe) :: pn)) (st :: suite) (q.2 a cls d)) (r : HdsAs X n hds l) :
      HdsAs X n (.ExceptHandler (some (.Name x np)) (some n) (st :: suite) pp :: hds) (q :: l)
section
variable {X : Cx} {body : List Stmt} {h0 : ExceptHandler} {hds : List ExceptHandler} {l : List Cls1} {pos : Pos} {tb : WX → TS} {Wout : WX} {i : Nat} {n : Str}
theorem ps_try_asM (hs : X.stack = X.env :: X.outer) (hf : X.env.frame = some X.env.locals) (hN : X.N.Nodup) (hi : X.N[i]? = some n) (hln : X.env.kindOf n = some .local) (tk : Takes X Wout)
    (hb : ∀ (W : WX) (pn : List (Addr × Obj)) (xe : Value → Shared → Prop), Takes (X.tr pn xe) W → PassesOwn (model X.prog X.w) X.A X.env xe → PSs (X.tr pn xe) body (tb W)) (hh : HdsAs X n (h0 :: hds) l) :
    PS X (.Try body (h0 :: hds) [] [] pos) (fun D σ H => tb (wAsM X.K X.N.length i Wout D l) D σ H) := by
  refine ⟨fun pins s σ H D I h => ?_⟩
  have ok := I.ok
  have hfr : X.A.frames = some (X.env :: X.outer) := by rw [ok.frames, hs]
  have hloc : Loc X.env.scope n := .inl hln
  refine wpAny_Try_except ?_
  refine wpAny_mono ((hb (wAsM X.K X.N.length i Wout D l) (X.pn ++ pins) (fun e s1 => wpAny (model X.prog X.w) X.A (noteFrame e X.env) (fun _ s2 => wpAny (model X.prog X.w) X.A (setFlight e none) (fun _ s3 => wpAny (model X.prog X.w) X.A (handleBy e X.env (h0 :: hds)) (SP X pins D) X.xe s3) X.xe s2) X.xe s1)
    (fun u s' xx => ?_) PassesOwn.looking).run [] s σ H D (I.toTry _) h) (fun f s1 hsp => ?_) (fun e s1 he => he)
  · obtain ⟨a, B, sI, pins', σ', H', cls, d, rfl, J', nb, up, sky, na, os, ag, w⟩ := xx
    have J : Inv X pins σ' H' sI := J'.ofTry ok
    have sky' : Sky B (X.env :: X.outer) a (Zc cls d) X.env.locals s'.heap := by rw [← hs]; exact sky
    show wpAny (model X.prog X.w) X.A (noteFrame (.ref a) X.env) _ _ _
    refine Sky.land Zc.steady hfr hf sky' fun h3 fl3 up3 => ?_
    have J3 : Inv X pins σ' H' { s' with heap := h3 } := J.landed nb fl3.1 (up.trans up3) os ag
    obtain ⟨oe3, vs3, he3, hz3, hd3⟩ := fl3.there
    have notFr : ∀ {h : Heap} {o : Obj} {vs : Array Value}, h.FunFrames B (X.env :: X.outer) → h.get? a = some o → o.data = .fields vs → a ∉ frs (X.env :: X.outer) := fun {h o vs} ff e dd hm => by
      obtain ⟨_, o', e', hnf⟩ := ff.mem hm
      rw [e] at e'; cases e'
      exact hnf _ dd
    have nfr := notFr fl3.2.2.1 he3 hd3
    have nL : a ≠ X.env.locals := fun z => nfr (List.mem_filterMap.mpr ⟨X.env, List.mem_cons_self, by rw [hf, z]⟩)
    have nF : a ∉ X.fs := fun hm => by
      obtain ⟨e, he, q⟩ := List.mem_filterMap.mp hm
      exact nfr (List.mem_filterMap.mpr ⟨e, List.mem_cons_of_mem _ he, q⟩)
    have S3 := J3.suite he3 hd3 na nL nF
    have go : ∀ {hds' : List ExceptHandler} {l' : List Cls1}, HdsAs X n hds' l' → wAsM X.K X.N.length i Wout D l' cls d σ' H' → wpAny (model X.prog X.w) X.A (handleBy (.ref a) X.env hds') (SP X pins D) X.xe { s' with heap := h3 } := by
      intro hds' l' hk
      induction hk with
      | nil =>
        intro w
        refine wpAny_handleBy_nil ?_
        obtain ⟨k1, k2, k3, oe, vs, T, oT, ts', he, hz, hd, h1, hr⟩ := id fl3
        unfold PySem.passOn
        refine wpAny_bind (wpAny_field he hd h1 ?_)
        rw [if_neg (show ¬ ((Value.ref T == Value.none) = true) from by simp)]
        have fin : wpAny (model X.prog X.w) X.A (setFlight (.ref a) X.env.frame) (fun _ s4 => wpAny (model X.prog X.w) X.A (throw (.ref a) : Sem Flow) (SP X pins D) X.xe s4) X.xe { s' with heap := h3 } := by
          rw [hf]
          refine HandSPX.setFlight_upZ fl3 fun h4 hh4 up4 => wpAny_throw (tk _ _ ?_)
          exact ⟨a, B, sI, pins, σ', H', cls, d, rfl, J, nb, (up.trans up3).trans up4, .inr (.inr (by rw [hs]; exact hh4)), na, os, ag, w⟩
        first
          | exact wpAny_bind (wpAny_pure (wpAny_bind fin))
          | exact wpAny_bind fin
      | @cons x q st suite np pp hds2 l2 hc hsu r ih =>
        intro w
        obtain ⟨b, hb1, hyes, hno⟩ := w
        refine wpAny_handleBy_cons (codeAny_handlers_test ?_) (by intro q; cases q)
        have LT : PySem.W.Looks (model X.prog X.w) h3 (typeOf (.ref a)) cls := fun A Q E s k q => wpAny_typeOf_ref (k _ _ he3) (by rw [hz3.1]; exact q)
        have LM := PySem.W.exm_one (M := model X.prog X.w) (J3.kIn) LT hb1
        have test : ∀ {Q : Value → Shared → Prop} {E : Value → Shared → Prop}, Q q.1 { s' with heap := h3 } → wpAny (model X.prog X.w) (X.A.mark (some (.ref a))) (eval (.Name x np) X.env) Q E { s' with heap := h3 } := fun {Q E} z => by
          obtain ⟨hg, hdbg, hm | ⟨hm, hv, hnn⟩⟩ := hc
          · exact ld_glob (X := X.suite a ((a, oe3) :: (X.pn ++ pins))) S3 hg hm z hdbg
          · exact ld_blt (X := X.suite a ((a, oe3) :: (X.pn ++ pins))) S3 hg hm hv z hnn hdbg
        refine test (LM.here ?_)
        cases b with
        | true =>
          refine codeAny_handlers_suite_as ?_
          refine HandSPX.lands_againZ fl3 fun h4 fl4 up4 => ?_
          have J4 : Inv X pins σ' H' { s' with heap := h4 } := J.landed nb fl4.1 ((up.trans up3).trans up4) os ag
          obtain ⟨oe4, vs4, he4, hz4, hd4⟩ := fl4.there
          have S4 := J4.suite he4 hd4 na nL nF
          refine store_ok (X := X.suite a ((a, oe4) :: (X.pn ++ pins))) (v := .ref a) S4 hN hi hloc rfl (fun s5 S5 => ?_) (.inr hln)
          refine wpAny_mono ((hsu a oe4 cls d (X.pn ++ pins) hz4 ⟨_, hd4⟩).run [] s5 _ H' _ S5 (hyes rfl a na J3.len)) (fun f s6 hsp => ?_) (fun _ _ z => False.elim z)
          have end_ : ∀ {σ6 : L2.St} {H6 : Hp} {Q : Shared → Prop}, Inv (X.suite a ((a, oe4) :: (X.pn ++ pins))) [] σ6 H6 s6 → (∀ s7, Inv X pins (σ6.set i none) H6 s7 → Q s7) →
              wpAny (model X.prog X.w) X.A (do bindName X.env n .none; unbindBehindTheSuite X.env n pp) (fun _ s7 => Q s7) X.xe s6 := fun {σ6 H6 Q} S6 hq => gone_ok (S6.unsuite ok) hN hi hln hq
          cases f with
          | next =>
            obtain ⟨σ6, H6, S6, q6⟩ := hsp
            exact end_ S6 fun s7 J7 => ⟨_, _, J7, q6⟩
          | brk =>
            obtain ⟨σ6, H6, S6, q6⟩ := hsp
            exact end_ S6 fun s7 J7 => ⟨_, _, J7, q6⟩
          | cont =>
            obtain ⟨σ6, H6, S6, q6⟩ := hsp
            exact end_ S6 fun s7 J7 => ⟨_, _, J7, q6⟩
          | ret u =>
            obtain ⟨v6, σ6, H6, S6, r6, q6⟩ := hsp
            exact end_ S6 fun s7 J7 => ⟨_, _, _, J7, r6, q6⟩
        | false =>
          show wpAny _ X.A (handleBy (.ref a) X.env hds2) _ _ _
          exact ih (hno rfl)
    exact go hh w
  · cases f with
    | next =>
      obtain ⟨σ', H', J', q⟩ := hsp
      exact wpAny_execs_nil ⟨σ', H', J'.ofTry ok, q⟩
    | brk =>
      obtain ⟨σ', H', J', q⟩ := hsp
      exact ⟨σ', H', J'.ofTry ok, q⟩
    | cont =>
      obtain ⟨σ', H', J', q⟩ := hsp
      exact ⟨σ', H', J'.ofTry ok, q⟩
    | ret u =>
      obtain ⟨v, σ', H', J', r, q⟩ := hsp
      exact ⟨v, σ', H', J'.ofTry ok, r, q⟩
end
end K36
/-! text KIsE -/
/-! isinstance(e, c) of a caught error of an own class that has a dict of its own -/
namespace PySem.W
open PySem PySem.Spec PySem.Calls PyProof.Rows
section
variable {prog : Program} {w : World} {A : Around} {E : Value → Shared → Prop} {s : Shared} {K : Frag} {x D : Addr} {ox : Obj} {od : Option Obj}
theorem k36_found {C : Addr} {name : Str} {a g : Value} (hc : (clsIn K C).isSome = true) (ha : findIn K (.ref C) name = some (some a)) (hg : specialIn K a "__get__" = some (some g)) (ht : takesIn K a = some true) : findObj K C od name = some (.bind g a) := by
  obtain ⟨cd, hc⟩ := Option.isSome_iff_exists.mp hc
  unfold findObj
  rw [hc, Option.bind_some, ha, Option.bind_some]
  simp [hg, ht]
theorem k36_class {Q : Option Value → Shared → Prop} (T : L2.ExcC K D) (X : K.In s.heap) (I : InstAt s.heap x ox D od) (h : Q (some (.ref D)) { s with toks := s.toks + 1 }) : wpAny (model prog w) A (getAttr? (.ref x) "__class__") Q E s := by
  have hf : findObj K D od "__class__" = some (.bind (.builtin "getset_descriptor.__get__") (.builtin "object.__class__")) := k36_found (by obtain ⟨cd, hc, _⟩ := any_some T.hd; rw [hc]; rfl) T.ha T.hn T.ht
  obtain ⟨hp, g, d, t, os⟩ := s
  have L0 := I.type (M := model prog w)
  have L1 := looks_findIn (M := model prog w) X T.hg
  have L2 := looks_findIn (M := model prog w) X T.hk
  have L3 := looks_find (M := model prog w) X I hf
  have sub : Looks (model prog w) hp (isInstance (.ref x) (.type "BaseException")) true := L0.andThen (looks_subIn X T.hs)
  have hx0 : (false && onTheHeap (Value.builtin "BaseException.__getattribute__")) = false := rfl
  have hx2 : (Value.builtin "BaseException.__getattribute__" == Value.builtin "object.__getattribute__") = false := by decide +kernel
  have hx1 : (onTheHeap (Value.ref D) && Value.builtin "BaseException.__getattribute__" == Value.builtin "object.__getattribute__") = false := by rw [hx2]; rfl
  unfold getAttr? getAttrBy? getAttrBy
  refine wpAny_bind (wpAny_mkText (wpAny_bind (wpAny_attempt (wpAny_holding (wpAny_bind (L0.at (wpAny_bind (L1.at ?_))))))))
  show wpAny _ _ (if (onTheHeap (Value.ref D) && Value.builtin "BaseException.__getattribute__" == Value.builtin "object.__getattribute__") = true then _ else _) _ _ _
  rw [hx1, if_neg Bool.false_ne_true]
  unfold getAttrByItsOwn hookBefore
  refine wpAny_bind ?_
  rw [if_pos (show onTheHeap (Value.ref D) = true from rfl)]
  refine L2.at ?_
  refine wpAny_bind (wpAny_attempt (wpAny_holding ?_))
  unfold callGetattribute
  rw [hx0, if_neg Bool.false_ne_true]
  unfold boundAndCalled
  rw [PySem.F.excAttr_ValueError.ga.bind (.ref x)]
  refine wpAny_bind (wpAny_pure ?_)
  show wpAny _ _ (call (.builtin "BaseException.__getattribute__") [.ref x, .str "__class__" t]) _ _ _
  refine wpAny_call (codeAny_call_builtin PySem.F.excAttr_ValueError.ga.plain PySem.F.entry_bexc_ga ?_)
  refine @check_slot (model prog w) _ _ ⟨hp, g, d, t + 1, os⟩ "BaseException.__getattribute__" "BaseException" "__getattribute__" (.ref x) [.str "__class__" t] [] _ (by decide +kernel) (by decide +kernel) sub (PySem.F.args_bexc_ga (.ref x) (.str "__class__" t)) ?_
  unfold Builtin.«object.__getattribute__»
  refine wpAny_bind (wpAny_of_eq (a := ((Value.ref x : Value), [Value.str "__class__" t])) (by first | rfl | (simp only [slotArgs]; rfl)) ?_)
  refine wpAny_bind (wpAny_pure (wpAny_bind (L0.at (wpAny_bind (L3.at ?_)))))
  show wpAny _ _ (holding [Value.builtin "object.__class__"] (call (.builtin "getset_descriptor.__get__") [.builtin "object.__class__", .ref x, .ref D]) >>= ret) _ _ _
  refine wpAny_bind (wpAny_holding (wpAny_call (class_get (s := ⟨hp, g, d, t + 1, os⟩) (ox := ox) (od := od) X I T.hm ?_)))
  refine wpAny_pure ?_
  show wpAny _ _ (handedOut (.ref D)) _ _ _
  rw [handedOut_of (v := .ref D) rfl]
  first
    | exact wpAny_pure (wpAny_pure h)
    | exact wpAny_pure h
    | exact wpAny_pure (wpAny_bind (wpAny_pure (wpAny_pure h)))
theorem k36_kit (T : L2.ExcC K D) : KitX K (.ref x) (.ref D) (fun h => InstAt h x ox D od) where
  ty := fun _ _ _ I => I.type
  it := fun _ _ X _ => by
    obtain ⟨cdD, hcD, _⟩ := any_some T.hd
    unfold clsIn at hcD
    split at hcD
    · rename_i c' d' cd' sl' ho
      intro A' Q' E' s' k q
      unfold isType loadHead
      exact wpAny_bind (wpAny_loadPart (k _ _ (X _ _ ho)) (wpAny_pure q))
    · cases hcD
  ne := fun h tp dd its n sl X htp => by
    obtain ⟨cdD, hcD, _⟩ := any_some T.hd
    refine Bool.eq_false_iff.mpr fun q => ?_
    have e : D = tp := Value.ref.inj (beq_iff_eq.mp q)
    subst e
    unfold clsIn at hcD
    split at hcD
    · rename_i c' d' cd' sl' ho
      have z := (X _ _ ho).symm.trans htp
      cases z
    · cases hcD
  ca := fun X I k => k36_class T X I k
end
end PySem.W
namespace K36
open PySem PySem.Spec PyProof.Rows L2
/-- isinstance(e, c), e the exception that the suite holds, its dict at dd -/
def rIsD (K : PySem.W.Frag) (D a : Addr) (cls : Value) (d : Option Addr) : List V → Hp → VK → Prop := fun xs H Q => ∃ (c : V) (cv : Value) (b : Bool) (dd : Addr) (fs : List (Str × V)), xs = [.ref a, c] ∧ (∀ u, RelV c u → u = cv) ∧ cls = .ref D ∧ d = some dd ∧ H dd = some (.xd fs) ∧ PySem.W.kitOne K (.ref D) cv = some b ∧ Q (.bl b) H
theorem call_isD {X : Cx} {a D : Addr} {oe : Obj} {cls : Value} {d : Option Addr} {pn : List (Addr × Obj)} (C : ExcC X.K D) (hz : Zc cls d oe) (hf : ∃ vs, oe.data = .fields vs) : CallR (X.suite a ((a, oe) :: pn)) (.builtin "isinstance") (rIsD X.K D a cls d) := by
  intro pins s σ H xs us Q I r h
  obtain ⟨c, cv, b, dd, fs, rfl, hcv, rfl, rfl, hdd, e, q⟩ := h
  cases r with
  | cons rx rr =>
    cases rr with
    | cons rt rr =>
      cases rr
      cases rx
      have ec := hcv _ rt
      subst ec
      obtain ⟨hget, _⟩ := I.pin (a, oe) (List.mem_append.mpr (.inl List.mem_cons_self))
      obtain ⟨vs, hv⟩ := hf
      have hx : ObjOk X.prog X.w H s.heap dd (.xd fs) := I.hok dd _ hdd
      obtain ⟨mA, hns, hr⟩ := hx
      obtain ⟨od, ho, hl⟩ := lookIn_ns hns
      have J : PySem.W.InstAt s.heap a oe D (some od) := ⟨hget, hz.1, by unfold PySem.W.notCls; rw [hv] <;> rfl, by rw [hz.2]; exact ho⟩
      exact PySem.W.kia_one (PySem.W.k36_kit C) I.kIn J e (fun z => nomatch z) fun tk => ⟨.bl b, H, I.kept (t' := tk) fun _ _ z => z, rfl, q⟩
end K36
/-! text KW3 -/
/-! _law_try: what a call tells, or its refusal -/
namespace K36
open PySem PySem.Spec PyProof.Rows L2
open LamX (Tabs TabS TabB ExtN CodeO GivesTo)
abbrev N_law_try : List Str := ["_law_deed_here", "e"]
theorem sc_law_try : FnScope N_law_try ["_law_deed_here"] (defScope s_law_try) := ⟨rfl, rfl, rfl, by decide +kernel, rfl, by decide +kernel, by decide +kernel⟩
/-- what the written part says of NotDone's instances when they are caught -/
structure NdX (K : PySem.W.Frag) : Prop where
  xf : XfC K (He.ga K "NotDone")
  ec : ExcC K (He.ga K "NotDone")
  re : PySem.W.kitOne K (.ref (He.ga K "NotDone")) (.type "RuntimeError") = some true
/-- what the lambda's reading is asked: NotDone is told with its text -/
def TTry (K : PySem.W.Frag) : (XK → Hp → VK → Prop) → Hp → VK → Prop := fun tl H Q => tl (fun cls d H' => cls = .ref (He.ga K "NotDone") ∧ ∃ dx why, d = some dx ∧ H' dx = some (.xd [("why", .str why)]) ∧ ∀ t H'', Ext H' H'' → SqT K H'' t [.str "refused", .str "NotDone", .str why, .bl true] → Q (.ref t) H'') H Q
theorem try_gives {X : Cx} (T : Tx X.w X.K X.mg) (N : Nd X.K X.mg) (NX : NdX X.K) {g : Addr} {cdg : Value} {q : Str} : GivesTo X N_law_try "_law_try" (defScope s_law_try) g cdg (defBody s_law_try) "_law_deed_here" q (TTry X.K) := by
  intro f c' s H Q tl act hc h
  refine ⟨_, pss_one (ps_try_asM (X := (cxOf C8.CX0 X.prog X.w X.K X.mg X.base N_law_try "_law_try" (defScope s_law_try) g cdg X.A X.stack s H C8.E0).nox) (i := 1) (n := "e")
      (tb := fun W D σ H => ∃ Ech : XK, (∀ cls d σ' H', Ech cls d H' → W cls d σ' H') ∧ σ[0]? = some (some (.ref f)) ∧ H c' = some (CodeO c' q) ∧ tl Ech H D.rt)
      rfl rfl sc_law_try.nd rfl rfl LamX.takes0 (fun W pn xe tk _ => ?_)
      (HdsAs.cons (q := (.ref (He.ga X.K "NoDeed"), fun _ _ _ _ _ _ => False)) ⟨rfl, by decide, .inl T.g_NoDeed⟩ (fun a oe cls d pn _ _ => pss_one ps_never)
      (HdsAs.cons (q := (.ref (He.ga X.K "BadTime"), fun _ _ _ _ _ _ => False)) ⟨rfl, by decide, .inl T.g_BadTime⟩ (fun a oe cls d pn _ _ => pss_one ps_never)
      (HdsAs.cons (q := (.ref (He.ga X.K "NoRow"), fun _ _ _ _ _ _ => False)) ⟨rfl, by decide, .inl T.g_NoRow⟩ (fun a oe cls d pn _ _ => pss_one ps_never)
      (HdsAs.cons (q := (.ref (He.ga X.K "TooMany"), fun _ _ _ _ _ _ => False)) ⟨rfl, by decide, .inl T.g_TooMany⟩ (fun a oe cls d pn _ _ => pss_one ps_never)
      (HdsAs.cons (q := (.ref (He.ga X.K "NotDone"), fun a cls d => tRet (tTup (tCons (tC (.str "refused")) (tCons (tC (.str "NotDone")) (tCons (tXf a cls d (He.ga X.K "NotDone") "why" (tVar 1)) (tCons (tCB (rIsD X.K (He.ga X.K "NotDone") a cls d) (tCons (tVar 1) (tCons (tC (.ty "RuntimeError")) tNil))) tNil))))))) ⟨rfl, by decide, .inl T.g_NotDone⟩ (fun a oe cls d pn hz hf => pss_one (ps_ret (pe_tup (pa_cons pe_str (pa_cons pe_str (pa_cons (pe_xf (X := (cxOf C8.CX0 X.prog X.w X.K X.mg X.base N_law_try "_law_try" (defScope s_law_try) g cdg X.A X.stack s H C8.E0).nox) NX.xf N.why hz hf (pv 1))
        (pa_cons (pe_callB (call_isD (X := (cxOf C8.CX0 X.prog X.w X.K X.mg X.base N_law_try "_law_try" (defScope s_law_try) g cdg X.A X.stack s H C8.E0).nox) NX.ec hz hf) (by rfl) T.b_isinstance (by decide +kernel) (pa_cons (pv 1) (pa_cons (pe_bltn (v := .ty "RuntimeError") (by rfl) T.b_RuntimeError (by decide +kernel) rfl) pa_nil))) pa_nil)))))))
      (HdsAs.cons (q := (.ref (He.ga X.K "NoEngine"), fun _ _ _ _ _ _ => False)) ⟨rfl, by decide, .inl T.g_NoEngine⟩ (fun a oe cls d pn _ _ => pss_one ps_never)
      (HdsAs.cons (q := (.ref (He.ga X.K "NoCall"), fun _ _ _ _ _ _ => False)) ⟨rfl, by decide, .inl T.g_NoCall⟩ (fun a oe cls d pn _ _ => pss_one ps_never)
      (HdsAs.cons (q := (.ref (He.ga X.K "NoBook"), fun _ _ _ _ _ _ => False)) ⟨rfl, by decide, .inl T.g_NoBook⟩ (fun a oe cls d pn _ _ => pss_one ps_never)
      HdsAs.nil))))))))), ?_⟩
  · refine ⟨fun pins s' σ H' D I h' => ?_⟩
    obtain ⟨Ech, hW, h1, h2, h3⟩ := h'
    exact (pss_one (ps_ret (act W pn xe Ech _ _ tk hW))).run pins s' σ H' D I ⟨h1, h2, h3⟩
  · refine ⟨_, ?_, rfl, hc, h⟩
    rintro cls d σ' H' ⟨rfl, dx, why, rfl, hx, k⟩
    refine ⟨false, T.x_NoDeed, fun z => Bool.noConfusion z, fun _ => ⟨false, T.x_BadTime, fun z => Bool.noConfusion z, fun _ => ⟨false, T.x_NoRow, fun z => Bool.noConfusion z, fun _ => ⟨false, T.x_TooMany, fun z => Bool.noConfusion z, fun _ => ⟨true, T.x_NotDone, fun _ a ha hl => ?_, fun z => Bool.noConfusion z⟩⟩⟩⟩⟩
    have h1 : (σ'.set 1 (some (V.ref a)))[1]? = some (some (.ref a)) := List.getElem?_set_self (by rw [hl]; exact (by decide : 1 < N_law_try.length))
    exact ⟨_, h1, rfl, rfl, dx, _, _, rfl, hx, rfl, _, h1, _, _, _, dx, _, rfl, fun u hu => hu, rfl, rfl, hx, NX.re, sz rfl, fun t ht => k t _ (Ext.upd ht) (SqT.of upd_same)⟩
end K36
/-! text KW4 -/
/-! two rooms side by side -/
namespace K36
open PySem PySem.Spec PyProof.Rows L2
open LamX (Tabs TabS TabB ExtN CodeO)
theorem op_or {X : Cx} {f : Value → Value → Sem Value} {r r' : R2} (h : OpR X f r) (h' : OpR X f r') : OpR X f (fun x y H Q => r x y H Q ∨ r' x y H Q) := fun pins s σ H x y v u Q I rx ry d =>
  d.elim (fun d => h pins s σ H x y v u Q I rx ry d) fun d => h' pins s σ H x y v u Q I rx ry d
theorem pi_listK {X : Cx} (K : PySem.W.Frag) {it tg : Expr} {ti : TE} (hl : PE X it ti) (h : X.K = K := by rfl) : PI X tg it (iList K ti) := by subst h; exact pi_list hl
/-- what follows a cut, three statements on, is shown once for all ways to it -/
theorem cut3 {a b c t u : TS} {D : Ends} {σ : L2.St} {H : Hp} (Mid : L2.St → Hp → Prop) (tail : ∀ σ' H', Mid σ' H' → u D σ' H') (main : (∀ σ' H', Mid σ' H' → u D σ' H') → tSeq a (tSeq b (tSeq c (C8.tCut t u))) D σ H) : tSeq a (tSeq b (tSeq c (C8.tCut t u))) D σ H := main tail
section
variable {K : PySem.W.Frag} {T : List (Addr × Str)} {H H' : Hp} {c c1 c2 : RoomC} {A : Adr} {g : Gd} {es : List Eng} {ps ps1 ps2 : List Addr} {rr rr1 : List RR} {b l : Addr}
theorem tabs_kept (t : Tabs T H) (k : ∀ a o, H a = some o → (∀ xs, o ≠ .lst xs) → H' a = some o) : Tabs T H' := fun q hq => by
  obtain ⟨tb, a1, a2, a3⟩ := t q hq
  refine ⟨tb, k _ _ a1 (fun _ z => by cases z), a2, fun p' cv hcv => ?_⟩
  obtain ⟨c0, e1, e2⟩ := a3 p' cv hcv
  exact ⟨c0, e1, k _ _ e2 (fun _ z => by unfold LamX.CodeO at z; cases z)⟩
theorem RoomAt.bag (h : RoomAt K T H c A g es ps rr) (x : BagEx b H H') (n : c.kA ≠ b) : RoomAt K T H' c A g es ps rr :=
  ⟨x.at h.x (fun _ z => (by cases z)), x.keep _ _ n h.kept, Paired.mapP h.rows fun _ _ ⟨⟨dx, q⟩, d⟩ => ⟨⟨dx, x.at q fun _ z => (by cases z)⟩, x.t d⟩, x.at h.first (fun _ z => (by cases z)), x.at h.dead (fun _ z => (by cases z)), h.ne, let ⟨dx, q⟩ := h.gobj; ⟨dx, x.at q fun _ z => (by cases z)⟩,
    h.ga.tm x.tm, h.ea.tm x.tm, tabs_kept h.tabs fun _ _ q n => x.at q n⟩
theorem Wr.keep (w : Wr c H H') (h : RoomAt K T H c A g es ps rr) {a : Addr} {o : HO} (ha : H a = some o) (n1 : ∀ xs, o ≠ .lst xs) (n2 : ∀ kv, o ≠ .dK kv) (n3 : ∀ tb, o ≠ .tbl tb) : H' a = some o :=
  w a o ha (fun z => by rw [z, h.kept] at ha; exact n1 _ (Option.some.inj ha).symm) (fun z => by rw [z, h.first] at ha; exact n2 _ (Option.some.inj ha).symm) (fun z => by rw [z, h.dead] at ha; exact n2 _ (Option.some.inj ha).symm) n3
theorem Wr.lst (w : Wr c H H') (h : RoomAt K T H c A g es ps rr) {a : Addr} {xs : List V} (ha : H a = some (.lst xs)) (n : a ≠ c.kA) : H' a = some (.lst xs) :=
  w a _ ha n (fun z => by rw [z, h.first] at ha; cases ha) (fun z => by rw [z, h.dead] at ha; cases ha) (fun _ z => by cases z)
theorem Wr.dK (w : Wr c H H') (h : RoomAt K T H c A g es ps rr) {a : Addr} {kv : List (Key × V)} (ha : H a = some (.dK kv)) (n1 : a ≠ c.fA) (n2 : a ≠ c.dA) : H' a = some (.dK kv) :=
  w a _ ha (fun z => by rw [z, h.kept] at ha; cases ha) n1 n2 (fun _ z => by cases z)
theorem Wr.tm (w : Wr c H H') (h : RoomAt K T H c A g es ps rr) : TM K H H' := fun a xs q => by
  rcases q with (q | ⟨o, q⟩) | q
  · exact .inl (.inl (w.keep h q (fun _ z => by cases z) (fun _ z => by cases z) (fun _ z => by cases z)))
  · exact .inl (.inr ⟨o, w.keep h q (fun _ z => by cases z) (fun _ z => by cases z) (fun _ z => by cases z)⟩)
  · exact .inr q
/-- the addresses that are written to lie apart -/
structure Apart (c1 c2 : RoomC) (l : Addr) : Prop where
  kk : c1.kA ≠ c2.kA
  k1 : c1.kA ≠ l
  k2 : c2.kA ≠ l
  ff : c1.fA ≠ c2.fA
  dd : c1.dA ≠ c2.dA
  fd : c1.fA ≠ c2.dA
  df : c1.dA ≠ c2.fA
theorem Apart.symm (h : Apart c1 c2 l) : Apart c2 c1 l := ⟨h.kk.symm, h.k2, h.k1, h.ff.symm, h.dd.symm, h.df.symm, h.fd.symm⟩
/-- the one room is written, the other one stays -/
theorem RoomAt.other (h2 : RoomAt K T H c2 A g es ps rr) (h1 : RoomAt K T H c1 A g es ps1 rr1) (w : Wr c1 H H') (t : Tabs T H') (ap : Apart c1 c2 l) : RoomAt K T H' c2 A g es ps rr :=
  have kp : ∀ {a C dx : Addr} {fs : List (Str × V)}, H a = some (.ins C dx fs) → H' a = some (.ins C dx fs) := fun q => w.keep h1 q (fun _ z => by cases z) (fun _ z => by cases z) (fun _ z => by cases z)
  ⟨kp h2.x, w.lst h1 h2.kept ap.kk.symm, Paired.mapP h2.rows fun _ _ ⟨⟨dx, q⟩, d⟩ => ⟨⟨dx, kp q⟩, w.tm h1 _ _ d⟩, w.dK h1 h2.first ap.ff.symm ap.df.symm, w.dK h1 h2.dead ap.fd.symm ap.dd.symm, h2.ne,
    let ⟨dx, q⟩ := h2.gobj; ⟨dx, kp q⟩, h2.ga.tm (w.tm h1), h2.ea.tm (w.tm h1), t⟩
/-- two rooms of one book, the rows told -/
structure LawI (K : PySem.W.Frag) (T : List (Addr × Str)) (H : Hp) (l : Addr) (A : Adr) (g : Gd) (es : List Eng) (c1 c2 : RoomC) (ps1 ps2 : List Addr) (rr : List RR) (tR : List Addr) : Prop where
  r1 : RoomAt K T H c1 A g es ps1 rr
  r2 : RoomAt K T H c2 A g es ps2 rr
  rows : RowsL K H l tR (rws rr)
  t3 : SqT K H A.T [.ref A.P, .ref A.R, .ref A.S]
variable {tR : List Addr}
theorem LawI.en (h : LawI K T H l A g es c1 c2 ps1 ps2 rr tR) (e : ExtN H H') (t : Tabs T H') : LawI K T H' l A g es c1 c2 ps1 ps2 rr tR :=
  ⟨h.r1.grow e t, h.r2.grow e t, h.rows.tm (ExtN.tm e) (e _ _ h.rows.l fun _ z => by cases z), ExtN.t e h.t3⟩
theorem LawI.ext (h : LawI K T H l A g es c1 c2 ps1 ps2 rr tR) (e : Ext H H') : LawI K T H' l A g es c1 c2 ps1 ps2 rr tR := h.en (extN_of e) (h.r1.tabs.ext e)
theorem LawI.bag (h : LawI K T H l A g es c1 c2 ps1 ps2 rr tR) (x : BagEx b H H') (n1 : c1.kA ≠ b) (n2 : c2.kA ≠ b) (n3 : l ≠ b) : LawI K T H' l A g es c1 c2 ps1 ps2 rr tR :=
  ⟨h.r1.bag x n1, h.r2.bag x n2, h.rows.bag x n3, x.t h.t3⟩
/-- a row of a room as a text may be told -/
theorem rowT {p : Addr} {q : RR} (hP : RoomP g es rr) {i : Nat} (hq : rr[i]? = some q) (ho : RowO K H p q.1) : RowT K H p q.1 := by
  have hjr : (rws rr)[i]? = some q.1 := by unfold rws; rw [List.getElem?_map, hq]; rfl
  have ok := hP.bk.at i q.1 hjr
  have hn := hP.bk.num hjr
  have hi := (List.getElem?_eq_some_iff.mp hq).1
  have hl := hP.len
  have h1 := ok.at0
  have h2 := ok.at1
  have h3 := ok.w
  have h4 := ok.r0
  have h5 := ok.r1
  have h6 : ((rws rr).take i).length ≤ 60 := by rw [List.length_take, rws_len]; omega
  obtain ⟨d3, dw⟩ := deed_words hP.gk hP.ek ok.deed
  exact ⟨ho, by omega, by omega, by omega, by omega, by omega, by omega, h4, by omega, d3, dw⟩
theorem deed_isV {d : Deed} (gk : GOk g) (ek : EOk g.stations es) (h : DOk g es d) : d.vs.all isV = true := by
  have nm : ∀ x ∈ g.names, isV (.str x) = true := fun x hx => gk.name hx
  have en : ∀ x ∈ es.map (·.1), isV (.str x) = true := fun x hx => by
    obtain ⟨e, he, rfl⟩ := List.mem_map.mp hx
    exact (ek.nm e he).ok
  have st : ∀ x ∈ g.stations, isV (.str x) = true := fun x hx => nm x (gk.st x hx)
  have kd : ∀ k ∈ kinds, isV (.str k) = true := fun k hk => by
    have : kinds.all (fun k => PyData.strOk k) = true := by decide +kernel
    exact List.all_eq_true.mp this k hk
  have w1 : ∀ (x : Str) (r : List V), PyData.strOk x = true → r.all isV = true → (V.str x :: r).all isV = true := fun x r hx hr => by
    rw [List.all_cons, hr, Bool.and_true]; exact hx
  have i1 : ∀ i : Int, [V.int i].all isV = true := fun _ => rfl
  have s1 : ∀ x : Str, isV (.str x) = true → [V.str x].all isV = true := fun x h => by rw [List.all_cons, h]; rfl
  cases d with
  | call p k => exact w1 _ _ (by decide +kernel) (by rw [List.all_cons, nm _ h.1, s1 _ (kd _ h.2)]; rfl)
  | again c => exact w1 _ _ (by decide +kernel) (i1 _)
  | make c p => exact w1 _ _ (by decide +kernel) rfl
  | stop c => exact w1 _ _ (by decide +kernel) (i1 _)
  | send e c => exact w1 _ _ (by decide +kernel) (by rw [List.all_cons, en _ h.1]; rfl)
  | there e => exact w1 _ _ (by decide +kernel) (s1 _ (en _ h))
  | back e => exact w1 _ _ (by decide +kernel) (s1 _ (en _ h))
  | home e => exact w1 _ _ (by decide +kernel) (s1 _ (en _ h))
  | off e => exact w1 _ _ (by decide +kernel) (s1 _ (en _ h))
  | on e => exact w1 _ _ (by decide +kernel) (s1 _ (en _ h))
  | stand e s => exact w1 _ _ (by decide +kernel) (by rw [List.all_cons, en _ h.1, s1 _ (st _ h.2)]; rfl)
  | lend e s => exact w1 _ _ (by decide +kernel) (by rw [List.all_cons, en _ h.1, s1 _ (st _ h.2)]; rfl)
  | shut r => exact w1 _ _ (by decide +kernel) (i1 _)
  | clear r => exact w1 _ _ (by decide +kernel) (i1 _)
  | nothing => exact w1 _ _ (by decide +kernel) rfl
/-- a row as data, its deed within -/
def dRow (r : RowD) : PyData := .tuple [.int r.n, .int r.written, .int r.at_, .tuple (r.deed.vs.map dV), .int r.right]
theorem dp_enc {t : Addr} {r : RowD} (ht : SqT K H t r.enc) (hd : SqT K H r.dA r.deed.vs) (hv : r.deed.vs.all isV = true) : Dp K H (.ref t) (dRow r) :=
  .tup ht (.cons (.int _) (.cons (.int _) (.cons (.int _) (.cons (.tup hd (dpAll_v hv)) (.cons (.int _) .nil)))))
theorem lay_row {r : RowD} (hv : r.deed.vs.all isV = true) : PyData.canLay0 (dRow r) = true := by
  show (true && (true && (true && (PyData.canLayAll0 (r.deed.vs.map dV) && (true && true))))) = true
  rw [lay_v hv]; rfl
theorem dp_encs : ∀ {ts : List Addr} {rows : List RowD}, Rows K H ts (rows.map RowD.enc) → (∀ r ∈ rows, SqT K H r.dA r.deed.vs ∧ r.deed.vs.all isV = true) → DpAll K H (ts.map V.ref) (rows.map dRow)
  | [], [], _, _ => .nil
  | _ :: _, r :: rows, h, hd => by
    cases h with
    | cons a c => exact .cons (dp_enc a (hd r (List.mem_cons_self ..)).1 (hd r (List.mem_cons_self ..)).2) (dp_encs c fun q hq => hd q (List.mem_cons_of_mem _ hq))
theorem lay_rows' : ∀ {rows : List RowD}, (∀ r ∈ rows, r.deed.vs.all isV = true) → PyData.canLayAll0 (rows.map dRow) = true
  | [], _ => rfl
  | r :: rows, h => by
    show (PyData.canLay0 (dRow r) && PyData.canLayAll0 (rows.map dRow)) = true
    rw [lay_row (h r (List.mem_cons_self ..)), lay_rows' fun q hq => h q (List.mem_cons_of_mem _ hq)]; rfl
theorem depth_rows' : ∀ {rows : List RowD}, (∀ r ∈ rows, r.deed.vs.all isV = true) → PyData.depthAll (rows.map dRow) ≤ 3
  | [], _ => Nat.zero_le _
  | r :: rows, h => by
    show max (PyData.depth (dRow r)) (PyData.depthAll (rows.map dRow)) ≤ 3
    have h1 := depth_rows' fun q hq => h q (List.mem_cons_of_mem _ hq)
    have h2 : PyData.depth (dRow r) ≤ 3 := by
      show max 0 (max 0 (max 0 (max (PyData.depthAll (r.deed.vs.map dV) + 1) (max 0 0)))) + 1 ≤ 3
      rw [depth_v (h r (List.mem_cons_self ..))]; decide
    omega
theorem shaped_rows {rows : List RowD} (h : ∀ r ∈ rows, r.deed.vs.all isV = true) : SeqAt.shaped (.list (rows.map dRow)) = true := by
  unfold SeqAt.shaped
  rw [show PyData.canLay0 (.list (rows.map dRow)) = true from lay_rows' h, Bool.true_and]
  refine decide_eq_true ?_
  show PyData.depthAll (rows.map dRow) + 1 ≤ 64
  have := depth_rows' h
  omega
/-- the script is read; it is none of the places that are written -/
def Scr (K : PySem.W.Frag) (H : Hp) (a : Addr) (xs : List V) (ws : List Addr) : Prop := (H a = some (.lst xs) ∧ a ∉ ws) ∨ (∃ o, H a = some (.frz o (.lst xs))) ∨ ∀ H', SqL K H' a xs
variable {a : Addr} {xs : List V} {ws : List Addr}
theorem Scr.sq (h : Scr K H a xs ws) : SqL K H a xs := by
  rcases h with ⟨h, _⟩ | ⟨o, h⟩ | h
  · exact .inl (.inl h)
  · exact .inl (.inr ⟨o, h⟩)
  · exact h _
theorem Scr.of (h : SqL K H a xs) : Scr K H a xs [] := by
  rcases h with (h | ⟨o, h⟩) | h
  · exact .inl ⟨h, by simp⟩
  · exact .inr (.inl ⟨o, h⟩)
  · exact .inr (.inr fun _ => .inr h)
theorem Scr.add (h : Scr K H a xs ws) {p : Addr} (hp : H p = none) : Scr K H a xs (p :: ws) := by
  rcases h with ⟨h, n⟩ | h
  · refine .inl ⟨h, fun z => ?_⟩
    rcases List.mem_cons.mp z with z | z
    · rw [z, hp] at h; cases h
    · exact n z
  · exact .inr h
theorem Scr.sub (h : Scr K H a xs ws) {ws' : List Addr} (s : ∀ x ∈ ws', x ∈ ws) : Scr K H a xs ws' := by
  rcases h with ⟨h, n⟩ | h
  · exact .inl ⟨h, fun z => n (s _ z)⟩
  · exact .inr h
theorem Scr.en (h : Scr K H a xs ws) (e : ExtN H H') : Scr K H' a xs ws := by
  rcases h with ⟨h, n⟩ | ⟨o, h⟩ | h
  · exact .inl ⟨e _ _ h (fun _ z => by cases z), n⟩
  · exact .inr (.inl ⟨o, e _ _ h fun _ z => by cases z⟩)
  · exact .inr (.inr h)
theorem Scr.ext (h : Scr K H a xs ws) (e : Ext H H') : Scr K H' a xs ws := h.en (extN_of e)
theorem Scr.bag (h : Scr K H a xs ws) (x : BagEx b H H') (hb : b ∈ ws) : Scr K H' a xs ws := by
  rcases h with ⟨h, n⟩ | ⟨o, h⟩ | h
  · exact .inl ⟨x.keep _ _ (fun z => n (by rw [z]; exact hb)) h, n⟩
  · exact .inr (.inl ⟨o, x.at h fun _ z => by cases z⟩)
  · exact .inr (.inr h)
theorem Scr.wr (h : Scr K H a xs ws) (w : Wr c H H') (hr : RoomAt K T H c A g es ps rr) (hb : c.kA ∈ ws) : Scr K H' a xs ws := by
  rcases h with ⟨h, n⟩ | ⟨o, h⟩ | h
  · exact .inl ⟨w.lst hr h (fun z => n (by rw [z]; exact hb)), n⟩
  · exact .inr (.inl ⟨o, w.keep hr h (fun _ z => by cases z) (fun _ z => by cases z) (fun _ z => by cases z)⟩)
  · exact .inr (.inr h)
/-- a list written that is no room's -/
theorem Scr.upd (h : Scr K H a xs ws) {p : Addr} {o : HO} {ys : List V} (hp : H p = some (.lst ys)) (hb : p ∈ ws) : Scr K (upd H p o) a xs ws := by
  rcases h with ⟨h, n⟩ | ⟨o, h⟩ | h
  · exact .inl ⟨(upd_ne fun z => n (by rw [z]; exact hb)).trans h, n⟩
  · exact .inr (.inl ⟨o, (upd_ne fun z => by rw [z, hp] at h; cases h).trans h⟩)
  · exact .inr (.inr h)
theorem RoomAt.updL (h : RoomAt K T H c A g es ps rr) {p : Addr} {ys : List V} {o : HO} (hp : H p = some (.lst ys)) (n : c.kA ≠ p) : RoomAt K T (L2.upd H p o) c A g es ps rr :=
  have kp : ∀ {a : Addr} {u : HO}, H a = some u → (∀ xs, u ≠ .lst xs) → L2.upd H p o a = some u := fun {a u} q m => (upd_ne fun z => by rw [z, hp] at q; exact m _ (Option.some.inj q).symm).trans q
  ⟨kp h.x (fun _ z => by cases z), (upd_ne n).trans h.kept, Paired.mapP h.rows fun _ _ ⟨⟨dx, q⟩, d⟩ => ⟨⟨dx, kp q fun _ z => by cases z⟩, tm_updL hp _ _ d⟩, kp h.first (fun _ z => by cases z), kp h.dead (fun _ z => by cases z), h.ne,
    let ⟨dx, q⟩ := h.gobj; ⟨dx, kp q fun _ z => by cases z⟩, h.ga.tm (tm_updL hp), h.ea.tm (tm_updL hp), tabs_kept h.tabs fun _ _ q m => kp q m⟩
theorem eng_isV (gk : GOk g) (ek : EOk g.stations es) : ∀ r ∈ es.map encE, r.all isV = true := fun r hr => by
  obtain ⟨e, he, rfl⟩ := List.mem_map.mp hr
  have h1 : isV (.str e.1) = true := (ek.nm e he).ok
  have h2 : isV (.str e.2.1) = true := by
    have : (["pump", "ladder", "tanker"] : List Str).all (fun k => PyData.strOk k) = true := by decide +kernel
    exact List.all_eq_true.mp this _ (ek.sort e he)
  have h3 : isV (.str e.2.2.1) = true := gk.name (gk.st _ (ek.st e he))
  show (isV (.str e.1) && (isV (.str e.2.1) && (isV (.str e.2.2.1) && true))) = true
  rw [h1, h2, h3]; rfl
theorem void_isV {sub : List RR} {X : List (Int × Str)} (h : VoidOk rr sub X) : ∀ r ∈ X.map (fun v => [V.int v.1, .str v.2]), r.all isV = true := fun r hr => by
  obtain ⟨v, hv, rfl⟩ := List.mem_map.mp hr
  have h2 : isV (.str v.2) = true := by
    have : whys.all (fun k => PyData.strOk k) = true := by decide +kernel
    exact List.all_eq_true.mp this _ (h.why v hv)
  show (true && (isV (.str v.2) && true)) = true
  rw [h2]; rfl
theorem rooms_eq {H : Hp} (h1 : RoomAt K T H c1 A g es ps1 rr) (h2 : RoomAt K T H c2 A g es ps2 rr) (gk : GOk g) (ek : EOk g.stations es) : RRm K c2.ro c1.ro H := by
  obtain ⟨dx1, g1⟩ := h1.gobj
  obtain ⟨dx2, g2⟩ := h2.gobj
  exact ⟨A.E, A.tE, es, g.stations, c2.dx, c1.dx, c2.go, c1.go, c2.kA, c1.kA, c2.fA, c1.fA, c2.dA, c1.dA, ps2, ps1, rws rr, h2.x, h1.x, ⟨A, g, gk, h1.ga, ⟨dx2, c2.D, g2⟩, ⟨dx1, c1.D, g1⟩⟩, h1.ea.e, h1.ea.es, eng_isV gk ek, h2.kept, h1.kept, h2.rows, h1.rows⟩
theorem prs_strs (xs : List Str) (H : Hp) : Prs DFlat (xs.map V.str) (xs.map V.str) H := ⟨rfl, fun i x y hx hy => by
  rw [hx] at hy
  cases hy
  obtain ⟨z, _, rfl⟩ := map_some hx
  exact ⟨rfl, rfl, by unfold eqV; first | rfl | simp⟩⟩
end
end K36
/-! text KW5 -/
/-! the law -/
namespace K36
open PySem PySem.Spec PyProof.Rows L2
open LamX (Tabs TabS TabB ExtN CodeO)
section
variable {P : Program} {w : World} {K : PySem.W.Frag} {mg : Str → Option Value} {base : Heap}
abbrev N_law : List Str := ["_law_script", "_law_bag_here", "_law_told", "_law_engines_here", "_law_room", "_law_still", "_law_rows", "_law_k", "_law_texts", "_law_written", "_law_at", "_law_deed_here", "_law_right", "_law_row", "_law_other", "_law_found", "_law_turn", "_law_some", "_law_one"]
theorem sc_law : FnScope N_law ["_law_script"] (defScope s_law) := ⟨rfl, rfl, rfl, by decide +kernel, rfl, by decide +kernel, by decide +kernel⟩
def lawQ : Str := "law.<locals>.<lambda>"
def sp_law (K : PySem.W.Frag) (T : List (Addr × Str)) : Sp := fun vs H Q _ => ∃ (a : Addr) (ns : List Int), vs = [.ref a] ∧ SqL K H a (ns.map V.int) ∧ ns.length ≤ 63 ∧ Tabs T H ∧ ∀ H', Q (.bl true) H'
def WriteOk (P : Program) (w : World) (K : PySem.W.Frag) (mg : Str → Option Value) (base : Heap) (Tb : List (Addr × Str)) : Prop := ∃ fd, FunD K "write" "Room.write" (defArgs s_Room_write) (defBody s_Room_write) (defScope s_Room_write) [.int 0] [] (He.ma K (He.ga K "Room") "write") fd ∧ FnOk P w K mg base (L2.CX P w) 6 (He.ma K (He.ga K "Room") "write") fd ["self", "written", "at", "deed", "right"] (sp_write K Tb)
/-- behind the writing of a turn -/
def LMid (K : PySem.W.Frag) (Tb : List (Addr × Str)) (l : Addr) (A : Adr) (g : Gd) (es : List Eng) (c1 c2 : RoomC) (a : Addr) (ns : List Int) (b2 : Addr) (i : Nat) (v7 v9 v10 v11 v12 v15 : Option V) : L2.St → Hp → Prop := fun σ' H' => ∃ (v13 v14 : Option V) (ps1 ps2 : List Addr) (rr : List RR) (tR : List Addr),
  σ' = [some (.ref a), some (.ref b2), some (.ref A.T), some (.ref A.E), some (.ref c1.ro), some (.ref c2.ro), some (.ref l), v7, none, v9, v10, v11, v12, v13, v14, v15, none, none, none] ∧ LawI K Tb H' l A g es c1 c2 ps1 ps2 rr tR ∧ RoomP g es rr ∧ rr.length ≤ i + 1 ∧ Scr K H' a (ns.map V.int) [b2, l, c2.kA, c1.kA] ∧ Bag H' b2
theorem ok_law (T : Tx w K mg) {Tb : List (Addr × Str)} (N : Nd K mg) (NX : NdX K) (O : OwnC K) (LF : LamF K mg base Tb (He.ga K "law") lawQ) (GW : WriteOk P w K mg base Tb)
    (GR : EqOk P w K mg base 2 (He.ma K (He.ga K "Row") "__eq__") (RRow K)) (GM : EqOk P w K mg base 4 (He.ma K (He.ga K "Room") "__eq__") (RRm K)) (GS : StrOk P w K mg base 3 (He.ma K (He.ga K "Row") "__str__") (sp_text_of K))
    (G_law_bag : C8.Cal P w K mg base 1 "_law_bag" (sp_bag K) []) (G_law_house : C8.Cal P w K mg base 4 "_law_house" (sp_house K) []) (G_Ground : C8.Mak P w K mg base 4 "Ground" (He.ga K "Ground") (sp_Ground_init K) []) (G_Room : C8.Mak P w K mg base 4 "Room" (He.ga K "Room") (sp_Room_init K) [])
    (G_law_next : C8.Cal P w K mg base 4 "_law_next" (sp_next K) []) (G_law_take : C8.Cal P w K mg base 1 "_law_take" sp_take []) (G_law_is_book : C8.Cal P w K mg base 1 "_law_is_book" (sp_is_book K) []) (G_law_void_holds : C8.Cal P w K mg base 6 "_law_void_holds" (sp_void_holds K Tb) [])
    (G_rows : C8.Met P w K mg base 1 (He.ga K "Room") "rows" (sp_rows K Tb) []) (G_void : C8.Met P w K mg base 5 (He.ga K "Room") "void" (sp_void K Tb) []) (G_calls : C8.Met P w K mg base 6 (He.ga K "Room") "calls" (sp_calls K Tb) []) (G_engine : C8.Met P w K mg base 6 (He.ga K "Room") "engine" (sp_engine K Tb) []) :
    FnM P w K mg base 10 "law" "law" (defArgs s_law) (defBody s_law) (defScope s_law) [] (He.ga K "law") ["_law_script"] (sp_law K Tb) := by
  obtain ⟨cd, tb, hcd, TB, hmT, huT⟩ := LF.ex
  obtain ⟨fdW, fW, FW⟩ := GW
  obtain ⟨dsW, vW, bW⟩ := fW.binds1 (ps := ["self", "written", "at", "deed", "right"]) 5 1 (by simp) rfl fun T kV doc pm an cdv ct us its h1 h2 => match us, its, h1, h2 with | [_, _, _, _, _], [_], _, _ => ⟨_, rfl, rfl⟩
  cases vW
  obtain ⟨fdR, psR, FR, bR⟩ := GR.ex
  obtain ⟨fdM, psM, FM, bM⟩ := GM.ex
  obtain ⟨fdS, psS, FS, bS⟩ := GS.ex
  obtain ⟨fdT, FT⟩ := T.F_law_try
  have kpT := FT.kp
  have bT := FT.bindsN (ps := ["_law_deed_here"]) (fun _ _ _ _ _ _ us hl => match us, hl with | [_], _ => rfl)
  obtain ⟨ocT, odT, dVT, kVT, docT, pmT, anT, cdvT, ctT, oslT, rfl, lkT, hcT, _, _⟩ := FT.ex
  refine fnM_mkC T.F_law hcd sc_law (fun vs H Q E h => ?_) (fun A0 outer s H vs Q E hr h => ?_)
  · obtain ⟨a, ns, rfl, _⟩ := h
    rfl
  · obtain ⟨a, ns, rfl, hS, h63, hTb, k⟩ := h
    refine ⟨_, (pss_cons (ps_set (i := 1) sc_law.nd rfl (Or.inl rfl) (C8.pe_c G_law_bag hr (by decide) rfl (pa_cons (pv 0) (pa_cons pe_int pa_nil))))
    (pss_cons (ps_asg (C8.pe_c G_law_house hr (by decide) rfl (pa_cons (pv 1) pa_nil)) (pg_tup rfl (pgs_cons (pg_name (i := 2) sc_law.nd rfl (Or.inr rfl)) (pgs_cons (pg_name (i := 3) sc_law.nd rfl (Or.inr rfl)) pgs_nil))))
    (pss_cons (ps_asg (pe_lc (own := [("_law_turn", 16)]) (g := (gName 16)) (tt := tYes) rfl sc_law.nd (pi_range1 (by rfl) T.b_range (pa_cons pe_int pa_nil)) (blkOk_by (N := N_law) (sc := defScope s_law) (by decide +kernel)) (fun _ _ _ _ _ => (pg_name (i := 16) sc_law.nd rfl (Or.inl rfl))) (fun _ _ _ _ _ => pts_nil) (fun _ _ _ _ _ => (C8.pe_mk G_Room hr (by decide) rfl (pa_cons (C8.pe_mk G_Ground hr (by decide) rfl (pa_cons (pe_ix (ix_tupK K) (pv 2) pe_int (fun _ _ => rfl)) (pa_cons (pe_ix (ix_tupK K) (pv 2) pe_int (fun _ _ => rfl)) (pa_cons (pe_ix (ix_tupK K) (pv 2) pe_int (fun _ _ => rfl)) pa_nil)))) (pa_cons (pv 3) pa_nil))))) (pg_lst rfl (pgs_cons (pg_name (i := 4) sc_law.nd rfl (Or.inr rfl)) (pgs_cons (pg_name (i := 5) sc_law.nd rfl (Or.inr rfl)) pgs_nil))))
    (pss_cons (ps_set (i := 6) sc_law.nd rfl (Or.inl rfl) (pe_lst pa_nil))
    (pss_cons (ps_for PassesOwn.never rfl (pi_range1 (by rfl) T.b_range (pa_cons (pe_callB (call_max2 rfl) (by rfl) T.b_max (by decide +kernel) (pa_cons pe_int (pa_cons (pe_callB (call_min2 rfl) (by rfl) T.b_min (by decide +kernel) (pa_cons pe_int (pa_cons (pe_op op_sub (pe_callB call_len_seq (by rfl) T.b_len (by decide +kernel) (pa_cons (pv 0) pa_nil)) pe_int) pa_nil))) pa_nil))) pa_nil)) (pg_name (i := 7) sc_law.nd rfl (Or.inl rfl))
      (pss_cons (ps_set (i := 1) sc_law.nd rfl (Or.inl rfl) (C8.pe_c G_law_bag hr (by decide) rfl (pa_cons (pv 0) (pa_cons (pe_op op_add pe_int (pv 7)) pa_nil))))
        (pss_cons (ps_asg (C8.pe_c G_law_next hr (by decide) rfl (pa_cons (pv 1) (pa_cons (pv 2) (pa_cons (pv 3) (pa_cons (pv 6) pa_nil))))) (pg_tup rfl (pgs_cons (pg_name (i := 9) sc_law.nd rfl (Or.inr rfl)) (pgs_cons (pg_name (i := 10) sc_law.nd rfl (Or.inr rfl)) (pgs_cons (pg_name (i := 11) sc_law.nd rfl (Or.inr rfl)) (pgs_cons (pg_name (i := 12) sc_law.nd rfl (Or.inr rfl)) pgs_nil))))))
        (pss_cons (ps_set (i := 13) sc_law.nd rfl (Or.inl rfl) (LamX.pe_lamcall (x := "_law_try") (a := "_law_deed_here") (Ng := N_law_try) (TT := TTry K) (T := Tb) (k := 6) rfl T.g_law_try kpT lkT hcT bT sc_law_try rfl (.inl rfl) (try_gives T N NX) TB rfl hmT huT (hr.mono (by decide)) (LamX.lamS_by (sc := defScope s_law) (by decide +kernel)) rfl (fun _ _ _ _ _ => rfl) (fun _ _ _ _ _ _ _ hr2 => pe_meth (pv 4) T.c_Room T.m_Room_write FW hr2 bW .nil (passes_call (takes_of rfl rfl rfl rfl) (fun _ _ _ _ h => h)) (pa_cons (pv 9) (pa_cons (pv 10) (pa_cons (pv 11) (pa_cons (pv 12) pa_nil)))))))
        (pss_cons (ps_set (i := 14) sc_law.nd rfl (Or.inl rfl) (LamX.pe_lamcall (x := "_law_try") (a := "_law_deed_here") (Ng := N_law_try) (TT := TTry K) (T := Tb) (k := 6) rfl T.g_law_try kpT lkT hcT bT sc_law_try rfl (.inl rfl) (try_gives T N NX) TB rfl hmT huT (hr.mono (by decide)) (LamX.lamS_by (sc := defScope s_law) (by decide +kernel)) rfl (fun _ _ _ _ _ => rfl) (fun _ _ _ _ _ _ _ hr2 => pe_meth (pv 5) T.c_Room T.m_Room_write FW hr2 bW .nil (passes_call (takes_of rfl rfl rfl rfl) (fun _ _ _ _ h => h)) (pa_cons (pv 9) (pa_cons (pv 10) (pa_cons (pv 11) (pa_cons (pv 12) pa_nil)))))))
        (pss_cons (ps_if (PW.pt (pw_or (pt_cmpR op_ne (pe_callB call_isi (by rfl) T.b_isinstance (by decide +kernel) (pa_cons (pv 13) (pa_cons (pe_bltn (v := .ty "tuple") (by rfl) T.b_tuple (by decide +kernel) rfl) pa_nil))) (pe_callB call_isi (by rfl) T.b_isinstance (by decide +kernel) (pa_cons (pv 14) (pa_cons (pe_bltn (v := .ty "tuple") (by rfl) T.b_tuple (by decide +kernel) rfl) pa_nil))) (nomark _)) (pw_or1 (pt_cmpR (op_or (op_neG FR O.rowNe bR (C8.pass0 (E := C8.E0)) (hr.mono (by decide))) (op_neD hr.units)) (pv 13) (pv 14) (nomark _)))))
          (pss_one (ps_ret pe_bl))
          pss_nil)
        (C8.pss_cut (ps_if (pt_not (pt_val (pe_callB call_isi (by rfl) T.b_isinstance (by decide +kernel) (pa_cons (pv 13) (pa_cons (pe_bltn (v := .ty "tuple") (by rfl) T.b_tuple (by decide +kernel) rfl) pa_nil)))))
          (pss_one (ps_expr (pe_bm PySem.F.plainAttrs_list PySem.F.slot_list_append PySem.F.type_list_append mt_append (pv 6) (pa_cons (pe_tup (pa_cons (pe_fld (pv 13) rfl) (pa_cons (pe_fld (pv 13) rfl) (pa_cons (pe_fld (pv 13) rfl) (pa_cons (pe_fld (pv 13) rfl) (pa_cons (pe_fld (pv 13) rfl) pa_nil)))))) pa_nil))))
          pss_nil)
        (pss_cons (ps_setLc (i := 15) (own := [("_law_one", 18)]) (g := (gName 18)) (tt := tYes) rfl sc_law.nd rfl rfl (sw_true rfl rfl rfl (by decide +kernel)) (pi_list (C8.pe_mt0 G_rows hr (by decide) (pv 4))) (blkOk_by (N := N_law) (sc := defScope s_law) (by decide +kernel)) (fun _ _ _ _ _ => (pg_name (i := 18) sc_law.nd rfl (Or.inl rfl))) (fun _ _ _ _ _ => pts_nil) (fun _ _ _ _ _ => (pe_tup (pa_cons (pe_fldK K (pv 18) rfl) (pa_cons (pe_fldK K (pv 18) rfl) (pa_cons (pe_fldK K (pv 18) rfl) (pa_cons (pe_fldK K (pv 18) rfl) (pa_cons (pe_fldK K (pv 18) rfl) pa_nil))))))))
        (pss_cons (ps_if (PW.pt (pw_or (pt_cmpR (op_neD hr.units) (pv 15) (pv 6) (nomark _)) (pw_or (pt_not (pt_val (C8.pe_c G_law_is_book hr (by decide) rfl (pa_cons (pv 6) pa_nil)))) (pw_or1 (pt_not (pt_val (C8.pe_c G_law_void_holds hr (by decide) rfl (pa_cons (pv 4) (pa_cons (pv 6) pa_nil)))))))))
          (pss_one (ps_ret pe_bl))
          pss_nil)
        (pss_cons (ps_expr (C8.pe_mt G_calls hr (by decide) (pv 4) (pa_cons (C8.pe_c G_law_take hr (by decide) rfl (pa_cons (pv 1) (pa_cons pe_int pa_nil))) pa_nil)))
        (pss_one (ps_expr (C8.pe_mt G_engine hr (by decide) (pv 4) (pa_cons (pe_ix ix_tup (pe_ix ix_tup (pv 3) (C8.pe_c G_law_take hr (by decide) rfl (pa_cons (pv 1) (pa_cons (pe_callB call_len_seq (by rfl) T.b_len (by decide +kernel) (pa_cons (pv 3) pa_nil)) pa_nil))) (fun _ _ => rfl)) pe_int (fun _ _ => rfl)) (pa_cons (pv 10) pa_nil)))))))))))))))
    (pss_cons (ps_setLc (i := 8) (own := [("_law_some", 17)]) (g := (gName 17)) (tt := tYes) rfl sc_law.nd rfl rfl (sw_true rfl rfl rfl (by decide +kernel)) (pi_tup (pe_tup (pa_cons (pv 5) (pa_cons (pv 4) pa_nil)))) (blkOk_by (N := N_law) (sc := defScope s_law) (by decide +kernel)) (fun _ _ _ _ _ => (pg_name (i := 17) sc_law.nd rfl (Or.inl rfl))) (fun _ _ _ _ _ => pts_nil) (fun _ _ _ _ _ => (pe_lc (own := [("_law_one", 18)]) (g := (gName 18)) (tt := tYes) rfl sc_law.nd (pi_listK K (C8.pe_mt0 G_rows hr (by decide) (pv 17))) (blkOk_by (by rfl)) (fun _ _ _ _ _ => pg_name (i := 18) sc_law.nd rfl (Or.inl rfl)) (fun _ _ _ _ _ => pts_nil) (fun _ _ _ _ _ => pe_callTy (cr_strO FS O.rowStr O.strFn bS (C8.pass0 (E := C8.E0)) (hr.mono (by decide))) (by rfl) T.b_str (by decide +kernel) (pa_cons (pv 18) pa_nil)))))
    (pss_one (ps_ret (pe_and (pe_cmpR (op_eqG (rcG_ins FM O.roomEq O.roomFn bM (C8.pass0 (E := C8.E0))) (hr.mono (by decide))) (pv 5) (pv 4) (nomark _)) (pe_and (pe_cmpR (op_eqD hr.units) (C8.pe_mt0 G_void hr (by decide) (pv 5)) (C8.pe_mt0 G_void hr (by decide) (pv 4)) (nomark _)) (pe_one (pe_cmpR (op_eqG (rcG_list mon_flat eqG_flat) (hr.mono (by decide))) (pe_ix ix_list (pv 8) pe_int (fun _ _ => rfl)) (pe_ix ix_list (pv 8) pe_int (fun _ _ => rfl)) (nomark _))))))))))))), ?_⟩
    -- _law_bag_here
    refine ⟨_, rfl, a, ns, 0, rfl, hS, by decide, fun b H1 hb1 e1 hB1 => ?_⟩
    have sc1 : Scr K H1 a (ns.map V.int) [b] := (((Scr.of hS).add hb1).ext e1)
    -- _law_told, _law_engines_here
    refine ⟨_, rfl, b, rfl, hB1, fun A g es tH H2 gok eok ga ea hT3 hT2 hPl x2 => ?_⟩
    refine ⟨tH, _, rfl, hT2, rfl, _, _, rfl, _, _, rfl, rfl, ?_⟩
    have sc2 := sc1.bag x2 (List.mem_singleton.mpr rfl)
    have t2 : Tabs Tb H2 := tabs_kept (hTb.ext e1) fun _ _ q m => x2.at q m
    -- the rooms
    refine ⟨2, rfl, by decide, by decide, fun D hD => ?_⟩
    refine lc_range (lo := 0) (n := 2) (fun i H' => ∃ cs : List RoomC, cs.length = i ∧ Ext H2 H' ∧ H' D = some (.lst (cs.map fun c => V.ref c.ro)) ∧ (∀ c ∈ cs, RoomAt K Tb H' c A g es [] [] ∧ H2 c.kA = none ∧ c.kA ≠ D) ∧
      cs.Pairwise fun c1 c2 => c1.kA ≠ c2.kA ∧ c1.fA ≠ c2.fA ∧ c1.dA ≠ c2.dA ∧ c1.fA ≠ c2.dA ∧ c1.dA ≠ c2.fA) ⟨[], rfl, Ext.upd hD, upd_same, fun _ h => absurd h (by simp), List.Pairwise.nil⟩ ?_ ?_
    · rintro i H3 hi ⟨cs, hcl, e, hDD, hcs, hpw⟩
      have hT3' := SqT.ext hT3 e
      refine ⟨rfl, ?_⟩
      refine ⟨_, rfl, A.T, _, _, _, rfl, rfl, hT3', rfl, _, rfl, A.T, _, _, _, rfl, rfl, hT3', rfl, _, rfl, A.T, _, _, _, rfl, rfl, hT3', rfl, fun x dx hx hdx ndx => ?_⟩
      have ex : ∀ u v, Ext H3 (upd (upd H3 dx u) x v) := fun u v => updE (Ext.upd hdx) hx
      refine ⟨x, dx, A, g, rfl, upd_same, (hPl.ext e).ext (ex _ _), (ga.tm (tmE e)).tm (tmE (ex _ _)), gok, fun D' H4 kb hx4 => ⟨rfl, ?_⟩⟩
      have e34 : Ext H3 H4 := fun b o hb => kb b o (ne_of_none hb hx) (ex _ _ b o hb)
      have e24 := e.trans e34
      refine ⟨_, rfl, fun y dy hy hdy ndy => ?_⟩
      have ey : ∀ u v, Ext H4 (upd (upd H4 dy u) y v) := fun u v => updE (Ext.upd hdy) hy
      have e2y : ∀ u v, Ext H2 (upd (upd H4 dy u) y v) := fun u v => e24.trans (ey u v)
      refine ⟨y, dy, x, A.E, A.tE, es, A.P, A.R, A.S, D', g.stations, rfl, upd_same, ⟨dx, ey _ _ _ _ hx4⟩, SqT.ext ga.s (e2y _ _), SqT.ext ea.e (e2y _ _), ea.es.tm (tmE (e2y _ _)), eok.e24, eok.nd, fun q hq => ⟨eok.nm q hq, eok.sort q hq, eok.st q hq, eok.seats q hq⟩, fun kA fA dA H5 kb5 hy5 hk hf hd nk nf nd nfd => ⟨rfl, ?_⟩⟩
      have e45 : Ext H4 H5 := fun b o hb => kb5 b o (ne_of_none hb hy) (ey _ _ b o hb)
      have e35 := e34.trans e45
      have e25 := e24.trans e45
      have hD5 := e35 _ _ hDD
      have hR5 : RoomAt K Tb H5 ⟨y, dy, kA, fA, dA, x, D'⟩ A g es [] [] := ⟨hy5, hk, .nil, hf, hd, nfd, ⟨dx, e45 _ _ hx4⟩, ga.tm (tmE e25), ea.tm (tmE e25), t2.ext e25⟩
      have old : ∀ {p q : Addr} {o : HO}, H3 p = some o → upd (upd H4 dy (.own y)) y (.ins (He.ga K "Room") dy []) q = none → p ≠ q := fun {p q o} hp hq => ne_of_none (ey _ _ _ _ (e34 _ _ hp)) hq
      refine ⟨_, hD5, szl (by rw [List.length_map]; omega), cs ++ [⟨y, dy, kA, fA, dA, x, D'⟩], by rw [List.length_append, hcl]; rfl, updE e25 hD, ?_, fun c hc => ?_, ?_⟩
      · rw [upd_same, List.map_append]; rfl
      · rcases List.mem_append.mp hc with z | z
        · obtain ⟨h1, h2, h3⟩ := hcs c z
          exact ⟨(h1.ext e35).updL hD5 h3, h2, h3⟩
        · rw [List.mem_singleton.mp z]
          have nkD : kA ≠ D := (old hDD nk).symm
          exact ⟨hR5.updL hD5 nkD, Ext.free (e2y _ _) nk, nkD⟩
      · refine List.pairwise_append.mpr ⟨hpw, List.pairwise_singleton _ _, fun c hc q hq => ?_⟩
        rw [List.mem_singleton.mp hq]
        obtain ⟨h1, h2, h3⟩ := hcs c hc
        exact ⟨old h1.kept nk, old h1.first nf, old h1.dead nd, old h1.first nd, old h1.dead nf⟩
    · rintro H3 ⟨cs, hcl, e3, hDD, hcs, hpw⟩
      obtain ⟨c1, c2, rfl⟩ : ∃ c1 c2, cs = [c1, c2] := match cs, hcl with
        | [c1, c2], _ => ⟨c1, c2, rfl⟩
      obtain ⟨h1, n1, _⟩ := hcs c1 (by simp)
      obtain ⟨h2, n2, _⟩ := hcs c2 (by simp)
      have hpw2 := (List.pairwise_cons.mp hpw).1 c2 (by simp)
      have sc3 : Scr K H3 a (ns.map V.int) [c2.kA, c1.kA, b] := ((sc2.add n1).add n2).ext e3
      refine ⟨D, _, rfl, SqL.of hDD, rfl, _, _, rfl, _, _, rfl, rfl, ?_⟩
      -- _law_rows
      refine ⟨sz rfl, fun l hl => ?_⟩
      generalize hg4 : upd H3 l _ = H4
      obtain ⟨e4, h4, _⟩ := newF hl hg4
      have ap : Apart c1 c2 l := ⟨hpw2.1, ne_of_none h1.kept hl, ne_of_none h2.kept hl, hpw2.2.1, hpw2.2.2.1, hpw2.2.2.2.1, hpw2.2.2.2.2⟩
      have sc4 : Scr K H4 a (ns.map V.int) [l, c2.kA, c1.kA] := ((sc3.add hl).ext e4).sub (fun x hx => by simp at hx ⊢; rcases hx with z | z | z <;> simp [z])
      have hI4 : LawI K Tb H4 l A g es c1 c2 [] [] [] [] := ⟨h1.ext e4, h2.ext e4, ⟨h4, .nil, fun r hr => absurd hr (by simp [rws])⟩, SqT.ext hT3 (e3.trans e4)⟩
      have hP0 : RoomP g es [] := ⟨gok, eok, .nil, Nat.zero_le _⟩
      have bk0 : ∀ {rr : List RR}, RoomP g es rr → Book g es (rws rr) := fun h => h.bk
      -- the turns
      refine ⟨_, rfl, a, _, rfl, .inl sc4.sq, _, _, rfl, rfl, _, _, rfl, _, _, rfl, ?_⟩
      have hlen : (ns.map V.int).length ≤ 63 := by rw [List.length_map]; exact h63
      refine ⟨_, rfl, by split <;> (try split) <;> omega, by split <;> (try split) <;> omega, ?_⟩
      obtain ⟨n, hn, n50⟩ : ∃ n : Nat, (if (12 : Int) < (if ((ns.map V.int).length : Int) - 1 < 50 then ((ns.map V.int).length : Int) - 1 else 50) then (if ((ns.map V.int).length : Int) - 1 < 50 then ((ns.map V.int).length : Int) - 1 else 50) else 12).toNat = n ∧ n ≤ 50 := by
        refine ⟨_, rfl, ?_⟩
        split <;> (try split) <;> omega
      refine for_range (lo := 0) (fun i σ' H' => ∃ (v1 v7 v9 v10 v11 v12 v13 v14 v15 : Option V) (ps1 ps2 : List Addr) (rr : List RR) (tR : List Addr), σ' = [some (.ref a), v1, some (.ref A.T), some (.ref A.E), some (.ref c1.ro), some (.ref c2.ro), some (.ref l), v7, none, v9, v10, v11, v12, v13, v14, v15, none, none, none] ∧
          LawI K Tb H' l A g es c1 c2 ps1 ps2 rr tR ∧ RoomP g es rr ∧ rr.length ≤ i ∧ Scr K H' a (ns.map V.int) [l, c2.kA, c1.kA]) ⟨_, _, _, _, _, _, _, _, _, [], [], [], [], rfl, hI4, hP0, Nat.le_refl _, sc4⟩ ?_ ?_
      · rintro i σ' H5 hi ⟨v1, v7, v9, v10, v11, v12, v13, v14, v15, ps1, ps2, rr, tR, rfl, hI, hP, hri, sc⟩
        have hi50 : i < 50 := by rw [hn] at hi; omega
        -- _law_bag_here
        refine ⟨_, rfl, _, rfl, _, _, rfl, rfl, a, ns, i + 1, by show [V.ref a, V.int (1 + (0 + (i : Int)))] = _; rw [show (1 + (0 + (i : Int))) = ((i + 1 : Nat) : Int) by omega], sc.sq, by omega, fun b2 H6 hb6 e6 hB6 => ?_⟩
        have hI6 := hI.ext e6
        have nk1 : c1.kA ≠ b2 := ne_of_none hI.r1.kept hb6
        have nk2 : c2.kA ≠ b2 := ne_of_none hI.r2.kept hb6
        have nlb : l ≠ b2 := ne_of_none hI.rows.l hb6
        have sc6 : Scr K H6 a (ns.map V.int) [b2, l, c2.kA, c1.kA] := (sc.add hb6).ext e6
        -- _law_next
        refine ⟨_, rfl, _, rfl, _, rfl, _, rfl, b2, l, A, g, es, tR, rws rr, rfl, hB6, hP.gk, hP.ek, hI6.r1.ga, hI6.r1.ea, hI6.t3, hI6.rows, nlb, hP.bk, by rw [rws_len]; exact hP.len, fun tN dA wr at_ ri d H7 nok hdA htN x7 => ?_⟩
        refine ⟨tN, _, rfl, htN, rfl, _, _, rfl, _, _, rfl, _, _, rfl, _, _, rfl, rfl, ?_⟩
        have hI7 := hI6.bag x7 nk1 nk2 nlb
        have sc7 := sc6.bag x7 (List.mem_cons_self ..)
        have h60 : rr.length < 60 := by omega
        have hok : RowOk g es (rws rr) (rowOf rr wr at_ d dA ri) := ⟨by rw [rws_len]; rfl, nok.at0, nok.at1, nok.w, nok.last, nok.r0, nok.r1, nok.rd, nok.deed⟩
        dsimp only
        refine cut3 (LMid K Tb l A g es c1 c2 a ns b2 i (some (.int (0 + i))) (some (.int wr)) (some (.int at_)) (some (.ref dA)) (some (.int ri)) v15) ?tail (fun tail => ?main)
        case main =>
          by_cases hw : whyR es rr at_ d ri = ""
          · -- both rows are written
            refine ⟨hI7.r1.tabs, fun H8 en8 t8 => ?_⟩
            have hI8 := hI7.en en8 t8
            refine ⟨_, rfl, c1.ro, c1.dx, _, rfl, hI8.r1.x, rfl, _, rfl, _, rfl, _, rfl, _, rfl, c1, A, g, es, ps1, rr, wr, at_, ri, d, dA, rfl, hI8.r1, hP, h60, hok, ExtN.t en8 hdA, fun _ H9 p1 w9 hR9 => ?_, fun z => absurd hw z⟩
            have hI9r : RowsL K H9 l tR (rws rr) := hI8.rows.tm (w9.tm hI8.r1) (w9.lst hI8.r1 hI8.rows.l ap.k1.symm)
            have h29 := hI8.r2.other hI8.r1 w9 hR9.tabs ap
            have hdA9 := w9.tm hI8.r1 _ _ (ExtN.t en8 hdA)
            have t39 := w9.tm hI8.r1 _ _ hI8.t3
            have sc9 := (sc7.en en8).wr w9 hI8.r1 (by simp)
            have hB9 : Bag H9 b2 := (let ⟨g0, r0, hb, q⟩ := x7.bag; ⟨g0, r0, w9.lst hI8.r1 (en8 _ _ hb fun _ z => by cases z) nk1.symm, q⟩)
            refine ⟨hR9.tabs, fun H10 en10 t10 => ?_⟩
            have h110 := hR9.grow en10 t10
            have h210 := h29.grow en10 t10
            refine ⟨_, rfl, c2.ro, c2.dx, _, rfl, h210.x, rfl, _, rfl, _, rfl, _, rfl, _, rfl, c2, A, g, es, ps2, rr, wr, at_, ri, d, dA, rfl, h210, hP, h60, hok, ExtN.t en10 hdA9, fun _ H11 p2 w11 hR11 => ?_, fun z => absurd hw z⟩
            have h111 := h110.other h210 w11 hR11.tabs ap.symm
            have hI11r : RowsL K H11 l tR (rws rr) := (hI9r.tm (ExtN.tm en10) (en10 _ _ hI9r.l fun _ z => by cases z)).tm (w11.tm h210) (w11.lst h210 (en10 _ _ hI9r.l fun _ z => by cases z) ap.k2.symm)
            have t311 := w11.tm h210 _ _ (ExtN.t en10 t39)
            have sc11 := (sc9.en en10).wr w11 h210 (by simp)
            have hB11 : Bag H11 b2 := (let ⟨g0, r0, hb, q⟩ := hB9; ⟨g0, r0, w11.lst h210 (en10 _ _ hb fun _ z => by cases z) nk2.symm, q⟩)
            -- the row's objects
            have at1 : (rr ++ [(rowOf rr wr at_ d dA ri, firstR rr ri ((rr.length : Int) + 1))])[rr.length]? = some (rowOf rr wr at_ d dA ri, firstR rr ri ((rr.length : Int) + 1)) := by rw [List.getElem?_append_right (Nat.le_refl _), Nat.sub_self]; rfl
            have get : ∀ {c : RoomC} {ps : List Addr} {p : Addr}, RoomAt K Tb H11 c A g es (ps ++ [p]) (rr ++ [(rowOf rr wr at_ d dA ri, firstR rr ri ((rr.length : Int) + 1))]) → RowO K H11 p (rowOf rr wr at_ d dA ri) := fun {c ps p} h => by
              have hl := h.plen
              rw [List.length_append, List.length_append] at hl
              have hl' : ps.length = rr.length := by simpa using hl
              obtain ⟨q, hq, ho⟩ := h.at (i := rr.length) (p := p) (by rw [← hl', List.getElem?_append_right (Nat.le_refl _), Nat.sub_self]; rfl)
              rw [at1] at hq
              cases hq
              exact ho
            obtain ⟨⟨dx1, ho1⟩, hd1⟩ := get h111
            obtain ⟨⟨dx2, ho2⟩, hd2⟩ := get hR11
            -- both are rows, and equal
            have ty1 : TyX K H11 (.ref p1) (.ref (He.ga K "Row")) := .base (.ins ho1 T.c_Row O.row.ha O.row.hn O.row.htk O.row.hm)
            have ty2 : TyX K H11 (.ref p2) (.ref (He.ga K "Row")) := .base (.ins ho2 T.c_Row O.row.ha O.row.hn O.row.htk O.row.hm)
            refine ⟨_, rfl, _, _, _, _, _, rfl, .ty _, ty1, O.rowTup, _, rfl, _, _, _, _, _, rfl, .ty _, ty2, O.rowTup, rfl, false, rfl, iteF ?_⟩
            refine ⟨_, rfl, _, rfl, .inl ⟨⟨p1, p2, dx1, dx2, _, _, rfl, rfl, ho1, ho2, _, dx1, dx2, ho1, ho2⟩, fun H12 e12 => ⟨false, rfl, iteF ?_⟩⟩⟩
            refine ⟨LMid K Tb l A g es c1 c2 a ns b2 i (some (.int (0 + i))) (some (.int wr)) (some (.int at_)) (some (.ref dA)) (some (.int ri)) v15, ?_, tail⟩
            have ty1' : TyX K H12 (.ref p1) (.ref (He.ga K "Row")) := .base (.ins (e12 _ _ ho1) T.c_Row O.row.ha O.row.hn O.row.htk O.row.hm)
            refine ⟨_, rfl, _, _, _, _, _, rfl, .ty _, ty1', O.rowTup, false, rfl, iteT ?_⟩
            have ho1' := e12 _ _ ho1
            have hl12 : H12 l = some (.lst (tR.map V.ref)) := e12 _ _ hI11r.l
            refine ⟨_, rfl, .inl ⟨rfl, _, SqL.of hl12⟩, ?_⟩
            refine ⟨_, rfl, p1, _, dx1, _, _, rfl, ho1', T.c_Row, T.n_Row_number, rfl, _, rfl, p1, _, dx1, _, _, rfl, ho1', T.c_Row, T.n_Row_written, rfl, _, rfl, p1, _, dx1, _, _, rfl, ho1', T.c_Row, T.n_Row_at, rfl, _, rfl, p1, _, dx1, _, _, rfl, ho1', T.c_Row, T.n_Row_deed, rfl, _, rfl, p1, _, dx1, _, _, rfl, ho1', T.c_Row, T.n_Row_right, rfl, sz rfl, fun tN2 htN2 => ?_⟩
            generalize hg13 : upd H12 tN2 _ = H13
            obtain ⟨e13, h13, _⟩ := newF htN2 hg13
            have E13 : Ext H11 H13 := e12.trans e13
            have hl13 := e13 _ _ hl12
            have hlt : tR.length = rr.length := by rw [hI11r.len, rws_len]
            refine ⟨l, _, _, rfl, rfl, hl13, szl (by rw [List.length_map]; omega), ?_⟩
            have hrw : rws (rr ++ [(rowOf rr wr at_ d dA ri, firstR rr ri ((rr.length : Int) + 1))]) = rws rr ++ [rowOf rr wr at_ d dA ri] := List.map_append ..
            have tmL : ∀ o, TM K H13 (upd H13 l o) := fun o => tm_updL hl13
            refine ⟨_, _, ps1 ++ [p1], ps2 ++ [p2], rr ++ [(rowOf rr wr at_ d dA ri, firstR rr ri ((rr.length : Int) + 1))], tR ++ [tN2], rfl, ⟨(h111.ext E13).updL hl13 ap.k1, (hR11.ext E13).updL hl13 ap.k2, ?_, tmL _ _ _ (SqT.ext t311 E13)⟩, ⟨gok, eok, ?_, ?_⟩, ?_, ((sc11.ext E13).upd hl13 (by simp)), ?_⟩
            · refine ⟨upd_same.trans (by rw [List.map_append]; rfl), ?_, fun q hq => ?_⟩
              · rw [hrw, List.map_append]
                exact Paired.snoc ((hI11r.ts.tm (tmE E13)).tm (tmL _)) (tmL _ _ _ (SqT.of h13))
              · rw [hrw] at hq
                rcases List.mem_append.mp hq with z | z
                · exact tmL _ _ _ (SqT.ext (hI11r.ds q z) E13)
                · rw [List.mem_singleton.mp z]; exact tmL _ _ _ (SqT.ext hd1 E13)
            · rw [hrw]; exact Book.snoc hP.bk hok
            · rw [List.length_append]; show rr.length + 1 ≤ 60; omega
            · rw [List.length_append]; show rr.length + 1 ≤ _; omega
            · obtain ⟨g0, r0, hb, q⟩ := hB11
              exact ⟨g0, r0, (upd_ne nlb.symm).trans (E13 _ _ hb), q⟩
          · -- both are refused
            refine ⟨hI7.r1.tabs, fun H8 en8 t8 => ?_⟩
            have hI8 := hI7.en en8 t8
            refine ⟨_, rfl, c1.ro, c1.dx, _, rfl, hI8.r1.x, rfl, _, rfl, _, rfl, _, rfl, _, rfl, c1, A, g, es, ps1, rr, wr, at_, ri, d, dA, rfl, hI8.r1, hP, h60, hok, ExtN.t en8 hdA, fun z => absurd z hw, fun _ H9 d9 en9 t9 hx9 => ⟨rfl, d9, _, rfl, hx9, fun q1 H10 e10 hq1 => ?_⟩⟩
            have hI10 := (hI8.en en9 t9).ext e10
            have E10 : ExtN H7 H10 := (en8.trans en9).trans (extN_of e10)
            refine ⟨hI10.r1.tabs, fun H11 en11 t11 => ?_⟩
            have hI11 := hI10.en en11 t11
            refine ⟨_, rfl, c2.ro, c2.dx, _, rfl, hI11.r2.x, rfl, _, rfl, _, rfl, _, rfl, _, rfl, c2, A, g, es, ps2, rr, wr, at_, ri, d, dA, rfl, hI11.r2, hP, h60, hok, ExtN.t (E10.trans en11) hdA, fun z => absurd z hw, fun _ H12 d12 en12 t12 hx12 => ⟨rfl, d12, _, rfl, hx12, fun q2 H13 e13 hq2 => ?_⟩⟩
            have hI13 := (hI11.en en12 t12).ext e13
            have E13 : ExtN H7 H13 := ((E10.trans en11).trans en12).trans (extN_of e13)
            have hq1' := ExtN.t ((en11.trans en12).trans (extN_of e13)) hq1
            have sc13 := sc7.en E13
            have hB13 : Bag H13 b2 := (let ⟨g0, r0, hb, q⟩ := x7.bag; ⟨g0, r0, E13 _ _ hb (fun _ z => by cases z), q⟩)
            have hwm : whyR es rr at_ d ri ∈ whys := (done_why _ _ _ _).resolve_left hw
            have hws : PyData.strOk (whyR es rr at_ d ri) = true := by
              have : whys.all (fun k => PyData.strOk k) = true := by decide +kernel
              exact List.all_eq_true.mp this _ hwm
            generalize whyR es rr at_ d ri = why at hq1' hq2 hws ⊢
            refine ⟨_, rfl, _, _, _, _, _, rfl, .ty _, tyTup hq1', k_tt, _, rfl, _, _, _, _, _, rfl, .ty _, tyTup hq2, k_tt, rfl, false, rfl, iteF ?_⟩
            have dpR : ∀ {q : Addr}, SqT K H13 q [.str "refused", .str "NotDone", .str why, .bl true] → Dp K H13 (.ref q) (.tuple [.str "refused", .str "NotDone", .str why, .bool true]) := fun h => .tup h (.cons (.str _) (.cons (.str _) (.cons (.str _) (.cons (.bl _) .nil))))
            have layR : PyData.canLay0 (.tuple [.str "refused", .str "NotDone", .str why, .bool true]) = true := by
              show (PyData.strOk "refused" && (PyData.strOk "NotDone" && (PyData.strOk why && (true && true)))) = true
              rw [hws]; decide +kernel
            have shR : SeqAt.shaped (.tuple [.str "refused", .str "NotDone", .str why, .bool true]) = true := by
              unfold SeqAt.shaped
              rw [layR, Bool.true_and]
              exact decide_eq_true (by show max 0 (max 0 (max 0 (max 0 0))) + 1 ≤ 64; decide)
            refine ⟨_, rfl, _, rfl, .inr ⟨_, _, dpR hq1', dpR hq2, shR, shR, false, by rw [SeqAt.eqv_refl _ layR]; rfl, iteF ?_⟩⟩
            refine ⟨LMid K Tb l A g es c1 c2 a ns b2 i (some (.int (0 + i))) (some (.int wr)) (some (.int at_)) (some (.ref dA)) (some (.int ri)) v15, ?_, tail⟩
            refine ⟨_, rfl, _, _, _, _, _, rfl, .ty _, tyTup hq1', k_tt, true, rfl, iteF ?_⟩
            exact ⟨_, _, ps1, ps2, rr, tR, rfl, hI13, hP, by omega, sc13, hB13⟩
        case tail =>
          rintro _ H8 ⟨v13, v14, ps1, ps2, rr, tR, rfl, hI, hP, hri, sc, hB⟩
          have hdv : ∀ r ∈ rws rr, r.deed.vs.all isV = true := fun r hr => by
            obtain ⟨j, hj⟩ := List.mem_iff_getElem?.mp hr
            exact deed_isV gok eok (hP.bk.at j r hj).deed
          have hlr : (rws rr).length ≤ 60 := by rw [rws_len]; exact hP.len
          -- _law_found
          refine ⟨_, rfl, c1.ro, c1.dx, _, rfl, hI.r1.x, rfl, c1, A, g, es, ps1, rr, rfl, hI.r1, hP, fun H9 L9 e9 h9 _ => ?_⟩
          have hI9 := hI.ext e9
          refine ⟨L9, rfl, ⟨_, SqL.of h9⟩, fun D9 hD9 => ?_⟩
          refine lc_list (xs := ps1.map V.ref) (fun j H' => ∃ os : List Addr, Ext H9 H' ∧ Rows K H' os (((rws rr).take j).map RowD.enc) ∧ H' D9 = some (.lst (os.map V.ref))) ⟨[], Ext.upd hD9, .nil, upd_same⟩ (fun j H' _ ⟨_, e, _⟩ => SqL.of (e _ _ h9)) ?_ ?_
          · rintro j y H10 hy ⟨os, e, hos, hDD⟩
            obtain ⟨p, hp, rfl⟩ := map_at hy
            obtain ⟨q, hq, ⟨dx, ho⟩, hqd⟩ := hI9.r1.at hp
            have hjr : (rws rr)[j]? = some q.1 := by unfold rws; rw [List.getElem?_map, hq]; rfl
            have hj' := (List.getElem?_eq_some_iff.mp hjr).1
            have ho' := e _ _ ho
            refine ⟨rfl, ?_⟩
            refine ⟨_, rfl, p, _, dx, _, _, rfl, ho', T.c_Row, T.n_Row_number, rfl, _, rfl, p, _, dx, _, _, rfl, ho', T.c_Row, T.n_Row_written, rfl, _, rfl, p, _, dx, _, _, rfl, ho', T.c_Row, T.n_Row_at, rfl, _, rfl, p, _, dx, _, _, rfl, ho', T.c_Row, T.n_Row_deed, rfl, _, rfl, p, _, dx, _, _, rfl, ho', T.c_Row, T.n_Row_right, rfl, sz rfl, fun tN3 htN3 => ?_⟩
            generalize hg11 : upd H10 tN3 _ = H11
            obtain ⟨e11, h11, _⟩ := newF htN3 hg11
            have los : os.length = j := by have := hos.length; rw [List.length_map, List.length_take] at this; omega
            refine ⟨_, e11 _ _ hDD, szl (by rw [List.length_map]; omega), os ++ [tN3], updE (e.trans e11) hD9, ?_, ?_⟩
            · rw [take_map_snoc hjr]
              have tm : TM K H10 (upd H11 D9 (.lst (os.map V.ref ++ [V.ref tN3]))) := (tmE e11).trans (tm_updL (e11 _ _ hDD))
              exact Paired.snoc (hos.tm tm) (tm_updL (e11 _ _ hDD) _ _ (SqT.of h11))
            · rw [upd_same, List.map_append]; rfl
          · rintro H10 ⟨os, e10, hos, hD10⟩
            rw [List.length_map, hI9.r1.plen, ← rws_len rr, List.take_length] at hos
            have hI10 := hI9.ext e10
            have eqR : PyData.eqv (.list ((rws rr).map dRow)) (.list ((rws rr).map dRow)) = true := SeqAt.eqv_refl _ (show PyData.canLay0 (.list ((rws rr).map dRow)) = true from lay_rows' hdv)
            -- the same rows
            refine ⟨_, rfl, _, rfl, _, _, .lst (SqL.of hD10) (dp_encs hos fun r hr => ⟨hI10.rows.ds r hr, hdv r hr⟩), .lst (SqL.of hI10.rows.l) (dp_encs hI10.rows.ts fun r hr => ⟨hI10.rows.ds r hr, hdv r hr⟩), shaped_rows hdv, shaped_rows hdv, false, by rw [eqR]; rfl, iteF ?_⟩
            -- a book
            refine ⟨_, rfl, l, tR, rws rr, g, es, rfl, hI10.rows, hP.bk, hlr, fun H11 e11 => ⟨true, rfl, iteF ?_⟩⟩
            have hI11 := hI10.ext e11
            -- the void ones
            refine ⟨_, rfl, _, rfl, c1, A, g, es, ps1, rr, l, tR, rfl, hI11.r1, hP, hI11.rows, fun H12 en12 t12 => ⟨true, rfl, iteF ?_⟩⟩
            have hI12 := hI11.en en12 t12
            have E12 : ExtN H8 H12 := (extN_of ((e9.trans e10).trans e11)).trans en12
            have sc12 := sc.en E12
            have hB12 : Bag H12 b2 := (let ⟨g0, r0, hb, q⟩ := hB; ⟨g0, r0, E12 _ _ hb (fun _ z => by cases z), q⟩)
            -- calls
            refine ⟨_, rfl, c1.ro, c1.dx, _, rfl, hI12.r1.x, rfl, _, rfl, b2, 10000, rfl, by decide, by decide, hB12, fun dg H13 dg0 dg1 x13 => ?_⟩
            have hI13 := hI12.bag x13 nk1 nk2 nlb
            have sc13 := sc12.bag x13 (List.mem_cons_self ..)
            refine ⟨c1, A, g, es, ps1, rr, dg, rfl, hI13.r1, hP, fun H14 v14' en14 t14 => ?_⟩
            have hI14 := hI13.en en14 t14
            have sc14 := sc13.en en14
            have hB14 : Bag H14 b2 := (let ⟨g0, r0, hb, q⟩ := x13.bag; ⟨g0, r0, en14 _ _ hb (fun _ z => by cases z), q⟩)
            -- engine
            have le : A.tE.length = es.length := by have := hI14.r1.ea.es.length; rwa [List.length_map] at this
            have e1' := eok.e1
            have e24' := eok.e24
            refine ⟨_, rfl, c1.ro, c1.dx, _, rfl, hI14.r1.x, rfl, _, rfl, _, rfl, _, rfl, A.E, _, rfl, .inr hI14.r1.ea.e, b2, _, rfl, ?_, ?_, hB14, fun dg2 H15 dg20 dg21 x15 => ?_⟩
            · rw [List.length_map, le]; omega
            · rw [List.length_map, le]; omega
            rw [List.length_map, le] at dg21
            obtain ⟨j, rfl⟩ := Int.eq_ofNat_of_zero_le dg20
            have hI15 := hI14.bag x15 nk1 nk2 nlb
            have sc15 := sc14.bag x15 (List.mem_cons_self ..)
            have hj : es[j]? = some es[j] := List.getElem?_eq_getElem (by omega)
            obtain ⟨tj, htj, hrow⟩ := Paired.at hI15.r1.ea.es (i := j) (b := encE es[j]) (by rw [List.getElem?_map, hj]; rfl)
            refine ⟨A.E, _, _, _, rfl, rfl, hI15.r1.ea.e, atI_nat (by rw [List.getElem?_map, htj]; rfl), tj, _, _, _, rfl, rfl, hrow, rfl, _, rfl, c1, A, g, es, ps1, rr, at_, es[j].1, rfl, hI15.r1, hP, List.mem_map_of_mem (List.getElem_mem _), fun H16 v16' en16 t16 => ?_⟩
            exact ⟨_, _, _, _, _, _, _, _, _, ps1, ps2, rr, tR, rfl, hI15.en en16 t16, hP, hri, (sc15.en en16).sub fun x hx => List.mem_cons_of_mem _ hx⟩
      · rintro σ' H5 ⟨v1, v7, v9, v10, v11, v12, v13, v14, v15, ps1, ps2, rr, tR, rfl, hI, hP, hri, sc⟩
        -- _law_texts
        refine ⟨_, rfl, _, rfl, sz rfl, fun tp htp => ?_⟩
        generalize hg6 : upd H5 tp _ = H6
        obtain ⟨e6, h6, _⟩ := newF htp hg6
        have hI6 := hI.ext e6
        refine ⟨tp, rfl, ⟨_, SqT.of h6⟩, fun D6 hD6 => ?_⟩
        refine lc_it walk_tup (fun j H' => ∃ ls : List Addr, Ext H6 H' ∧ ls.length = j ∧ (∀ x ∈ ls, H' x = some (.lst (((rws rr).map textR).map V.str))) ∧ H' D6 = some (.lst (ls.map V.ref))) ⟨[], Ext.upd hD6, rfl, fun _ h => absurd h (by simp), upd_same⟩ (fun j H' _ ⟨_, e, _⟩ => SqT.of (e _ _ h6)) ?_ ?_
        · rintro j y H7 H7' hj ⟨ls, e7, hlj, hls, hDD⟩ ⟨rfl, hy⟩
          obtain ⟨c, ps, rfl, hR⟩ : ∃ c ps, y = .ref c.ro ∧ RoomAt K Tb H6 c A g es ps rr := by
            match j, hy with
            | 0, hy => exact ⟨c2, ps2, (Option.some.inj hy).symm, hI6.r2⟩
            | 1, hy => exact ⟨c1, ps1, (Option.some.inj hy).symm, hI6.r1⟩
            | j + 2, hy => simp at hy
          have hR7 := hR.ext e7
          refine ⟨rfl, ?_⟩
          refine ⟨_, rfl, c.ro, c.dx, _, rfl, hR7.x, rfl, c, A, g, es, ps, rr, rfl, hR7, hP, fun H8 L8 e8 h8 _ => ?_⟩
          have hR8 := hR7.ext e8
          refine ⟨L8, rfl, ⟨_, SqL.of h8⟩, fun D9 hD9 => ?_⟩
          refine lc_list (xs := ps.map V.ref) (fun m H' => Ext H8 H' ∧ H' D9 = some (.lst ((((rws rr).take m).map textR).map V.str))) ⟨Ext.upd hD9, upd_same⟩ (fun m H' _ ⟨e, _⟩ => SqL.of (e _ _ h8)) ?_ ?_
          · rintro m y H10 hy ⟨e, hDm⟩
            obtain ⟨p, hp, rfl⟩ := map_at hy
            obtain ⟨q, hq, ⟨dx, ho⟩, hqd⟩ := hR8.at hp
            have hjr : (rws rr)[m]? = some q.1 := by unfold rws; rw [List.getElem?_map, hq]; rfl
            have hj' := (List.getElem?_eq_some_iff.mp hjr).1
            have hlr : (rws rr).length ≤ 60 := by rw [rws_len]; exact hP.len
            refine ⟨rfl, ?_⟩
            refine ⟨_, rfl, p, dx, _, rfl, e _ _ ho, p, q.1, rfl, rowT hP hq ⟨⟨dx, e _ _ ho⟩, SqT.ext hqd e⟩, fun H11 e11 => ⟨textR q.1, rfl, _, e11 _ _ hDm, szl (by rw [List.length_map, List.length_map, List.length_take]; omega), updE (e.trans e11) hD9, ?_⟩⟩
            rw [upd_same, take_map_snoc hjr, List.map_append]; rfl
          · rintro H10 ⟨e10, h10⟩
            rw [List.length_map, hR8.plen, ← rws_len rr, List.take_length] at h10
            have E10 := e8.trans e10
            have n9 : D9 ≠ D6 := (ne_of_none (e8 _ _ hDD) hD9).symm
            have h610 := E10 _ _ hDD
            refine ⟨_, h610, szl (by rw [List.length_map]; have hj2 : j < 2 := hj; omega), ls ++ [D9], updE (e7.trans E10) hD6, by rw [List.length_append, hlj]; rfl, fun x hx => ?_, by rw [upd_same, List.map_append]; rfl⟩
            rcases List.mem_append.mp hx with z | z
            · have hx6 : x ≠ D6 := fun q => by
                have := hls x z
                rw [q, hDD] at this
                have this := Option.some.inj this
                injection this with this
                cases hrr : (rws rr) with
                | nil =>
                  rw [hrr] at this
                  have hl0 : ls = [] := by simpa using this
                  rw [hl0] at z
                  simp at z
                | cons r0 rs0 =>
                  rw [hrr] at this
                  cases ls with
                  | nil => simp at z
                  | cons l0 ls0 => simp at this
              exact (upd_ne hx6).trans (E10 _ _ (hls x z))
            · rw [List.mem_singleton.mp z]; exact (upd_ne n9).trans h10
        · rintro H7 ⟨ls, e7, hlj, hls, hDD⟩
          obtain ⟨x1, x2, rfl⟩ : ∃ x1 x2, ls = [x1, x2] := match ls, hlj with
            | [x1, x2], _ => ⟨x1, x2, rfl⟩
          have hI7 := hI6.ext e7
          -- the rooms are equal
          refine ⟨_, rfl, _, rfl, ⟨c2.ro, c1.ro, _, _, _, _, rfl, rfl, hI7.r2.x, hI7.r1.x, rooms_eq hI7.r1 hI7.r2 gok eok⟩, fun H8 e8 => ⟨true, rfl, iteT ?_⟩⟩
          have hI8 := hI7.ext e8
          obtain ⟨sub, vo⟩ := void_ok hP.bk es
          -- their void rows are
          refine ⟨_, rfl, c2.ro, c2.dx, _, rfl, hI8.r2.x, rfl, c2, A, g, es, ps2, rr, rfl, hI8.r2, hP, fun H9 vl9 vts9 en9 t9 hv9 hvr9 => ?_⟩
          have hI9 := hI8.en en9 t9
          refine ⟨_, rfl, c1.ro, c1.dx, _, rfl, hI9.r1.x, rfl, c1, A, g, es, ps1, rr, rfl, hI9.r1, hP, fun H10 vl10 vts10 en10 t10 hv10 hvr10 => ?_⟩
          have vV := void_isV vo
          refine ⟨_, _, .lst (SqL.of (en10 _ _ hv9 fun _ z => by cases z)) (dp_rows (hvr9.tm (ExtN.tm en10)) vV), .lst (SqL.of hv10) (dp_rows hvr10 vV), shaped_rs vV, shaped_rs vV, true, congrArg V.bl (SeqAt.eqv_refl _ (show PyData.canLay0 (.list _) = true from lay_rs vV)), iteT ?_⟩
          -- their texts are
          have E10 : ExtN H7 H10 := ((extN_of e8).trans en9).trans en10
          have hD10 := E10 _ _ hDD fun _ z => by cases z
          refine ⟨_, rfl, D6, _, _, _, rfl, rfl, SqL.of hD10, rfl, _, rfl, D6, _, _, _, rfl, rfl, SqL.of hD10, rfl, ⟨x1, x2, _, _, rfl, rfl, E10 _ _ (hls x1 (by simp)) (fun _ z => by cases z), E10 _ _ (hls x2 (by simp)) (fun _ z => by cases z), prs_strs _ _⟩, fun H11 e11 => k _⟩
end
end K36
/-! text KAll -/
/-! every def of the walk keeps its promise -/
namespace K36
open PySem PySem.Spec PyProof.Rows L2
section
variable {P : Program} {w : World} {K : PySem.W.Frag} {mg : Str → Option Value} {base : Heap}
theorem law_all (T : Tx w K mg) (Y : Ty K) (N : Nd K mg) (NX : NdX K) (O : OwnC K) {Tb : List (Addr × Str)} (LF : LamF K mg base Tb (He.ga K "law") lawQ) (LR : LamF K mg base Tb (He.ma K (He.ga K "Room") "replay") lamQ) :
    FnM P w K mg base 10 "law" "law" (defArgs s_law) (defBody s_law) (defScope s_law) [] (He.ga K "law") ["_law_script"] (sp_law K Tb) := by
  have take := ok_take (P := P) (base := base) T
  have bag := ok_bag (P := P) (base := base) T
  have names := ok_names (P := P) (base := base) T take
  have ground := ok_ground (P := P) (base := base) T take names
  have engines := ok_engines (P := P) (base := base) T take names
  have house := ok_house (P := P) (base := base) T ground engines
  have kind := ok_kind (P := P) (base := base) T take
  have deed := ok_deed (P := P) (base := base) T take kind
  have calls_of := ok_calls_of (P := P) (base := base) T
  have next := ok_next (P := P) (base := base) T take deed calls_of
  have is_whole := ok_is_whole (P := P) (base := base) T
  have is_name := ok_is_name (P := P) (base := base) T
  have is_one_of := ok_is_one_of (P := P) (base := base) T
  have is_one_ofD := ok_is_one_ofD (P := P) (base := base) T
  have is_tuple_of := ok_is_tuple_of (P := P) (base := base) T
  have is_kind := ok_is_kind (P := P) (base := base) T Y is_one_of
  have is_place := ok_is_place (P := P) (base := base) T is_tuple_of is_name is_whole
  have places_fault := ok_places_fault (P := P) (base := base) T is_place
  have is_road := ok_is_road (P := P) (base := base) T is_tuple_of is_one_ofD is_whole
  have roads_fault := ok_roads_fault (P := P) (base := base) T is_road
  have stations_fault := ok_stations_fault (P := P) (base := base) T is_one_ofD
  have need := ok_need (P := P) (base := base) T
  have is_engine := ok_is_engine (P := P) (base := base) T Y is_tuple_of is_name is_one_of is_whole
  have are_unlike := ok_are_unlike (P := P) (base := base) T
  have are_engines := ok_are_engines (P := P) (base := base) T is_engine are_unlike
  have plain_roads := ok_plain_roads (P := P) (base := base) T
  have Ground := ok_Ground_init (P := P) (base := base) T need places_fault roads_fault stations_fault
  have is_sort := ok_is_sort (P := P) (base := base) T is_whole is_kind is_one_of
  have fault := ok_fault (P := P) (base := base) T Y is_one_of is_sort
  have State := ok_State_init (P := P) (base := base) T
  have is_open := ok_is_open (P := P) (base := base) T
  have done := ok_done (P := P) (base := base) T Y (does_all T)
  have replay := ok_replay (P := P) (base := base) T Tb LR State done
  have state := ok_rstate (P := P) (base := base) T replay
  have rows := ok_rows (P := P) (base := base) T (Tb := Tb)
  have void := ok_void (P := P) (base := base) T replay
  have calls := FnM.met (ok_calls (P := P) (base := base) T state is_open) T.c_Room T.m_Room_calls 2 1 (by simp) rfl fun T kV doc pm an cdv ct us its h1 h2 => match us, its, h1, h2 with | [_, _], [_], _, _ => ⟨_, rfl, rfl⟩
  have engine := FnM.met (ok_engine (P := P) (base := base) T state) T.c_Room T.m_Room_engine 3 1 (by simp) rfl fun T kV doc pm an cdv ct us its h1 h2 => match us, its, h1, h2 with | [_, _, _], [_], _, _ => ⟨_, rfl, rfl⟩
  have Row := mak_Row (P := P) (base := base) T
  have Room := ok_Room_init (P := P) (base := base) T are_engines
  have look_minutes := ok_look_minutes (P := P) (base := base) T (Tb := Tb) is_whole
  have look_right := ok_look_right (P := P) (base := base) T (Tb := Tb) is_whole
  have ndi := ok_NotDone_init (P := P) (w := w) (base := base) T N
  have write := ok_write (P := P) (base := base) T N ndi replay fault look_minutes look_right done Row
  have five := ok_five (P := P) (base := base) T
  have row_eq := ok_row_eq (P := P) (base := base) T O five
  have ground_eq := ok_ground_eq (P := P) (base := base) T O plain_roads
  have room_eq := ok_room_eq (P := P) (base := base) T O ground_eq row_eq
  have shown := ok_shown (P := P) (base := base) T
  have text_of := ok_text_of (P := P) (base := base) T shown
  have row_str := ok_row_str (P := P) (base := base) T text_of
  have is_book := ok_is_book (P := P) (base := base) T
  have void_holds := ok_void_holds (P := P) (base := base) T void
  exact ok_law T N NX O LF write row_eq room_eq row_str bag house Ground Room next take is_book void_holds rows void calls engine
end
end K36
/-! text KHeadB -/
namespace K36
open PySem L2
theorem moreB {K : PySem.W.Frag} (c : ex K = true) (i : Nat) {f : PySem.W.Frag → Bool} (h : exs[i]? = some f) : f K = true := List.all_eq_true.mp c f (List.mem_of_getElem? h)
theorem reB_ok {K : PySem.W.Frag} {C : Addr} (q : reB K C = true) : ∃ nm q N bs sn sub ab col dd k0 k1 k2 k3 k5, K.lookup C = some (excClassObj nm q C N bs reTail true sn sub ab col dd k0 k1 k2 k3 k5 "RuntimeError.__new__") := by
  unfold reB at q
  split at q
  · rename_i t dd cd sl ho
    obtain ⟨h1, q⟩ := He.ba q
    obtain ⟨h2, q⟩ := He.ba q
    obtain ⟨h3, q⟩ := He.ba q
    obtain ⟨h4, q⟩ := He.ba q
    have h1 := of_decide_eq_true h1
    have h2 := of_decide_eq_true h2
    split at q
    · rename_i k0 k1 k2 k3 n k5 hs
      have h5 := of_decide_eq_true q
      obtain ⟨nm, bs, mro, ns, qn, hd, sn, sub, ab, col, del⟩ := cd
      replace h2 : mro = .ref C :: reTail := h2
      replace h3 : hd = true := h3
      replace h4 : (!del) = true := h4
      replace h4 : del = false := by
        cases del with
        | false => rfl
        | true => cases h4
      have hsl : sl = #[k0, k1, k2, k3, some (.builtin n), k5] := by
        obtain ⟨l⟩ := sl
        have hs : l = _ := hs
        rw [hs]
      subst h1 h2 h3 h4 h5 hsl
      exact ⟨nm, qn, ns, bs, sn, sub, ab, col, dd, k0, k1, k2, k3, k5, ho⟩
    · cases q
  · cases q

theorem tx_of {w : World} {K : PySem.W.Frag} {h : Heap} {mg : Str → Option Value} (X : K.In h) (G : h.Ns mainGlobals mg) (c : He.SaysX fa fn ts tf ex w h K) : Tx w K mg where
  g_is_whole := He.glo_ok X G (c.t.d.fact 0 rfl)
  g_is_name := He.glo_ok X G (c.t.d.fact 1 rfl)
  g_is_one_of := He.glo_ok X G (c.t.d.fact 2 rfl)
  g_is_tuple_of := He.glo_ok X G (c.t.d.fact 3 rfl)
  g_are_unlike := He.glo_ok X G (c.t.d.fact 4 rfl)
  g_is_engine := He.glo_ok X G (c.t.d.fact 5 rfl)
  g_are_engines := He.glo_ok X G (c.t.d.fact 6 rfl)
  g_is_kind := He.glo_ok X G (c.t.d.fact 7 rfl)
  g_is_place := He.glo_ok X G (c.t.d.fact 8 rfl)
  g_places_fault := He.glo_ok X G (c.t.d.fact 9 rfl)
  g_is_road := He.glo_ok X G (c.t.d.fact 10 rfl)
  g_roads_fault := He.glo_ok X G (c.t.d.fact 11 rfl)
  g_stations_fault := He.glo_ok X G (c.t.d.fact 12 rfl)
  g_need := He.glo_ok X G (c.t.d.fact 13 rfl)
  g_plain_roads := He.glo_ok X G (c.t.d.fact 14 rfl)
  g_is_sort := He.glo_ok X G (c.t.d.fact 15 rfl)
  g_fault := He.glo_ok X G (c.t.d.fact 16 rfl)
  g_shown := He.glo_ok X G (c.t.d.fact 17 rfl)
  g_text_of := He.glo_ok X G (c.t.d.fact 18 rfl)
  g_do_call := He.glo_ok X G (c.t.d.fact 19 rfl)
  g_do_again := He.glo_ok X G (c.t.d.fact 20 rfl)
  g_do_make := He.glo_ok X G (c.t.d.fact 21 rfl)
  g_do_stop := He.glo_ok X G (c.t.d.fact 22 rfl)
  g_do_send := He.glo_ok X G (c.t.d.fact 23 rfl)
  g_do_there := He.glo_ok X G (c.t.d.fact 24 rfl)
  g_do_back := He.glo_ok X G (c.t.d.fact 25 rfl)
  g_do_home := He.glo_ok X G (c.t.d.fact 26 rfl)
  g_do_off := He.glo_ok X G (c.t.d.fact 27 rfl)
  g_do_stand := He.glo_ok X G (c.t.d.fact 28 rfl)
  g_do_lend := He.glo_ok X G (c.t.d.fact 29 rfl)
  g_do_shut := He.glo_ok X G (c.t.d.fact 30 rfl)
  g_do_nothing := He.glo_ok X G (c.t.d.fact 31 rfl)
  g_done := He.glo_ok X G (c.t.d.fact 32 rfl)
  g_law_bag := He.glo_ok X G (c.t.d.fact 33 rfl)
  g_law_take := He.glo_ok X G (c.t.d.fact 34 rfl)
  g_law_names := He.glo_ok X G (c.t.d.fact 35 rfl)
  g_law_ground := He.glo_ok X G (c.t.d.fact 36 rfl)
  g_law_engines := He.glo_ok X G (c.t.d.fact 37 rfl)
  g_law_house := He.glo_ok X G (c.t.d.fact 38 rfl)
  g_law_deed := He.glo_ok X G (c.t.d.fact 39 rfl)
  g_law_kind := He.glo_ok X G (c.t.d.fact 40 rfl)
  g_law_calls_of := He.glo_ok X G (c.t.d.fact 41 rfl)
  g_law_next := He.glo_ok X G (c.t.d.fact 42 rfl)
  g_law_try := He.glo_ok X G (c.t.d.fact 43 rfl)
  g_law_is_book := He.glo_ok X G (c.t.d.fact 44 rfl)
  g_law_void_holds := He.glo_ok X G (c.t.d.fact 45 rfl)
  g_law := He.glo_ok X G (c.t.d.fact 46 rfl)
  g_Ground := He.glo_ok X G (c.t.d.fact 47 rfl)
  g_Row := He.glo_ok X G (c.t.d.fact 48 rfl)
  g_State := He.glo_ok X G (c.t.d.fact 49 rfl)
  g_Room := He.glo_ok X G (c.t.d.fact 50 rfl)
  g_NotDone := He.glo_ok X G (c.t.d.fact 51 rfl)
  g_NoDeed := He.glo_ok X G (c.t.d.fact 52 rfl)
  g_BadTime := He.glo_ok X G (c.t.d.fact 53 rfl)
  g_NoRow := He.glo_ok X G (c.t.d.fact 54 rfl)
  g_TooMany := He.glo_ok X G (c.t.d.fact 55 rfl)
  g_NoEngine := He.glo_ok X G (c.t.d.fact 56 rfl)
  g_NoCall := He.glo_ok X G (c.t.d.fact 57 rfl)
  g_NoBook := He.glo_ok X G (c.t.d.fact 58 rfl)
  g_SORTS := He.glo_ok X G (c.t.d.fact 59 rfl)
  g_DUE := He.glo_ok X G (c.t.d.fact 60 rfl)
  g_FORMS := He.glo_ok X G (c.t.d.fact 61 rfl)
  g_DOING := He.glo_ok X G (c.t.d.fact 62 rfl)
  b_len := He.free_ok X G (c.t.d.fact 63 rfl)
  b_isinstance := He.free_ok X G (c.t.d.fact 64 rfl)
  b_int := He.free_ok X G (c.t.d.fact 65 rfl)
  b_bool := He.free_ok X G (c.t.d.fact 66 rfl)
  b_str := He.free_ok X G (c.t.d.fact 67 rfl)
  b_tuple := He.free_ok X G (c.t.d.fact 68 rfl)
  b_list := He.free_ok X G (c.t.d.fact 69 rfl)
  b_all := He.free_ok X G (c.t.d.fact 70 rfl)
  b_any := He.free_ok X G (c.t.d.fact 71 rfl)
  b_range := He.free_ok X G (c.t.d.fact 72 rfl)
  b_max := He.free_ok X G (c.t.d.fact 73 rfl)
  b_min := He.free_ok X G (c.t.d.fact 74 rfl)
  b_sorted := He.free_ok X G (c.t.d.fact 75 rfl)
  b_abs := He.free_ok X G (c.t.d.fact 76 rfl)
  b_set := He.free_ok X G (c.t.d.fact 77 rfl)
  b_dict := He.free_ok X G (c.t.d.fact 78 rfl)
  b_frozenset := He.free_ok X G (c.t.d.fact 79 rfl)
  b_enumerate := He.free_ok X G (c.t.d.fact 80 rfl)
  b_divmod := He.free_ok X G (c.t.d.fact 81 rfl)
  b_KeyError := He.free_ok X G (c.t.d.fact 82 rfl)
  b_ValueError := He.free_ok X G (c.t.d.fact 83 rfl)
  b_IndexError := He.free_ok X G (c.t.d.fact 84 rfl)
  b_OverflowError := He.free_ok X G (c.t.d.fact 85 rfl)
  b_RuntimeError := He.free_ok X G (c.t.d.fact 86 rfl)
  b_LookupError := He.free_ok X G (c.t.d.fact 87 rfl)
  k_MOST_LETTERS := (let ⟨t, e⟩ := He.int_ok X G (c.t.d.fact 88 rfl); ⟨_, e, t, rfl⟩)
  k_MOST_ENGINES := (let ⟨t, e⟩ := He.int_ok X G (c.t.d.fact 89 rfl); ⟨_, e, t, rfl⟩)
  k_MOST_SEATS := (let ⟨t, e⟩ := He.int_ok X G (c.t.d.fact 90 rfl); ⟨_, e, t, rfl⟩)
  k_MOST_PUMPS := (let ⟨t, e⟩ := He.int_ok X G (c.t.d.fact 91 rfl); ⟨_, e, t, rfl⟩)
  k_MOST_PLACES := (let ⟨t, e⟩ := He.int_ok X G (c.t.d.fact 92 rfl); ⟨_, e, t, rfl⟩)
  k_MOST_ROADS := (let ⟨t, e⟩ := He.int_ok X G (c.t.d.fact 93 rfl); ⟨_, e, t, rfl⟩)
  k_MOST_STATIONS := (let ⟨t, e⟩ := He.int_ok X G (c.t.d.fact 94 rfl); ⟨_, e, t, rfl⟩)
  k_MOST_RISK := (let ⟨t, e⟩ := He.int_ok X G (c.t.d.fact 95 rfl); ⟨_, e, t, rfl⟩)
  k_MOST_MINUTES := (let ⟨t, e⟩ := He.int_ok X G (c.t.d.fact 96 rfl); ⟨_, e, t, rfl⟩)
  k_MOST_CALLS := (let ⟨t, e⟩ := He.int_ok X G (c.t.d.fact 97 rfl); ⟨_, e, t, rfl⟩)
  k_DAY := (let ⟨t, e⟩ := He.int_ok X G (c.t.d.fact 98 rfl); ⟨_, e, t, rfl⟩)
  k_HOUR := (let ⟨t, e⟩ := He.int_ok X G (c.t.d.fact 99 rfl); ⟨_, e, t, rfl⟩)
  k_LAST_MINUTE := (let ⟨t, e⟩ := He.int_ok X G (c.t.d.fact 100 rfl); ⟨_, e, t, rfl⟩)
  k_MOST_ROWS := (let ⟨t, e⟩ := He.int_ok X G (c.t.d.fact 101 rfl); ⟨_, e, t, rfl⟩)
  k_LETTERS := (let ⟨t, e⟩ := He.str_ok X G (c.t.d.fact 102 rfl); ⟨_, e, t, rfl⟩)
  c_Ground := He.cls_ok (c.t.d.fact 103 rfl)
  mk_Ground := He.mkr_ok (c.t.d.fact 104 rfl)
  n_Ground_places := He.noat_ok (c.t.d.fact 105 rfl)
  n_Ground_roads := He.noat_ok (c.t.d.fact 106 rfl)
  n_Ground_stations := He.noat_ok (c.t.d.fact 107 rfl)
  n_Ground_risks := He.noat_ok (c.t.d.fact 108 rfl)
  m_Ground_eq := He.meth_ok (c.t.d.fact 109 rfl)
  c_Row := He.cls_ok (c.t.d.fact 110 rfl)
  mk_Row := He.mkr_ok (c.t.d.fact 111 rfl)
  n_Row_number := He.noat_ok (c.t.d.fact 112 rfl)
  n_Row_written := He.noat_ok (c.t.d.fact 113 rfl)
  n_Row_at := He.noat_ok (c.t.d.fact 114 rfl)
  n_Row_deed := He.noat_ok (c.t.d.fact 115 rfl)
  n_Row_right := He.noat_ok (c.t.d.fact 116 rfl)
  m_Row_five := He.meth_ok (c.t.d.fact 117 rfl)
  m_Row_eq := He.meth_ok (c.t.d.fact 118 rfl)
  m_Row_str := He.meth_ok (c.t.d.fact 119 rfl)
  c_State := He.cls_ok (c.t.d.fact 120 rfl)
  mk_State := He.mkr_ok (c.t.d.fact 121 rfl)
  n_State_stands := He.noat_ok (c.t.d.fact 122 rfl)
  n_State_told := He.noat_ok (c.t.d.fact 123 rfl)
  n_State_closed := He.noat_ok (c.t.d.fact 124 rfl)
  m_State_is_open := He.meth_ok (c.t.d.fact 125 rfl)
  m_State_under := He.meth_ok (c.t.d.fact 126 rfl)
  m_State_put := He.meth_ok (c.t.d.fact 127 rfl)
  c_Room := He.cls_ok (c.t.d.fact 128 rfl)
  mk_Room := He.mkr_ok (c.t.d.fact 129 rfl)
  n_Room_ground := He.noat_ok (c.t.d.fact 130 rfl)
  n_Room_engines := He.noat_ok (c.t.d.fact 131 rfl)
  n_Room_kept := He.noat_ok (c.t.d.fact 132 rfl)
  n_Room_first := He.noat_ok (c.t.d.fact 133 rfl)
  n_Room_dead := He.noat_ok (c.t.d.fact 134 rfl)
  m_Room_eq := He.meth_ok (c.t.d.fact 135 rfl)
  m_Room_replay := He.meth_ok (c.t.d.fact 136 rfl)
  m_Room_state := He.meth_ok (c.t.d.fact 137 rfl)
  m_Room_look_minutes := He.meth_ok (c.t.d.fact 138 rfl)
  m_Room_look_right := He.meth_ok (c.t.d.fact 139 rfl)
  m_Room_write := He.meth_ok (c.t.d.fact 140 rfl)
  m_Room_rows := He.meth_ok (c.t.d.fact 141 rfl)
  m_Room_void := He.meth_ok (c.t.d.fact 142 rfl)
  m_Room_engine := He.meth_ok (c.t.d.fact 143 rfl)
  m_Room_calls := He.meth_ok (c.t.d.fact 144 rfl)
  x_NoDeed := He.exm_ok (c.t.d.fact 145 rfl)
  x_BadTime := He.exm_ok (c.t.d.fact 146 rfl)
  x_NoRow := He.exm_ok (c.t.d.fact 147 rfl)
  x_TooMany := He.exm_ok (c.t.d.fact 148 rfl)
  x_NotDone := He.exm_ok (c.t.d.fact 149 rfl)
  t_DUE := c.t.tab 0 rfl
  t_FORMS := c.t.tab 1 rfl
  t_DOING := c.t.tab 2 rfl
  F_is_whole := c.t.d.def_ 0 rfl
  F_is_name := c.t.d.def_ 1 rfl
  F_is_one_of := c.t.d.def_ 2 rfl
  F_is_tuple_of := c.t.d.def_ 3 rfl
  F_NotDone_init := c.t.d.def_ 4 rfl
  F_are_unlike := c.t.d.def_ 5 rfl
  F_is_engine := c.t.d.def_ 6 rfl
  F_are_engines := c.t.d.def_ 7 rfl
  F_is_kind := c.t.d.def_ 8 rfl
  F_is_place := c.t.d.def_ 9 rfl
  F_places_fault := c.t.d.def_ 10 rfl
  F_is_road := c.t.d.def_ 11 rfl
  F_roads_fault := c.t.d.def_ 12 rfl
  F_stations_fault := c.t.d.def_ 13 rfl
  F_need := c.t.d.def_ 14 rfl
  F_plain_roads := c.t.d.def_ 15 rfl
  F_Ground_init := c.t.d.def_ 16 rfl
  F_Ground_eq := c.t.d.def_ 17 rfl
  F_is_sort := c.t.d.def_ 18 rfl
  F_fault := c.t.d.def_ 19 rfl
  F_shown := c.t.d.def_ 20 rfl
  F_text_of := c.t.d.def_ 21 rfl
  F_Row_init := c.t.d.def_ 22 rfl
  F_Row_five := c.t.d.def_ 23 rfl
  F_Row_eq := c.t.d.def_ 24 rfl
  F_Row_str := c.t.d.def_ 25 rfl
  F_State_init := c.t.d.def_ 26 rfl
  F_State_is_open := c.t.d.def_ 27 rfl
  F_State_under := c.t.d.def_ 28 rfl
  F_State_put := c.t.d.def_ 29 rfl
  F_do_call := c.t.d.def_ 30 rfl
  F_do_again := c.t.d.def_ 31 rfl
  F_do_make := c.t.d.def_ 32 rfl
  F_do_stop := c.t.d.def_ 33 rfl
  F_do_send := c.t.d.def_ 34 rfl
  F_do_there := c.t.d.def_ 35 rfl
  F_do_back := c.t.d.def_ 36 rfl
  F_do_home := c.t.d.def_ 37 rfl
  F_do_off := c.t.d.def_ 38 rfl
  F_do_stand := c.t.d.def_ 39 rfl
  F_do_lend := c.t.d.def_ 40 rfl
  F_do_shut := c.t.d.def_ 41 rfl
  F_do_nothing := c.t.d.def_ 42 rfl
  F_done := c.t.d.def_ 43 rfl
  F_Room_init := c.t.d.def_ 44 rfl
  F_Room_eq := c.t.d.def_ 45 rfl
  F_Room_replay := c.t.d.def_ 46 rfl
  F_Room_state := c.t.d.def_ 47 rfl
  F_Room_look_minutes := c.t.d.def_ 48 rfl
  F_Room_look_right := c.t.d.def_ 49 rfl
  F_Room_write := c.t.d.def_ 50 rfl
  F_Room_rows := c.t.d.def_ 51 rfl
  F_Room_void := c.t.d.def_ 52 rfl
  F_Room_engine := c.t.d.def_ 53 rfl
  F_Room_calls := c.t.d.def_ 54 rfl
  F_law_bag := c.t.d.def_ 55 rfl
  F_law_take := c.t.d.def_ 56 rfl
  F_law_names := c.t.d.def_ 57 rfl
  F_law_ground := c.t.d.def_ 58 rfl
  F_law_engines := c.t.d.def_ 59 rfl
  F_law_house := c.t.d.def_ 60 rfl
  F_law_deed := c.t.d.def_ 61 rfl
  F_law_kind := c.t.d.def_ 62 rfl
  F_law_calls_of := c.t.d.def_ 63 rfl
  F_law_next := c.t.d.def_ 64 rfl
  F_law_try := c.t.d.def_ 65 rfl
  F_law_is_book := c.t.d.def_ 66 rfl
  F_law_void_holds := c.t.d.def_ 67 rfl
  F_law := c.t.d.def_ 68 rfl
variable {w : World} {K : PySem.W.Frag} {h : Heap} {mg : Str → Option Value}
theorem e_due (c : ex K = true) : (decide (dictKeys K (He.ga K "DUE") = some (dueK.map some))) = true := moreB c 0 rfl
theorem e_forms (c : ex K = true) : (decide (dictKeys K (He.ga K "FORMS") = some (formsK.map some))) = true := moreB c 1 rfl
theorem e_sorts (c : ex K = true) : (tupOk K (He.ga K "SORTS") ["pump", "ladder", "tanker"]) = true := moreB c 2 rfl
theorem e_f_call (c : ex K = true) : (formOk K (He.ga K "FORMS") "call" ["place", "kind"]) = true := moreB c 3 rfl
theorem e_f_again (c : ex K = true) : (formOk K (He.ga K "FORMS") "again" ["call"]) = true := moreB c 4 rfl
theorem e_f_make (c : ex K = true) : (formOk K (He.ga K "FORMS") "make" ["call", "pumps"]) = true := moreB c 5 rfl
theorem e_f_stop (c : ex K = true) : (formOk K (He.ga K "FORMS") "stop" ["call"]) = true := moreB c 6 rfl
theorem e_f_send (c : ex K = true) : (formOk K (He.ga K "FORMS") "send" ["engine", "call"]) = true := moreB c 7 rfl
theorem e_f_there (c : ex K = true) : (formOk K (He.ga K "FORMS") "there" ["engine"]) = true := moreB c 8 rfl
theorem e_f_back (c : ex K = true) : (formOk K (He.ga K "FORMS") "back" ["engine"]) = true := moreB c 9 rfl
theorem e_f_home (c : ex K = true) : (formOk K (He.ga K "FORMS") "home" ["engine"]) = true := moreB c 10 rfl
theorem e_f_off (c : ex K = true) : (formOk K (He.ga K "FORMS") "off" ["engine"]) = true := moreB c 11 rfl
theorem e_f_on (c : ex K = true) : (formOk K (He.ga K "FORMS") "on" ["engine"]) = true := moreB c 12 rfl
theorem e_f_stand (c : ex K = true) : (formOk K (He.ga K "FORMS") "stand" ["engine", "station"]) = true := moreB c 13 rfl
theorem e_f_lend (c : ex K = true) : (formOk K (He.ga K "FORMS") "lend" ["engine", "station"]) = true := moreB c 14 rfl
theorem e_f_shut (c : ex K = true) : (formOk K (He.ga K "FORMS") "shut" ["road"]) = true := moreB c 15 rfl
theorem e_f_clear (c : ex K = true) : (formOk K (He.ga K "FORMS") "clear" ["road"]) = true := moreB c 16 rfl
theorem e_f_nothing (c : ex K = true) : (formOk K (He.ga K "FORMS") "nothing" []) = true := moreB c 17 rfl
theorem e_d_call (c : ex K = true) : (doOk K (He.ga K "DOING") "call" (He.ga K "do_call")) = true := moreB c 18 rfl
theorem e_d_again (c : ex K = true) : (doOk K (He.ga K "DOING") "again" (He.ga K "do_again")) = true := moreB c 19 rfl
theorem e_d_make (c : ex K = true) : (doOk K (He.ga K "DOING") "make" (He.ga K "do_make")) = true := moreB c 20 rfl
theorem e_d_stop (c : ex K = true) : (doOk K (He.ga K "DOING") "stop" (He.ga K "do_stop")) = true := moreB c 21 rfl
theorem e_d_send (c : ex K = true) : (doOk K (He.ga K "DOING") "send" (He.ga K "do_send")) = true := moreB c 22 rfl
theorem e_d_there (c : ex K = true) : (doOk K (He.ga K "DOING") "there" (He.ga K "do_there")) = true := moreB c 23 rfl
theorem e_d_back (c : ex K = true) : (doOk K (He.ga K "DOING") "back" (He.ga K "do_back")) = true := moreB c 24 rfl
theorem e_d_home (c : ex K = true) : (doOk K (He.ga K "DOING") "home" (He.ga K "do_home")) = true := moreB c 25 rfl
theorem e_d_off (c : ex K = true) : (doOk K (He.ga K "DOING") "off" (He.ga K "do_off")) = true := moreB c 26 rfl
theorem e_d_on (c : ex K = true) : (doOk K (He.ga K "DOING") "on" (He.ga K "do_off")) = true := moreB c 27 rfl
theorem e_d_stand (c : ex K = true) : (doOk K (He.ga K "DOING") "stand" (He.ga K "do_stand")) = true := moreB c 28 rfl
theorem e_d_lend (c : ex K = true) : (doOk K (He.ga K "DOING") "lend" (He.ga K "do_lend")) = true := moreB c 29 rfl
theorem e_d_shut (c : ex K = true) : (doOk K (He.ga K "DOING") "shut" (He.ga K "do_shut")) = true := moreB c 30 rfl
theorem e_d_clear (c : ex K = true) : (doOk K (He.ga K "DOING") "clear" (He.ga K "do_shut")) = true := moreB c 31 rfl
theorem e_d_nothing (c : ex K = true) : (doOk K (He.ga K "DOING") "nothing" (He.ga K "do_nothing")) = true := moreB c 32 rfl
theorem e_c_law (c : ex K = true) : (decide (fcode K (He.ga K "law") = some (He.cT K ("law", none)).1)) = true := moreB c 33 rfl
theorem e_c_rep (c : ex K = true) : (decide (fcode K (He.ma K (He.ga K "Room") "replay") = some (He.cT K ("Room", some "replay")).1)) = true := moreB c 34 rfl
theorem e_c_ne (c : ex K = true) : (decide ((He.cT K ("law", none)).2 ≠ (He.cT K ("Room", some "replay")).2)) = true := moreB c 35 rfl
theorem e_o_hn (c : ex K = true) : (He.eqO (PySem.W.specialIn K (.builtin "object.__class__") "__get__") (some (some (.builtin "getset_descriptor.__get__")))) = true := moreB c 36 rfl
theorem e_o_tk (c : ex K = true) : (decide (PySem.W.takesIn K (.builtin "object.__class__") = some true)) = true := moreB c 37 rfl
theorem e_i_ha_Row (c : ex K = true) : (He.eqO (PySem.W.findIn K (.ref (He.ga K "Row")) "__class__") (some (some (.builtin "object.__class__")))) = true := moreB c 38 rfl
theorem e_i_hm_Row (c : ex K = true) : (decide (PySem.W.mroIn K (He.ga K "Row") (.type "object") = some true)) = true := moreB c 39 rfl
theorem e_i_me_Row (c : ex K = true) : (decide (PySem.W.kitOne K (.ref (He.ga K "Row")) (.ref (He.ga K "Row")) = some true)) = true := moreB c 40 rfl
theorem e_i_ha_Room (c : ex K = true) : (He.eqO (PySem.W.findIn K (.ref (He.ga K "Room")) "__class__") (some (some (.builtin "object.__class__")))) = true := moreB c 41 rfl
theorem e_i_hm_Room (c : ex K = true) : (decide (PySem.W.mroIn K (He.ga K "Room") (.type "object") = some true)) = true := moreB c 42 rfl
theorem e_i_me_Room (c : ex K = true) : (decide (PySem.W.kitOne K (.ref (He.ga K "Room")) (.ref (He.ga K "Room")) = some true)) = true := moreB c 43 rfl
theorem e_i_ha_Ground (c : ex K = true) : (He.eqO (PySem.W.findIn K (.ref (He.ga K "Ground")) "__class__") (some (some (.builtin "object.__class__")))) = true := moreB c 44 rfl
theorem e_i_hm_Ground (c : ex K = true) : (decide (PySem.W.mroIn K (He.ga K "Ground") (.type "object") = some true)) = true := moreB c 45 rfl
theorem e_i_me_Ground (c : ex K = true) : (decide (PySem.W.kitOne K (.ref (He.ga K "Ground")) (.ref (He.ga K "Ground")) = some true)) = true := moreB c 46 rfl
theorem e_i_ne_Row (c : ex K = true) : (He.eqO (PySem.W.findIn K (.ref (He.ga K "Row")) "__ne__") (some (some (.builtin "object.__ne__")))) = true := moreB c 47 rfl
theorem e_i_ne_Ground (c : ex K = true) : (He.eqO (PySem.W.findIn K (.ref (He.ga K "Ground")) "__ne__") (some (some (.builtin "object.__ne__")))) = true := moreB c 48 rfl
theorem e_i_rowTup (c : ex K = true) : (decide (PySem.W.kitOne K (.ref (He.ga K "Row")) (.type "tuple") = some false)) = true := moreB c 49 rfl
theorem e_n_RE (c : ex K = true) : (He.eqO (PySem.W.nsIn K mainGlobals "RuntimeError") (some none)) = true := moreB c 50 rfl
theorem e_n_re (c : ex K = true) : (reB K (He.ga K "NotDone")) = true := moreB c 51 rfl
theorem e_n_sa (c : ex K = true) : (He.eqO (PySem.W.findIn K (.ref (He.ga K "NotDone")) "__setattr__") (some (some (.builtin "object.__setattr__")))) = true := moreB c 52 rfl
theorem e_n_ex (c : ex K = true) : (decide (PySem.W.subIn K (.ref (He.ga K "NotDone")) (.type "BaseException") = some true)) = true := moreB c 53 rfl
theorem e_n_ty (c : ex K = true) : (decide (PySem.W.typeIn K (.ref (He.ga K "NotDone")) = some (.type "type"))) = true := moreB c 54 rfl
theorem e_n_kp (c : ex K = true) : (PySem.W.keepIn K (.ref (He.ga K "NotDone"))) = true := moreB c 55 rfl
theorem e_n_init (c : ex K = true) : (He.eqO (PySem.W.findIn K (.ref (He.ga K "NotDone")) "__init__") (some (some (.ref (He.ma K (He.ga K "NotDone") "__init__"))))) = true := moreB c 56 rfl
theorem e_n_tinit (c : ex K = true) : (decide (PySem.W.typeIn K (.ref (He.ma K (He.ga K "NotDone") "__init__")) = some (.type "function"))) = true := moreB c 57 rfl
theorem e_n_why (c : ex K = true) : (He.eqO (PySem.W.findIn K (.ref (He.ga K "NotDone")) "why") (some none)) = true := moreB c 58 rfl
theorem e_n_xf (c : ex K = true) : (xfB K (He.ga K "NotDone")) = true := moreB c 59 rfl
theorem e_n_ha (c : ex K = true) : (He.eqO (PySem.W.findIn K (.ref (He.ga K "NotDone")) "__class__") (some (some (.builtin "object.__class__")))) = true := moreB c 60 rfl
theorem e_n_hm (c : ex K = true) : (decide (PySem.W.mroIn K (He.ga K "NotDone") (.type "object") = some true)) = true := moreB c 61 rfl
theorem e_n_kit (c : ex K = true) : (decide (PySem.W.kitOne K (.ref (He.ga K "NotDone")) (.type "RuntimeError") = some true)) = true := moreB c 62 rfl
theorem ty_of (c : ex K = true) : Ty K where
  due := e_due c
  forms := e_forms c
  sorts := e_sorts c
  f_call := e_f_call c
  f_again := e_f_again c
  f_make := e_f_make c
  f_stop := e_f_stop c
  f_send := e_f_send c
  f_there := e_f_there c
  f_back := e_f_back c
  f_home := e_f_home c
  f_off := e_f_off c
  f_on := e_f_on c
  f_stand := e_f_stand c
  f_lend := e_f_lend c
  f_shut := e_f_shut c
  f_clear := e_f_clear c
  f_nothing := e_f_nothing c
  d_call := e_d_call c
  d_again := e_d_again c
  d_make := e_d_make c
  d_stop := e_d_stop c
  d_send := e_d_send c
  d_there := e_d_there c
  d_back := e_d_back c
  d_home := e_d_home c
  d_off := e_d_off c
  d_on := e_d_on c
  d_stand := e_d_stand c
  d_lend := e_d_lend c
  d_shut := e_d_shut c
  d_clear := e_d_clear c
  d_nothing := e_d_nothing c
theorem vRE (K : PySem.W.Frag) : PySem.W.findCls K (.type "RuntimeError") (.type "type") "__init__" = some (.val (.builtin "RuntimeError.__init__")) := by rfl
theorem nd_of (X : K.In h) (G : h.Ns mainGlobals mg) (c : ex K = true) : Nd K mg where
  mRE := PySem.W.mg_none_of X G (He.eqO_ok (e_n_RE c))
  vRE := vRE K
  oex := ⟨reB_ok (e_n_re c), He.eqO_ok (e_n_sa c), of_decide_eq_true (e_n_ex c), of_decide_eq_true (e_n_ty c), e_n_kp c⟩
  init := He.eqO_ok (e_n_init c)
  tinit := of_decide_eq_true (e_n_tinit c)
  why := He.eqO_ok (e_n_why c)
theorem ndx_of (c : ex K = true) : NdX K where
  xf := xfB_ok (e_n_xf c)
  ec := ⟨(xfB_ok (e_n_xf c)).ga, (xfB_ok (e_n_xf c)).gg, (xfB_ok (e_n_xf c)).exC, (xfB_ok (e_n_xf c)).hdC, He.eqO_ok (e_n_ha c), He.eqO_ok (e_o_hn c), of_decide_eq_true (e_o_tk c), of_decide_eq_true (e_n_hm c)⟩
  re := of_decide_eq_true (e_n_kit c)
theorem own_of (T : Tx w K mg) (c : ex K = true) : OwnC K where
  row := ⟨T.c_Row, He.eqO_ok (e_i_ha_Row c), He.eqO_ok (e_o_hn c), of_decide_eq_true (e_o_tk c), of_decide_eq_true (e_i_hm_Row c), of_decide_eq_true (e_i_me_Row c)⟩
  room := ⟨T.c_Room, He.eqO_ok (e_i_ha_Room c), He.eqO_ok (e_o_hn c), of_decide_eq_true (e_o_tk c), of_decide_eq_true (e_i_hm_Room c), of_decide_eq_true (e_i_me_Room c)⟩
  ground := ⟨T.c_Ground, He.eqO_ok (e_i_ha_Ground c), He.eqO_ok (e_o_hn c), of_decide_eq_true (e_o_tk c), of_decide_eq_true (e_i_hm_Ground c), of_decide_eq_true (e_i_me_Ground c)⟩
  rowEq := T.m_Row_eq.at_
  rowFn := T.m_Row_eq.fn
  roomEq := T.m_Room_eq.at_
  roomFn := T.m_Room_eq.fn
  groundNe := ⟨He.eqO_ok (e_i_ne_Ground c), T.m_Ground_eq.at_, T.m_Ground_eq.fn, of_decide_eq_true (e_i_hm_Ground c)⟩
  rowNe := ⟨He.eqO_ok (e_i_ne_Row c), T.m_Row_eq.at_, T.m_Row_eq.fn, of_decide_eq_true (e_i_hm_Row c)⟩
  rowStr := T.m_Row_str.at_
  rowTup := of_decide_eq_true (e_i_rowTup c)
  strFn := T.m_Row_str.fn
/-- the tables of the two lambdas -/
def tbs (K : PySem.W.Frag) : List (Addr × Str) := [((He.cT K ("law", none)).2, lawQ), ((He.cT K ("Room", some "replay")).2, lamQ)]
theorem lam_law {base : Heap} (c : ex K = true) (B : LamX.TabB base mg (He.cT K ("law", none)).1 (He.cT K ("law", none)).2) : LamF K mg base (tbs K) (He.ga K "law") lawQ := by
  have ne := of_decide_eq_true (e_c_ne c)
  refine ⟨_, _, of_decide_eq_true (e_c_law c), B, List.mem_cons_self, fun p hp e => ?_⟩
  rcases List.mem_cons.mp hp with rfl | hp
  · rfl
  · obtain rfl := List.mem_singleton.mp hp
    exact absurd e.symm ne
theorem lam_rep {base : Heap} (c : ex K = true) (B : LamX.TabB base mg (He.cT K ("Room", some "replay")).1 (He.cT K ("Room", some "replay")).2) : LamF K mg base (tbs K) (He.ma K (He.ga K "Room") "replay") lamQ := by
  have ne := of_decide_eq_true (e_c_ne c)
  refine ⟨_, _, of_decide_eq_true (e_c_rep c), B, List.mem_cons_of_mem _ List.mem_cons_self, fun p hp e => ?_⟩
  rcases List.mem_cons.mp hp with rfl | hp
  · exact absurd e ne
  · obtain rfl := List.mem_singleton.mp hp
    rfl

end K36
/-! text KFin -/
namespace K36
open PySem PySem.Spec PyProof.Rows L2
theorem run (w : World) : HandSHeadRun.RunEq rowR qv hookN ob 7000 loose w := PySem.W.byRow2 (P := fun w => HandSHeadRun.RunEq rowR qv hookN ob 7000 loose w) "special-get-raises" runF runT w
/-- the law's end: all that the walk asks of the head's heap -/
theorem law_at {w : World} {h : Heap} {mg : Str → Option Value} {fa : Addr} {K : PySem.W.Frag} (X : K.In h) (G : h.Ns mainGlobals mg) (hfa : mg ("law" : Str) = some (.ref fa)) (c : He.SaysX K36.fa fn ts tf ex w h K) :
    LamX.LawAtS PySem.Challenge.rw_whistleboard_k36_whole_rows_stay w K C8.CX0 10 63 "_law_script" mg fa h := by
  have T : Tx w K mg := tx_of X G c
  have e := hfa.symm.trans T.g_law
  cases e
  have N : Nd K mg := nd_of X G c.more
  have NX : NdX K := ndx_of c.more
  have O : OwnC K := own_of T c.more
  have Y : Ty K := ty_of c.more
  obtain ⟨fd, F⟩ := T.F_law
  have mem1 : (He.cT K ("law", none)) ∈ [He.cT K ("law", none), He.cT K ("Room", some "replay")] := List.mem_cons_self
  have mem2 : (He.cT K ("Room", some "replay")) ∈ [He.cT K ("law", none), He.cT K ("Room", some "replay")] := List.mem_cons_of_mem _ List.mem_cons_self
  have tfm : ∀ p ∈ [He.cT K ("law", none), He.cT K ("Room", some "replay")], ∃ q ∈ tf, He.cT K q = p := fun p hp => by
    rcases List.mem_cons.mp hp with rfl | hp
    · exact ⟨_, List.mem_cons_self, rfl⟩
    · obtain rfl := List.mem_singleton.mp hp
      exact ⟨_, List.mem_cons_of_mem _ List.mem_cons_self, rfl⟩
  have one : ∀ {P : Program} {base : Heap}, LamX.TabB base mg (He.cT K ("law", none)).1 (He.cT K ("law", none)).2 → LamX.TabB base mg (He.cT K ("Room", some "replay")).1 (He.cT K ("Room", some "replay")).2 → FnOk P w K mg base C8.CX0 10 (He.ga K "law") fd ["_law_script"] (sp_law K (tbs K)) := fun {P base} B1 B2 => by
    obtain ⟨fd', F', ok⟩ := (law_all (P := P) (base := base) T Y N NX O (lam_law c.more B1) (lam_rep c.more B2)).ex
    obtain ⟨_, _, _, _, _, _, _, _, _, _, r1, k1, _⟩ := F.ex
    obtain ⟨_, _, _, _, _, _, _, _, _, _, r2, k2, _⟩ := F'.ex
    rw [k1] at k2
    cases k2
    exact ok
  refine ⟨fd, [He.cT K ("law", none), He.cT K ("Room", some "replay")], sp_law K (tbs K), fun p hp => ?_, fun p hp => ?_, fun p hp => ?_, fun s u => ?_, fun H a ns hl _ hT hS => ?_, fun base _ _ hB => one (hB _ mem1) (hB _ mem2)⟩
  · obtain ⟨q, hq, rfl⟩ := tfm p hp
    exact c.empty q hq
  · obtain ⟨q, hq, rfl⟩ := tfm p hp
    exact c.out q hq
  · obtain ⟨q, hq, rfl⟩ := tfm p hp
    exact PySem.W.codeHd_of_K X (c.hd q hq)
  · have b := FunD.bindsA (ps := ["_law_script"]) F fun _ _ _ _ _ _ us hl => match us, hl with | [_], _ => rfl
    exact b s [u] rfl
  · refine ⟨a, ns, rfl, hS, hl, fun p hp => ?_, fun _ => rfl⟩
    rcases List.mem_cons.mp hp with rfl | hp
    · exact LamX.TabS.nil (hT _ mem1)
    · obtain rfl := List.mem_singleton.mp hp
      exact LamX.TabS.nil (hT _ mem2)
end K36
open PySem PySem.W PySem.Calls PyProof.Rows
theorem PySem.Challenge.cw_whistleboard_k36_whole_rows_stay_holds : PySem.Challenge.rw_whistleboard_k36_whole_rows_stay.Holds := by
  w_on; o_law
  refine HandSHeadRun.head_any (r := OpenLaw.row PySem.Challenge.rw_whistleboard_k36_whole_rows_stay) (q := view (OpenLaw.row PySem.Challenge.rw_whistleboard_k36_whole_rows_stay).prog [93]) (H := K36.hookN) (ob := K36.ob) (M := 7000) (loose := K36.loose) (d := HandSHeadRun.topDef (OpenLaw.row PySem.Challenge.rw_whistleboard_k36_whole_rows_stay).prog 93) (kwd := []) K36.ob_eq
    (by kernel_rfl) (fun s => by kernel_rfl) K36.run (by kernel_rfl) (by kernel_rfl) (by kernel_rfl) (by rfl) (by first | assumption | decide +kernel) (by decide +kernel) ⟨rfl, rfl, rfl, rfl, rfl, by decide +kernel⟩ ?hw ?hc
  case hw => w_witness2
  case hc =>
    refine LamX.walk_ofTsE (l := PySem.Challenge.rw_whistleboard_k36_whole_rows_stay) (n := 63) (k := 10) (x := "_law_script") (CX := fun _ => C8.CX0) rfl (by decide) (by kernel_rfl) ⟨rfl, by decide, by decide⟩ ?F (fun _ _ _ _ _ z => z)
    intro w mg fa h Y G hmg0
    obtain ⟨K, KX, c⟩ := Y
    have hmg : mg ("law" : PySem.Str) = some (.ref fa) := by
      have e : (HandSHeadRun.topDef (OpenLaw.row PySem.Challenge.rw_whistleboard_k36_whole_rows_stay).prog 93).name = ("law" : PySem.Str) := by kernel_rfl
      rw [← e]
      exact hmg0
    exact ⟨K, KX, K36.law_at KX G hmg c⟩
