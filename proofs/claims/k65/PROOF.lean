import PyProof.Rows.All
import Wide.All
import OpenK.AllK
import Wide.FinOn
import HandS.ForMost
import HandS.Style
import HandS.TupAny
import HandS.Walk
import HandS.Exc
import HandS.Defaults
import PySem.Challenge.RW_ebbkeep_k65_whole_records_are_checked
import KE.GoesEnum
import KE.KDictZip
import HandS.Head0
import HandS.Head1
import HandS.Head2
import HandS.HeadEnd
import HandS.HeadHook1
import HandS.HeadHook2
import HandS.HeadHook3
import HandS.HeadHook4
set_option Elab.async false
set_option linter.all false
set_option maxRecDepth 100000
set_option maxHeartbeats 4000000

namespace K65
open PySem L2
/-! the text by places -/
def topS (i : Nat) : Stmt := PySem.Challenge.pw_ebbkeep_k65_whole_records_are_checked.main.body.getD i (.Pass ⟨0, 0, 0, 0⟩)
abbrev s_limit : Stmt := topS 2
abbrev N_limit : List Str := ["pool", "price", "want", "budget", "need", "spent", "reserve"]
theorem sc_limit : FnScope N_limit ["pool", "price", "want", "budget"] (defScope s_limit) := ⟨rfl, rfl, rfl, by decide +kernel, rfl, by decide +kernel, by decide +kernel⟩
abbrev s_check_tariff : Stmt := topS 11
abbrev N_check_tariff : List Str := ["tariff", "rates", "wakes", "value", "index"]
theorem sc_check_tariff : FnScope N_check_tariff ["tariff"] (defScope s_check_tariff) := ⟨rfl, rfl, rfl, by decide +kernel, rfl, by decide +kernel, by decide +kernel⟩
abbrev s_off : Stmt := topS 12
abbrev N_off : List Str := ["tariff"]
theorem sc_off : FnScope N_off ["tariff"] (defScope s_off) := ⟨rfl, rfl, rfl, by decide +kernel, rfl, by decide +kernel, by decide +kernel⟩
abbrev s_rate : Stmt := topS 13
abbrev N_rate : List Str := ["tariff", "state"]
theorem sc_rate : FnScope N_rate ["tariff", "state"] (defScope s_rate) := ⟨rfl, rfl, rfl, by decide +kernel, rfl, by decide +kernel, by decide +kernel⟩
abbrev s_wake : Stmt := topS 14
abbrev N_wake : List Str := ["tariff", "state"]
theorem sc_wake : FnScope N_wake ["tariff", "state"] (defScope s_wake) := ⟨rfl, rfl, rfl, by decide +kernel, rfl, by decide +kernel, by decide +kernel⟩
abbrev s_state_cost : Stmt := topS 15
abbrev N_state_cost : List Str := ["tariff", "state", "total"]
theorem sc_state_cost : FnScope N_state_cost ["tariff", "state", "total"] (defScope s_state_cost) := ⟨rfl, rfl, rfl, by decide +kernel, rfl, by decide +kernel, by decide +kernel⟩
abbrev s_idle_state : Stmt := topS 16
abbrev N_idle_state : List Str := ["tariff", "total", "best", "state"]
theorem sc_idle_state : FnScope N_idle_state ["tariff", "total"] (defScope s_idle_state) := ⟨rfl, rfl, rfl, by decide +kernel, rfl, by decide +kernel, by decide +kernel⟩
abbrev s_needed_lane : Stmt := topS 19
abbrev N_needed_lane : List Str := ["tariff", "lane", "price"]
theorem sc_needed_lane : FnScope N_needed_lane ["tariff", "lane", "price"] (defScope s_needed_lane) := ⟨rfl, rfl, rfl, by decide +kernel, rfl, by decide +kernel, by decide +kernel⟩
abbrev s_idle_lane : Stmt := topS 20
abbrev N_idle_lane : List Str := ["tariff", "lane", "price", "state", "total", "cost", "cold", "more"]
theorem sc_idle_lane : FnScope N_idle_lane ["tariff", "lane", "price"] (defScope s_idle_lane) := ⟨rfl, rfl, rfl, by decide +kernel, rfl, by decide +kernel, by decide +kernel⟩
abbrev s_moved_lanes : Stmt := topS 21
abbrev N_moved_lanes : List Str := ["tariff", "lanes", "price", "need", "found", "total", "index", "lane", "cost"]
theorem sc_moved_lanes : FnScope N_moved_lanes ["tariff", "lanes", "price", "need"] (defScope s_moved_lanes) := ⟨rfl, rfl, rfl, by decide +kernel, rfl, by decide +kernel, by decide +kernel⟩
abbrev s_reserve_of : Stmt := topS 22
abbrev N_reserve_of : List Str := ["tariff", "lanes", "cold", "lane"]
theorem sc_reserve_of : FnScope N_reserve_of ["tariff", "lanes"] (defScope s_reserve_of) := ⟨rfl, rfl, rfl, by decide +kernel, rfl, by decide +kernel, by decide +kernel⟩
abbrev s_Pool_init : Stmt := inClass (topS 23) 0
abbrev N_Pool_init : List Str := ["self", "tariff"]
theorem sc_Pool_init : FnScope N_Pool_init ["self", "tariff"] (defScope s_Pool_init) := ⟨rfl, rfl, rfl, by decide +kernel, rfl, by decide +kernel, by decide +kernel⟩
abbrev s_Pool_step : Stmt := inClass (topS 23) 1
abbrev N_Pool_step : List Str := ["self", "price", "need", "cost"]
theorem sc_Pool_step : FnScope N_Pool_step ["self", "price", "need"] (defScope s_Pool_step) := ⟨rfl, rfl, rfl, by decide +kernel, rfl, by decide +kernel, by decide +kernel⟩
abbrev s_Pool_after : Stmt := inClass (topS 23) 2
abbrev N_Pool_after : List Str := ["self", "price", "need", "lanes", "cost"]
theorem sc_Pool_after : FnScope N_Pool_after ["self", "price", "need"] (defScope s_Pool_after) := ⟨rfl, rfl, rfl, by decide +kernel, rfl, by decide +kernel, by decide +kernel⟩
abbrev s_Pool_end_break : Stmt := inClass (topS 23) 3
abbrev N_Pool_end_break : List Str := ["self"]
theorem sc_Pool_end_break : FnScope N_Pool_end_break ["self"] (defScope s_Pool_end_break) := ⟨rfl, rfl, rfl, by decide +kernel, rfl, by decide +kernel, by decide +kernel⟩
abbrev s_Pool_states : Stmt := inClass (topS 23) 4
abbrev N_Pool_states : List Str := ["self", "lane"]
theorem sc_Pool_states : FnScope N_Pool_states ["self"] (defScope s_Pool_states) := ⟨rfl, rfl, rfl, by decide +kernel, rfl, by decide +kernel, by decide +kernel⟩
abbrev s_Queue_init : Stmt := inClass (topS 25) 0
abbrev N_Queue_init : List Str := ["self", "lag", "patience"]
theorem sc_Queue_init : FnScope N_Queue_init ["self", "lag", "patience"] (defScope s_Queue_init) := ⟨rfl, rfl, rfl, by decide +kernel, rfl, by decide +kernel, by decide +kernel⟩
abbrev s_Queue_due : Stmt := inClass (topS 25) 4
abbrev N_Queue_due : List Str := ["self", "came", "many", "moment", "count"]
theorem sc_Queue_due : FnScope N_Queue_due ["self", "came"] (defScope s_Queue_due) := ⟨rfl, rfl, rfl, by decide +kernel, rfl, by decide +kernel, by decide +kernel⟩
abbrev s_Queue_take : Stmt := inClass (topS 25) 5
abbrev N_Queue_take : List Str := ["self", "many", "rows", "moment", "count", "taken"]
theorem sc_Queue_take : FnScope N_Queue_take ["self", "many"] (defScope s_Queue_take) := ⟨rfl, rfl, rfl, by decide +kernel, rfl, by decide +kernel, by decide +kernel⟩
abbrev s_Queue_drop : Stmt := inClass (topS 25) 6
abbrev N_Queue_drop : List Str := ["self", "many", "rows", "moment", "count"]
theorem sc_Queue_drop : FnScope N_Queue_drop ["self"] (defScope s_Queue_drop) := ⟨rfl, rfl, rfl, by decide +kernel, rfl, by decide +kernel, by decide +kernel⟩
abbrev s_Queue_step : Stmt := inClass (topS 25) 7
abbrev N_Queue_step : List Str := ["self", "came", "places", "due", "run", "dropped"]
theorem sc_Queue_step : FnScope N_Queue_step ["self", "came", "places"] (defScope s_Queue_step) := ⟨rfl, rfl, rfl, by decide +kernel, rfl, by decide +kernel, by decide +kernel⟩
abbrev s_is_word : Stmt := topS 35
abbrev N_is_word : List Str := ["text", "char"]
theorem sc_is_word : FnScope N_is_word ["text"] (defScope s_is_word) := ⟨rfl, rfl, rfl, by decide +kernel, rfl, by decide +kernel, by decide +kernel⟩
abbrev s_check_service : Stmt := topS 36
abbrev N_check_service : List Str := ["setting", "k", "low", "high"]
theorem sc_check_service : FnScope N_check_service ["setting"] (defScope s_check_service) := ⟨rfl, rfl, rfl, by decide +kernel, rfl, by decide +kernel, by decide +kernel⟩
abbrev s_check_keep : Stmt := topS 37
abbrev N_check_keep : List Str := ["keep", "names", "name", "least", "begin", "end", "period"]
theorem sc_check_keep : FnScope N_check_keep ["keep", "names"] (defScope s_check_keep) := ⟨rfl, rfl, rfl, by decide +kernel, rfl, by decide +kernel, by decide +kernel⟩
abbrev s_check_house : Stmt := topS 38
abbrev N_check_house : List Str := ["setting", "quota", "services", "keeps", "names", "service", "keep"]
theorem sc_check_house : FnScope N_check_house ["setting"] (defScope s_check_house) := ⟨rfl, rfl, rfl, by decide +kernel, rfl, by decide +kernel, by decide +kernel⟩
abbrev s_kept : Stmt := topS 39
abbrev N_kept : List Str := ["setting", "name", "moment", "least", "other", "many", "begin", "end", "period"]
theorem sc_kept : FnScope N_kept ["setting", "name", "moment"] (defScope s_kept) := ⟨rfl, rfl, rfl, by decide +kernel, rfl, by decide +kernel, by decide +kernel⟩
abbrev s_comes_before : Stmt := topS 41
abbrev N_comes_before : List Str := ["first", "second", "weights", "given", "one", "two"]
theorem sc_comes_before : FnScope N_comes_before ["first", "second", "weights", "given"] (defScope s_comes_before) := ⟨rfl, rfl, rfl, by decide +kernel, rfl, by decide +kernel, by decide +kernel⟩
abbrev s_next_service : Stmt := topS 42
abbrev N_next_service : List Str := ["wants", "weights", "given", "best", "k", "want"]
theorem sc_next_service : FnScope N_next_service ["wants", "weights", "given"] (defScope s_next_service) := ⟨rfl, rfl, rfl, by decide +kernel, rfl, by decide +kernel, by decide +kernel⟩
abbrev s_shares : Stmt := topS 43
abbrev N_shares : List Str := ["quota", "wants", "weights", "given", "k", "best", "want"]
theorem sc_shares : FnScope N_shares ["quota", "wants", "weights"] (defScope s_shares) := ⟨rfl, rfl, rfl, by decide +kernel, rfl, by decide +kernel, by decide +kernel⟩
abbrev s_is_fair : Stmt := topS 44
abbrev N_is_fair : List Str := ["wants", "weights", "given", "a", "b", "one", "two"]
theorem sc_is_fair : FnScope N_is_fair ["wants", "weights", "given", "a", "b"] (defScope s_is_fair) := ⟨rfl, rfl, rfl, by decide +kernel, rfl, by decide +kernel, by decide +kernel⟩
abbrev s_accepts_shares : Stmt := topS 45
abbrev N_accepts_shares : List Str := ["quota", "wants", "weights", "given", "number", "want", "together", "a", "b"]
theorem sc_accepts_shares : FnScope N_accepts_shares ["quota", "wants", "weights", "given"] (defScope s_accepts_shares) := ⟨rfl, rfl, rfl, by decide +kernel, rfl, by decide +kernel, by decide +kernel⟩
abbrev s_wanted : Stmt := topS 49
abbrev N_wanted : List Str := ["due", "room", "most"]
theorem sc_wanted : FnScope N_wanted ["due", "room", "most"] (defScope s_wanted) := ⟨rfl, rfl, rfl, by decide +kernel, rfl, by decide +kernel, by decide +kernel⟩
abbrev s_reason : Stmt := topS 50
abbrev N_reason : List Str := ["due", "run", "want", "bound", "given"]
theorem sc_reason : FnScope N_reason ["due", "run", "want", "bound", "given"] (defScope s_reason) := ⟨rfl, rfl, rfl, by decide +kernel, rfl, by decide +kernel, by decide +kernel⟩
abbrev s_check_entry : Stmt := topS 51
abbrev N_check_entry : List Str := ["entry", "many", "price", "came", "is_break"]
theorem sc_check_entry : FnScope N_check_entry ["entry", "many"] (defScope s_check_entry) := ⟨rfl, rfl, rfl, by decide +kernel, rfl, by decide +kernel, by decide +kernel⟩
abbrev s_House_init : Stmt := inClass (topS 52) 0
abbrev N_House_init : List Str := ["self", "setting", "service"]
theorem sc_House_init : FnScope N_House_init ["self", "setting"] (defScope s_House_init) := ⟨rfl, rfl, rfl, by decide +kernel, rfl, by decide +kernel, by decide +kernel⟩
abbrev s_House_record : Stmt := inClass (topS 52) 2
abbrev N_House_record : List Str := ["self", "moment"]
theorem sc_House_record : FnScope N_House_record ["self"] (defScope s_House_record) := ⟨rfl, rfl, rfl, by decide +kernel, rfl, by decide +kernel, by decide +kernel⟩
abbrev s_House_now : Stmt := inClass (topS 52) 4
abbrev N_House_now : List Str := ["self"]
theorem sc_House_now : FnScope N_House_now ["self"] (defScope s_House_now) := ⟨rfl, rfl, rfl, by decide +kernel, rfl, by decide +kernel, by decide +kernel⟩
abbrev s_House_plan : Stmt := inClass (topS 52) 8
abbrev N_House_plan : List Str := ["self", "k", "price", "came", "service", "due", "want"]
theorem sc_House_plan : FnScope N_House_plan ["self", "k", "price", "came"] (defScope s_House_plan) := ⟨rfl, rfl, rfl, by decide +kernel, rfl, by decide +kernel, by decide +kernel⟩
abbrev s_House_do : Stmt := inClass (topS 52) 9
abbrev N_House_do : List Str := ["self", "k", "row", "planned", "given", "price", "came", "is_break", "due", "want", "bound", "room", "moment", "run", "need", "states", "cost", "why"]
theorem sc_House_do : FnScope N_House_do ["self", "k", "row", "planned", "given"] (defScope s_House_do) := ⟨rfl, rfl, rfl, by decide +kernel, rfl, by decide +kernel, by decide +kernel⟩
abbrev s_House_need : Stmt := inClass (topS 52) 10
abbrev N_House_need : List Str := ["self", "k", "price", "given", "service", "least"]
theorem sc_House_need : FnScope N_House_need ["self", "k", "price", "given"] (defScope s_House_need) := ⟨rfl, rfl, rfl, by decide +kernel, rfl, by decide +kernel, by decide +kernel⟩
abbrev s_House_moment : Stmt := inClass (topS 52) 11
abbrev N_House_moment : List Str := ["self", "entry", "plans", "weights", "given", "deeds", "k", "row", "service", "planned"]
theorem sc_House_moment : FnScope N_House_moment ["self", "entry"] (defScope s_House_moment) := ⟨rfl, rfl, rfl, by decide +kernel, rfl, by decide +kernel, by decide +kernel⟩
abbrev s_has_shape : Stmt := topS 54
abbrev N_has_shape : List Str := ["setting", "ledger", "record", "moment"]
theorem sc_has_shape : FnScope N_has_shape ["setting", "ledger", "record"] (defScope s_has_shape) := ⟨rfl, rfl, rfl, by decide +kernel, rfl, by decide +kernel, by decide +kernel⟩
abbrev s_are_shares : Stmt := topS 55
abbrev N_are_shares : List Str := ["setting", "moment", "weights", "service", "deed"]
theorem sc_are_shares : FnScope N_are_shares ["setting", "moment"] (defScope s_are_shares) := ⟨rfl, rfl, rfl, by decide +kernel, rfl, by decide +kernel, by decide +kernel⟩
abbrev s_is_deed : Stmt := topS 56
abbrev N_is_deed : List Str := ["service", "least", "queue", "pool", "row", "deed", "price", "came", "is_break", "due", "want", "bound", "given", "moment", "run", "need", "states", "cost", "why"]
theorem sc_is_deed : FnScope N_is_deed ["service", "least", "queue", "pool", "row", "deed"] (defScope s_is_deed) := ⟨rfl, rfl, rfl, by decide +kernel, rfl, by decide +kernel, by decide +kernel⟩
abbrev s_are_deeds : Stmt := topS 57
abbrev N_are_deeds : List Str := ["setting", "ledger", "record", "k", "service", "queue", "pool", "now", "entry", "moment", "least"]
theorem sc_are_deeds : FnScope N_are_deeds ["setting", "ledger", "record", "k"] (defScope s_are_deeds) := ⟨rfl, rfl, rfl, by decide +kernel, rfl, by decide +kernel, by decide +kernel⟩
abbrev s_accepts_record : Stmt := topS 58
abbrev N_accepts_record : List Str := ["setting", "ledger", "record", "moment", "k"]
theorem sc_accepts_record : FnScope N_accepts_record ["setting", "ledger", "record"] (defScope s_accepts_record) := ⟨rfl, rfl, rfl, by decide +kernel, rfl, by decide +kernel, by decide +kernel⟩
abbrev s_l_cell : Stmt := topS 60
abbrev N_l_cell : List Str := ["_law_script", "_law_k"]
theorem sc_l_cell : FnScope N_l_cell ["_law_script", "_law_k"] (defScope s_l_cell) := ⟨rfl, rfl, rfl, by decide +kernel, rfl, by decide +kernel, by decide +kernel⟩
abbrev s_l_draw : Stmt := topS 61
abbrev N_l_draw : List Str := ["_law_cell_here", "_law_k", "_law_many", "_law_rest", "_law_j"]
theorem sc_l_draw : FnScope N_l_draw ["_law_cell_here", "_law_k", "_law_many"] (defScope s_l_draw) := ⟨rfl, rfl, rfl, by decide +kernel, rfl, by decide +kernel, by decide +kernel⟩
abbrev s_l_word : Stmt := topS 62
abbrev N_l_word : List Str := ["_law_number", "_law_letters", "_law_word_here", "_law_k"]
theorem sc_l_word : FnScope N_l_word ["_law_number"] (defScope s_l_word) := ⟨rfl, rfl, rfl, by decide +kernel, rfl, by decide +kernel, by decide +kernel⟩
abbrev s_l_words : Stmt := topS 63
abbrev N_l_words : List Str := ["_law_cell_here", "_law_many", "_law_base", "_law_k"]
theorem sc_l_words : FnScope N_l_words ["_law_cell_here", "_law_many"] (defScope s_l_words) := ⟨rfl, rfl, rfl, by decide +kernel, rfl, by decide +kernel, by decide +kernel⟩
abbrev s_l_is_flag : Stmt := topS 64
abbrev N_l_is_flag : List Str := ["_law_actual"]
theorem sc_l_is_flag : FnScope N_l_is_flag ["_law_actual"] (defScope s_l_is_flag) := ⟨rfl, rfl, rfl, by decide +kernel, rfl, by decide +kernel, by decide +kernel⟩
abbrev s_l_rates : Stmt := topS 65
abbrev N_l_rates : List Str := ["_law_cell_here", "_law_k", "_law_many", "_law_rates_here", "_law_low", "_law_j", "_law_wakes"]
theorem sc_l_rates : FnScope N_l_rates ["_law_cell_here", "_law_k"] (defScope s_l_rates) := ⟨rfl, rfl, rfl, by decide +kernel, rfl, by decide +kernel, by decide +kernel⟩
abbrev s_l_service : Stmt := topS 66
abbrev N_l_service : List Str := ["_law_cell_here", "_law_name", "_law_rates_here", "_law_wakes", "_law_lag", "_law_patience", "_law_room", "_law_most", "_law_budget"]
theorem sc_l_service : FnScope N_l_service ["_law_cell_here", "_law_name"] (defScope s_l_service) := ⟨rfl, rfl, rfl, by decide +kernel, rfl, by decide +kernel, by decide +kernel⟩
abbrev s_l_house : Stmt := topS 67
abbrev N_l_house : List Str := ["_law_script", "_law_many", "_law_names", "_law_services", "_law_k", "_law_keeps", "_law_cell_here", "_law_period", "_law_begin", "_law_end", "_law_quota"]
theorem sc_l_house : FnScope N_l_house ["_law_script"] (defScope s_l_house) := ⟨rfl, rfl, rfl, by decide +kernel, rfl, by decide +kernel, by decide +kernel⟩
abbrev s_l_entry : Stmt := topS 68
abbrev N_l_entry : List Str := ["_law_setting", "_law_cell_here", "_law_entry_here", "_law_k", "_law_price", "_law_came"]
theorem sc_l_entry : FnScope N_l_entry ["_law_setting", "_law_cell_here"] (defScope s_l_entry) := ⟨rfl, rfl, rfl, by decide +kernel, rfl, by decide +kernel, by decide +kernel⟩
abbrev s_l_ledger : Stmt := topS 69
abbrev N_l_ledger : List Str := ["_law_setting", "_law_cells", "_law_cell_here"]
theorem sc_l_ledger : FnScope N_l_ledger ["_law_setting", "_law_cells"] (defScope s_l_ledger) := ⟨rfl, rfl, rfl, by decide +kernel, rfl, by decide +kernel, by decide +kernel⟩
abbrev s_l_spoil_record : Stmt := topS 70
abbrev N_l_spoil_record : List Str := ["_law_record", "_law_cell_here", "_law_rows", "_law_t", "_law_k", "_law_deed", "_law_at", "_law_step", "_law_value", "_law_lane", "_law_moment"]
theorem sc_l_spoil_record : FnScope N_l_spoil_record ["_law_record", "_law_cell_here"] (defScope s_l_spoil_record) := ⟨rfl, rfl, rfl, by decide +kernel, rfl, by decide +kernel, by decide +kernel⟩
abbrev s_law : Stmt := topS 71
abbrev N_law : List Str := ["_law_script", "_law_setting", "_law_ledger_here", "_law_house_here", "_law_entry_here", "_law_record", "_law_cell_here", "_law_other", "_law_actual"]
theorem sc_law : FnScope N_law ["_law_script"] (defScope s_law) := ⟨rfl, rfl, rfl, by decide +kernel, rfl, by decide +kernel, by decide +kernel⟩
/-- what the walk asks of the text as the top has made it -/
structure Ctx (K : PySem.W.Frag) (mg : Str → Option Value) where
  a_limit : Addr
  fd_limit : FuncData
  F_limit : FunD K "limit" "limit" (defArgs s_limit) (defBody s_limit) (defScope s_limit) [] [] a_limit fd_limit
  b_limit : Binds K fd_limit ["pool", "price", "want", "budget"] []
  g_limit : mg "limit" = some (.ref a_limit)
  a_check_tariff : Addr
  fd_check_tariff : FuncData
  F_check_tariff : FunD K "check_tariff" "check_tariff" (defArgs s_check_tariff) (defBody s_check_tariff) (defScope s_check_tariff) [] [] a_check_tariff fd_check_tariff
  b_check_tariff : Binds K fd_check_tariff ["tariff"] []
  g_check_tariff : mg "check_tariff" = some (.ref a_check_tariff)
  a_off : Addr
  fd_off : FuncData
  F_off : FunD K "off" "off" (defArgs s_off) (defBody s_off) (defScope s_off) [] [] a_off fd_off
  b_off : Binds K fd_off ["tariff"] []
  g_off : mg "off" = some (.ref a_off)
  a_rate : Addr
  fd_rate : FuncData
  F_rate : FunD K "rate" "rate" (defArgs s_rate) (defBody s_rate) (defScope s_rate) [] [] a_rate fd_rate
  b_rate : Binds K fd_rate ["tariff", "state"] []
  g_rate : mg "rate" = some (.ref a_rate)
  a_wake : Addr
  fd_wake : FuncData
  F_wake : FunD K "wake" "wake" (defArgs s_wake) (defBody s_wake) (defScope s_wake) [] [] a_wake fd_wake
  b_wake : Binds K fd_wake ["tariff", "state"] []
  g_wake : mg "wake" = some (.ref a_wake)
  a_state_cost : Addr
  fd_state_cost : FuncData
  F_state_cost : FunD K "state_cost" "state_cost" (defArgs s_state_cost) (defBody s_state_cost) (defScope s_state_cost) [] [] a_state_cost fd_state_cost
  b_state_cost : Binds K fd_state_cost ["tariff", "state", "total"] []
  g_state_cost : mg "state_cost" = some (.ref a_state_cost)
  a_idle_state : Addr
  fd_idle_state : FuncData
  F_idle_state : FunD K "idle_state" "idle_state" (defArgs s_idle_state) (defBody s_idle_state) (defScope s_idle_state) [] [] a_idle_state fd_idle_state
  b_idle_state : Binds K fd_idle_state ["tariff", "total"] []
  g_idle_state : mg "idle_state" = some (.ref a_idle_state)
  a_needed_lane : Addr
  fd_needed_lane : FuncData
  F_needed_lane : FunD K "needed_lane" "needed_lane" (defArgs s_needed_lane) (defBody s_needed_lane) (defScope s_needed_lane) [] [] a_needed_lane fd_needed_lane
  b_needed_lane : Binds K fd_needed_lane ["tariff", "lane", "price"] []
  g_needed_lane : mg "needed_lane" = some (.ref a_needed_lane)
  a_idle_lane : Addr
  fd_idle_lane : FuncData
  F_idle_lane : FunD K "idle_lane" "idle_lane" (defArgs s_idle_lane) (defBody s_idle_lane) (defScope s_idle_lane) [] [] a_idle_lane fd_idle_lane
  b_idle_lane : Binds K fd_idle_lane ["tariff", "lane", "price"] []
  g_idle_lane : mg "idle_lane" = some (.ref a_idle_lane)
  a_moved_lanes : Addr
  fd_moved_lanes : FuncData
  F_moved_lanes : FunD K "moved_lanes" "moved_lanes" (defArgs s_moved_lanes) (defBody s_moved_lanes) (defScope s_moved_lanes) [] [] a_moved_lanes fd_moved_lanes
  b_moved_lanes : Binds K fd_moved_lanes ["tariff", "lanes", "price", "need"] []
  g_moved_lanes : mg "moved_lanes" = some (.ref a_moved_lanes)
  a_reserve_of : Addr
  fd_reserve_of : FuncData
  F_reserve_of : FunD K "reserve_of" "reserve_of" (defArgs s_reserve_of) (defBody s_reserve_of) (defScope s_reserve_of) [] [] a_reserve_of fd_reserve_of
  b_reserve_of : Binds K fd_reserve_of ["tariff", "lanes"] []
  g_reserve_of : mg "reserve_of" = some (.ref a_reserve_of)
  a_Pool_init : Addr
  fd_Pool_init : FuncData
  F_Pool_init : FunD K "__init__" "Pool.__init__" (defArgs s_Pool_init) (defBody s_Pool_init) (defScope s_Pool_init) [] [] a_Pool_init fd_Pool_init
  b_Pool_init : Binds K fd_Pool_init ["self", "tariff"] []
  a_Pool_step : Addr
  fd_Pool_step : FuncData
  F_Pool_step : FunD K "step" "Pool.step" (defArgs s_Pool_step) (defBody s_Pool_step) (defScope s_Pool_step) [] [] a_Pool_step fd_Pool_step
  b_Pool_step : Binds K fd_Pool_step ["self", "price", "need"] []
  a_Pool_after : Addr
  fd_Pool_after : FuncData
  F_Pool_after : FunD K "after" "Pool.after" (defArgs s_Pool_after) (defBody s_Pool_after) (defScope s_Pool_after) [] [] a_Pool_after fd_Pool_after
  b_Pool_after : Binds K fd_Pool_after ["self", "price", "need"] []
  a_Pool_end_break : Addr
  fd_Pool_end_break : FuncData
  F_Pool_end_break : FunD K "end_break" "Pool.end_break" (defArgs s_Pool_end_break) (defBody s_Pool_end_break) (defScope s_Pool_end_break) [] [] a_Pool_end_break fd_Pool_end_break
  b_Pool_end_break : Binds K fd_Pool_end_break ["self"] []
  a_Pool_states : Addr
  fd_Pool_states : FuncData
  F_Pool_states : FunD K "states" "Pool.states" (defArgs s_Pool_states) (defBody s_Pool_states) (defScope s_Pool_states) [] [] a_Pool_states fd_Pool_states
  b_Pool_states : Binds K fd_Pool_states ["self"] []
  a_Queue_init : Addr
  fd_Queue_init : FuncData
  F_Queue_init : FunD K "__init__" "Queue.__init__" (defArgs s_Queue_init) (defBody s_Queue_init) (defScope s_Queue_init) [] [] a_Queue_init fd_Queue_init
  b_Queue_init : Binds K fd_Queue_init ["self", "lag", "patience"] []
  a_Queue_due : Addr
  fd_Queue_due : FuncData
  F_Queue_due : FunD K "due" "Queue.due" (defArgs s_Queue_due) (defBody s_Queue_due) (defScope s_Queue_due) [] [] a_Queue_due fd_Queue_due
  b_Queue_due : Binds K fd_Queue_due ["self", "came"] []
  a_Queue_take : Addr
  fd_Queue_take : FuncData
  F_Queue_take : FunD K "take" "Queue.take" (defArgs s_Queue_take) (defBody s_Queue_take) (defScope s_Queue_take) [] [] a_Queue_take fd_Queue_take
  b_Queue_take : Binds K fd_Queue_take ["self", "many"] []
  a_Queue_drop : Addr
  fd_Queue_drop : FuncData
  F_Queue_drop : FunD K "drop" "Queue.drop" (defArgs s_Queue_drop) (defBody s_Queue_drop) (defScope s_Queue_drop) [] [] a_Queue_drop fd_Queue_drop
  b_Queue_drop : Binds K fd_Queue_drop ["self"] []
  a_Queue_step : Addr
  fd_Queue_step : FuncData
  F_Queue_step : FunD K "step" "Queue.step" (defArgs s_Queue_step) (defBody s_Queue_step) (defScope s_Queue_step) [] [] a_Queue_step fd_Queue_step
  b_Queue_step : Binds K fd_Queue_step ["self", "came", "places"] []
  a_is_word : Addr
  fd_is_word : FuncData
  F_is_word : FunD K "is_word" "is_word" (defArgs s_is_word) (defBody s_is_word) (defScope s_is_word) [] [] a_is_word fd_is_word
  b_is_word : Binds K fd_is_word ["text"] []
  g_is_word : mg "is_word" = some (.ref a_is_word)
  a_check_service : Addr
  fd_check_service : FuncData
  F_check_service : FunD K "check_service" "check_service" (defArgs s_check_service) (defBody s_check_service) (defScope s_check_service) [] [] a_check_service fd_check_service
  b_check_service : Binds K fd_check_service ["setting"] []
  g_check_service : mg "check_service" = some (.ref a_check_service)
  a_check_keep : Addr
  fd_check_keep : FuncData
  F_check_keep : FunD K "check_keep" "check_keep" (defArgs s_check_keep) (defBody s_check_keep) (defScope s_check_keep) [] [] a_check_keep fd_check_keep
  b_check_keep : Binds K fd_check_keep ["keep", "names"] []
  g_check_keep : mg "check_keep" = some (.ref a_check_keep)
  a_check_house : Addr
  fd_check_house : FuncData
  F_check_house : FunD K "check_house" "check_house" (defArgs s_check_house) (defBody s_check_house) (defScope s_check_house) [] [] a_check_house fd_check_house
  b_check_house : Binds K fd_check_house ["setting"] []
  g_check_house : mg "check_house" = some (.ref a_check_house)
  a_kept : Addr
  fd_kept : FuncData
  F_kept : FunD K "kept" "kept" (defArgs s_kept) (defBody s_kept) (defScope s_kept) [] [] a_kept fd_kept
  b_kept : Binds K fd_kept ["setting", "name", "moment"] []
  g_kept : mg "kept" = some (.ref a_kept)
  a_comes_before : Addr
  fd_comes_before : FuncData
  F_comes_before : FunD K "comes_before" "comes_before" (defArgs s_comes_before) (defBody s_comes_before) (defScope s_comes_before) [] [] a_comes_before fd_comes_before
  b_comes_before : Binds K fd_comes_before ["first", "second", "weights", "given"] []
  g_comes_before : mg "comes_before" = some (.ref a_comes_before)
  a_next_service : Addr
  fd_next_service : FuncData
  F_next_service : FunD K "next_service" "next_service" (defArgs s_next_service) (defBody s_next_service) (defScope s_next_service) [] [] a_next_service fd_next_service
  b_next_service : Binds K fd_next_service ["wants", "weights", "given"] []
  g_next_service : mg "next_service" = some (.ref a_next_service)
  a_shares : Addr
  fd_shares : FuncData
  F_shares : FunD K "shares" "shares" (defArgs s_shares) (defBody s_shares) (defScope s_shares) [] [] a_shares fd_shares
  b_shares : Binds K fd_shares ["quota", "wants", "weights"] []
  g_shares : mg "shares" = some (.ref a_shares)
  a_is_fair : Addr
  fd_is_fair : FuncData
  F_is_fair : FunD K "is_fair" "is_fair" (defArgs s_is_fair) (defBody s_is_fair) (defScope s_is_fair) [] [] a_is_fair fd_is_fair
  b_is_fair : Binds K fd_is_fair ["wants", "weights", "given", "a", "b"] []
  g_is_fair : mg "is_fair" = some (.ref a_is_fair)
  a_accepts_shares : Addr
  fd_accepts_shares : FuncData
  F_accepts_shares : FunD K "accepts_shares" "accepts_shares" (defArgs s_accepts_shares) (defBody s_accepts_shares) (defScope s_accepts_shares) [] [] a_accepts_shares fd_accepts_shares
  b_accepts_shares : Binds K fd_accepts_shares ["quota", "wants", "weights", "given"] []
  g_accepts_shares : mg "accepts_shares" = some (.ref a_accepts_shares)
  a_wanted : Addr
  fd_wanted : FuncData
  F_wanted : FunD K "wanted" "wanted" (defArgs s_wanted) (defBody s_wanted) (defScope s_wanted) [] [] a_wanted fd_wanted
  b_wanted : Binds K fd_wanted ["due", "room", "most"] []
  g_wanted : mg "wanted" = some (.ref a_wanted)
  a_reason : Addr
  fd_reason : FuncData
  F_reason : FunD K "reason" "reason" (defArgs s_reason) (defBody s_reason) (defScope s_reason) [] [] a_reason fd_reason
  b_reason : Binds K fd_reason ["due", "run", "want", "bound", "given"] []
  g_reason : mg "reason" = some (.ref a_reason)
  a_check_entry : Addr
  fd_check_entry : FuncData
  F_check_entry : FunD K "check_entry" "check_entry" (defArgs s_check_entry) (defBody s_check_entry) (defScope s_check_entry) [] [] a_check_entry fd_check_entry
  b_check_entry : Binds K fd_check_entry ["entry", "many"] []
  g_check_entry : mg "check_entry" = some (.ref a_check_entry)
  a_House_init : Addr
  fd_House_init : FuncData
  F_House_init : FunD K "__init__" "House.__init__" (defArgs s_House_init) (defBody s_House_init) (defScope s_House_init) [] [] a_House_init fd_House_init
  b_House_init : Binds K fd_House_init ["self", "setting"] []
  a_House_record : Addr
  fd_House_record : FuncData
  F_House_record : FunD K "record" "House.record" (defArgs s_House_record) (defBody s_House_record) (defScope s_House_record) [] [] a_House_record fd_House_record
  b_House_record : Binds K fd_House_record ["self"] []
  a_House_now : Addr
  fd_House_now : FuncData
  F_House_now : FunD K "now" "House.now" (defArgs s_House_now) (defBody s_House_now) (defScope s_House_now) [] [] a_House_now fd_House_now
  b_House_now : Binds K fd_House_now ["self"] []
  a_House_plan : Addr
  fd_House_plan : FuncData
  F_House_plan : FunD K "plan" "House.plan" (defArgs s_House_plan) (defBody s_House_plan) (defScope s_House_plan) [] [] a_House_plan fd_House_plan
  b_House_plan : Binds K fd_House_plan ["self", "k", "price", "came"] []
  a_House_do : Addr
  fd_House_do : FuncData
  F_House_do : FunD K "do" "House.do" (defArgs s_House_do) (defBody s_House_do) (defScope s_House_do) [] [] a_House_do fd_House_do
  b_House_do : Binds K fd_House_do ["self", "k", "row", "planned", "given"] []
  a_House_need : Addr
  fd_House_need : FuncData
  F_House_need : FunD K "need" "House.need" (defArgs s_House_need) (defBody s_House_need) (defScope s_House_need) [] [] a_House_need fd_House_need
  b_House_need : Binds K fd_House_need ["self", "k", "price", "given"] []
  a_House_moment : Addr
  fd_House_moment : FuncData
  F_House_moment : FunD K "moment" "House.moment" (defArgs s_House_moment) (defBody s_House_moment) (defScope s_House_moment) [] [] a_House_moment fd_House_moment
  b_House_moment : Binds K fd_House_moment ["self", "entry"] []
  a_has_shape : Addr
  fd_has_shape : FuncData
  F_has_shape : FunD K "has_shape" "has_shape" (defArgs s_has_shape) (defBody s_has_shape) (defScope s_has_shape) [] [] a_has_shape fd_has_shape
  b_has_shape : Binds K fd_has_shape ["setting", "ledger", "record"] []
  g_has_shape : mg "has_shape" = some (.ref a_has_shape)
  a_are_shares : Addr
  fd_are_shares : FuncData
  F_are_shares : FunD K "are_shares" "are_shares" (defArgs s_are_shares) (defBody s_are_shares) (defScope s_are_shares) [] [] a_are_shares fd_are_shares
  b_are_shares : Binds K fd_are_shares ["setting", "moment"] []
  g_are_shares : mg "are_shares" = some (.ref a_are_shares)
  a_is_deed : Addr
  fd_is_deed : FuncData
  F_is_deed : FunD K "is_deed" "is_deed" (defArgs s_is_deed) (defBody s_is_deed) (defScope s_is_deed) [] [] a_is_deed fd_is_deed
  b_is_deed : Binds K fd_is_deed ["service", "least", "queue", "pool", "row", "deed"] []
  g_is_deed : mg "is_deed" = some (.ref a_is_deed)
  a_are_deeds : Addr
  fd_are_deeds : FuncData
  F_are_deeds : FunD K "are_deeds" "are_deeds" (defArgs s_are_deeds) (defBody s_are_deeds) (defScope s_are_deeds) [] [] a_are_deeds fd_are_deeds
  b_are_deeds : Binds K fd_are_deeds ["setting", "ledger", "record", "k"] []
  g_are_deeds : mg "are_deeds" = some (.ref a_are_deeds)
  a_accepts_record : Addr
  fd_accepts_record : FuncData
  F_accepts_record : FunD K "accepts_record" "accepts_record" (defArgs s_accepts_record) (defBody s_accepts_record) (defScope s_accepts_record) [] [] a_accepts_record fd_accepts_record
  b_accepts_record : Binds K fd_accepts_record ["setting", "ledger", "record"] []
  g_accepts_record : mg "accepts_record" = some (.ref a_accepts_record)
  a_l_cell : Addr
  fd_l_cell : FuncData
  F_l_cell : FunD K "_law_cell" "_law_cell" (defArgs s_l_cell) (defBody s_l_cell) (defScope s_l_cell) [] [] a_l_cell fd_l_cell
  b_l_cell : Binds K fd_l_cell ["_law_script", "_law_k"] []
  g_l_cell : mg "_law_cell" = some (.ref a_l_cell)
  a_l_draw : Addr
  fd_l_draw : FuncData
  F_l_draw : FunD K "_law_draw" "_law_draw" (defArgs s_l_draw) (defBody s_l_draw) (defScope s_l_draw) [] [] a_l_draw fd_l_draw
  b_l_draw : Binds K fd_l_draw ["_law_cell_here", "_law_k", "_law_many"] []
  g_l_draw : mg "_law_draw" = some (.ref a_l_draw)
  a_l_word : Addr
  fd_l_word : FuncData
  F_l_word : FunD K "_law_word" "_law_word" (defArgs s_l_word) (defBody s_l_word) (defScope s_l_word) [] [] a_l_word fd_l_word
  b_l_word : Binds K fd_l_word ["_law_number"] []
  g_l_word : mg "_law_word" = some (.ref a_l_word)
  a_l_words : Addr
  fd_l_words : FuncData
  F_l_words : FunD K "_law_words" "_law_words" (defArgs s_l_words) (defBody s_l_words) (defScope s_l_words) [] [] a_l_words fd_l_words
  b_l_words : Binds K fd_l_words ["_law_cell_here", "_law_many"] []
  g_l_words : mg "_law_words" = some (.ref a_l_words)
  a_l_is_flag : Addr
  fd_l_is_flag : FuncData
  F_l_is_flag : FunD K "_law_is_flag" "_law_is_flag" (defArgs s_l_is_flag) (defBody s_l_is_flag) (defScope s_l_is_flag) [] [] a_l_is_flag fd_l_is_flag
  b_l_is_flag : Binds K fd_l_is_flag ["_law_actual"] []
  g_l_is_flag : mg "_law_is_flag" = some (.ref a_l_is_flag)
  a_l_rates : Addr
  fd_l_rates : FuncData
  F_l_rates : FunD K "_law_rates" "_law_rates" (defArgs s_l_rates) (defBody s_l_rates) (defScope s_l_rates) [] [] a_l_rates fd_l_rates
  b_l_rates : Binds K fd_l_rates ["_law_cell_here", "_law_k"] []
  g_l_rates : mg "_law_rates" = some (.ref a_l_rates)
  a_l_service : Addr
  fd_l_service : FuncData
  F_l_service : FunD K "_law_service" "_law_service" (defArgs s_l_service) (defBody s_l_service) (defScope s_l_service) [] [] a_l_service fd_l_service
  b_l_service : Binds K fd_l_service ["_law_cell_here", "_law_name"] []
  g_l_service : mg "_law_service" = some (.ref a_l_service)
  a_l_house : Addr
  fd_l_house : FuncData
  F_l_house : FunD K "_law_house" "_law_house" (defArgs s_l_house) (defBody s_l_house) (defScope s_l_house) [] [] a_l_house fd_l_house
  b_l_house : Binds K fd_l_house ["_law_script"] []
  g_l_house : mg "_law_house" = some (.ref a_l_house)
  a_l_entry : Addr
  fd_l_entry : FuncData
  F_l_entry : FunD K "_law_entry" "_law_entry" (defArgs s_l_entry) (defBody s_l_entry) (defScope s_l_entry) [] [] a_l_entry fd_l_entry
  b_l_entry : Binds K fd_l_entry ["_law_setting", "_law_cell_here"] []
  g_l_entry : mg "_law_entry" = some (.ref a_l_entry)
  a_l_ledger : Addr
  fd_l_ledger : FuncData
  F_l_ledger : FunD K "_law_ledger" "_law_ledger" (defArgs s_l_ledger) (defBody s_l_ledger) (defScope s_l_ledger) [] [] a_l_ledger fd_l_ledger
  b_l_ledger : Binds K fd_l_ledger ["_law_setting", "_law_cells"] []
  g_l_ledger : mg "_law_ledger" = some (.ref a_l_ledger)
  a_l_spoil_record : Addr
  fd_l_spoil_record : FuncData
  F_l_spoil_record : FunD K "_law_spoil_record" "_law_spoil_record" (defArgs s_l_spoil_record) (defBody s_l_spoil_record) (defScope s_l_spoil_record) [] [] a_l_spoil_record fd_l_spoil_record
  b_l_spoil_record : Binds K fd_l_spoil_record ["_law_record", "_law_cell_here"] []
  g_l_spoil_record : mg "_law_spoil_record" = some (.ref a_l_spoil_record)
  a_law : Addr
  fd_law : FuncData
  F_law : FunD K "law" "law" (defArgs s_law) (defBody s_law) (defScope s_law) [] [] a_law fd_law
  b_law : Binds K fd_law ["_law_script"] []
  g_law : mg "law" = some (.ref a_law)
  c_Pool : Addr
  cl_Pool : Cls K c_Pool
  g_Pool : mg "Pool" = some (.ref c_Pool)
  mk_Pool : Mk K c_Pool a_Pool_init
  n_Pool_tariff : NoAttr K c_Pool "tariff"
  n_Pool__lanes : NoAttr K c_Pool "_lanes"
  n_Pool__spent : NoAttr K c_Pool "_spent"
  c_Queue : Addr
  cl_Queue : Cls K c_Queue
  g_Queue : mg "Queue" = some (.ref c_Queue)
  mk_Queue : Mk K c_Queue a_Queue_init
  n_Queue_lag : NoAttr K c_Queue "lag"
  n_Queue_patience : NoAttr K c_Queue "patience"
  n_Queue_waiting : NoAttr K c_Queue "waiting"
  n_Queue_coming : NoAttr K c_Queue "coming"
  c_House : Addr
  cl_House : Cls K c_House
  g_House : mg "House" = some (.ref c_House)
  mk_House : Mk K c_House a_House_init
  n_House_told_setting : NoAttr K c_House "told_setting"
  n_House_queues : NoAttr K c_House "queues"
  n_House_pools : NoAttr K c_House "pools"
  n_House_entries : NoAttr K c_House "entries"
  n_House_deeds : NoAttr K c_House "deeds"
  n_House_begun : NoAttr K c_House "begun"
  m_Pool_step : Meth K c_Pool "step" a_Pool_step
  m_Pool_after : Meth K c_Pool "after" a_Pool_after
  m_Pool_end_break : Meth K c_Pool "end_break" a_Pool_end_break
  m_Pool_states : Meth K c_Pool "states" a_Pool_states
  m_Queue_due : Meth K c_Queue "due" a_Queue_due
  m_Queue_take : Meth K c_Queue "take" a_Queue_take
  m_Queue_drop : Meth K c_Queue "drop" a_Queue_drop
  m_Queue_step : Meth K c_Queue "step" a_Queue_step
  m_House_record : Meth K c_House "record" a_House_record
  m_House_now : Meth K c_House "now" a_House_now
  m_House_plan : Meth K c_House "plan" a_House_plan
  m_House_do : Meth K c_House "do" a_House_do
  m_House_need : Meth K c_House "need" a_House_need
  m_House_moment : Meth K c_House "moment" a_House_moment
  n_abs : mg "abs" = none
  n_all : mg "all" = none
  n_enumerate : mg "enumerate" = none
  n_int : mg "int" = none
  n_len : mg "len" = none
  n_list : mg "list" = none
  n_max : mg "max" = none
  n_min : mg "min" = none
  n_range : mg "range" = none
  n_sorted : mg "sorted" = none
  n_sum : mg "sum" = none
  n_tuple : mg "tuple" = none
  n_zip : mg "zip" = none
  t_LANES : Tok
  i_LANES : mg "LANES" = some (.int 40 t_LANES)
  t_MOST_RATES : Tok
  i_MOST_RATES : mg "MOST_RATES" = some (.int 4 t_MOST_RATES)
  t_GREATEST : Tok
  i_GREATEST : mg "GREATEST" = some (.int 10000 t_GREATEST)
  t_MAX_LETTERS : Tok
  i_MAX_LETTERS : mg "MAX_LETTERS" = some (.int 12 t_MAX_LETTERS)
  t_MAX_SERVICES : Tok
  i_MAX_SERVICES : mg "MAX_SERVICES" = some (.int 6 t_MAX_SERVICES)
  t_MAX_QUOTA : Tok
  i_MAX_QUOTA : mg "MAX_QUOTA" = some (.int 200 t_MAX_QUOTA)
  t_MAX_KEEPS : Tok
  i_MAX_KEEPS : mg "MAX_KEEPS" = some (.int 12 t_MAX_KEEPS)
  t_MAX_MOST : Tok
  i_MAX_MOST : mg "MAX_MOST" = some (.int 40 t_MAX_MOST)
  t_MAX_PERIOD : Tok
  i_MAX_PERIOD : mg "MAX_PERIOD" = some (.int 100 t_MAX_PERIOD)
  t_MAX_PRICE : Tok
  i_MAX_PRICE : mg "MAX_PRICE" = some (.int 100 t_MAX_PRICE)
  t_MAX_CAME : Tok
  i_MAX_CAME : mg "MAX_CAME" = some (.int 1000 t_MAX_CAME)
  t_LETTERS : Tok
  i_LETTERS : mg "LETTERS" = some (.str "abcdefghijklmnopqrstuvwxyz" t_LETTERS)
  r_RANGES : Addr
  r_RANGES0 : Addr
  r_RANGES1 : Addr
  r_RANGES2 : Addr
  r_RANGES3 : Addr
  r_RANGES4 : Addr
  r_RANGES5 : Addr
  i_RANGES : mg "RANGES" = some (.ref r_RANGES)
  q_RANGES : ∀ H : Hp, SqT K H r_RANGES [.ref r_RANGES0, .ref r_RANGES1, .ref r_RANGES2, .ref r_RANGES3, .ref r_RANGES4, .ref r_RANGES5]
  q_RANGES0 : ∀ H : Hp, SqT K H r_RANGES0 [.int 1, .int 64]
  q_RANGES1 : ∀ H : Hp, SqT K H r_RANGES1 [.int 0, .int 20]
  q_RANGES2 : ∀ H : Hp, SqT K H r_RANGES2 [.int 0, .int 20]
  q_RANGES3 : ∀ H : Hp, SqT K H r_RANGES3 [.int 1, .int 9]
  q_RANGES4 : ∀ H : Hp, SqT K H r_RANGES4 [.int 0, .int 40]
  q_RANGES5 : ∀ H : Hp, SqT K H r_RANGES5 [.int 0, .int 1000000]
end K65
set_option Elab.async false
set_option linter.all false
set_option maxRecDepth 100000
set_option maxHeartbeats 4000000
/-! rules of my own: a target that is an attribute, xs[i] op= e, a try that runs through, enumerate over a tuple, enumerate over zip of two lists -/
namespace K65
open PySem PySem.Spec PyProof.Rows L2
section
variable {X : Cx} {pos : Pos}
def gFld (K : PySem.W.Frag) (ta : TE) (f : Str) : TG := fun v σ H Q =>
  ta σ H fun x H1 => ∃ a C dx fs, x = .ref a ∧ H1 a = some (.ins C dx fs) ∧ Cls K C ∧ NoAttr K C f ∧ fs.length < 1000 ∧ Q σ (upd H1 a (.ins C dx (putF f v fs)))
theorem pg_fld {o : Expr} {f : Str} {ta : TE} (ha : PE X o ta) : PG X (.Attribute o f pos) (gFld X.K ta f) := by
  refine ⟨fun pins s σ H v u Q I r h => ?_⟩
  refine PySem.W.kas_attr (thn (ha.run pins s σ H _ I h) fun ov s1 ⟨x, H1, I1, rx, a, C, dx, fs, ex, ea, c, n, l, q⟩ => ?_)
  subst ex
  obtain rfl : ov = Value.ref a := rx
  exact setattr_ok I1 ea c n l r fun s2 I2 => ⟨σ, _, I2, q⟩
/-- xs[j] by values, j a place in the list -/
def rGetL (K : PySem.W.Frag) : V → V → Hp → VK → Prop := fun o i H Q =>
  ∃ (p : Addr) (xs : List V) (j : Nat) (v : V), o = .ref p ∧ i = .int (j : Int) ∧ SqL K H p xs ∧ xs[j]? = some v ∧ Q v H
theorem pgt_list : PGet X (rGetL X.K) := by
  intro pins s σ H o i ov iv Q I ro ri h
  obtain ⟨p, xs, j, v, rfl, rfl, hq, hx, q⟩ := h
  cases ro
  obtain ⟨t, rfl⟩ := ri
  obtain ⟨its, rv, pl, hz⟩ := I.list hq
  obtain ⟨u, hu, ru⟩ := rv.get hx
  have hj : j < xs.length := (List.getElem?_eq_some_iff.mp hx).1
  have l63 := line63
  refine wpAny_getItem_list pl.isList (by omega) (by omega) (x := u) ?_ ⟨v, H, I, ru, q⟩
  simpa using hu
theorem ps_tryOk {body : List Stmt} {h0 : ExceptHandler} {hs : List ExceptHandler} {tb : TS} (hb : PSs X.nox body tb) :
    PS X (.Try body (h0 :: hs) [] [] pos) tb := by
  refine ⟨fun pins s σ H D I h => ?_⟩
  refine wpAny_Try_except (wpAny_mono (hb.run pins s σ H D (I.wish _) h) (fun f s1 q => ?_) (fun e s1 z => False.elim z))
  have q' := SP.unwish q
  cases f with
  | next => exact wpAny_execs_nil q'
  | ret v => exact q'
  | brk => exact q'
  | cont => exact q'
end
/-! rules in a comprehension's block, the written part told by itself -/
section
variable {X : Cx} {K : PySem.W.Frag} {pos : Pos}
theorem ix_tupK (h : X.K = K) : IxR X (rIxT K) := by subst h; exact ix_tup
theorem ix_listK (h : X.K = K) : IxR X (rIxL K) := by subst h; exact ix_list
def rLenK (K : PySem.W.Frag) : List V → Hp → VK → Prop := fun xs H Q => ∃ p ys, xs = [.ref p] ∧ (SqL K H p ys ∨ SqT K H p ys) ∧ Q (.int ys.length) H
theorem call_len_seqK (h : X.K = K) : CallR X (.builtin "len") (rLenK K) := by subst h; exact call_len_seq
def rListK (K : PySem.W.Frag) : List V → Hp → VK → Prop := fun xs H Q => ∃ p ys, xs = [.ref p] ∧ (SqL K H p ys ∨ SqT K H p ys) ∧ ∀ l, H l = none → Q (.ref l) (upd H l (.lst ys))
theorem call_list_ofK (h : X.K = K) : CallR X (.type "list") (rListK K) := by subst h; exact call_list_of
theorem pe_fldK {e : Expr} {f : Str} {ta : TE} (h : X.K = K) (he : PE X e ta) (hb : attributeBase e f X.env (eval e X.env) = eval e X.env) : PE X (.Attribute e f pos) (tFld K ta f) := by
  subst h
  exact pe_fld he hb
theorem pg_tupK {es : List Expr} {k : Nat} {t : TGs} {n : Nat} (h : X.K = K) (hc : X.calm = true) (hg : PGs X es t)
    (hn : (assignEach es X.env).length = n := by rfl) (hst : (assignEach es X.env).findIdx? (·.1) = none := by rfl) : PG X (.Tuple es k pos) (gTup K n t) := by
  subst h
  exact pg_tup hc hg hn hst
end
section
variable {X : Cx}
/-- a statement, then the rest, a word between them -/
def tCutK (t u : TS) : TS := fun D σ H => ∃ Mid : L2.St → Hp → Prop, t { D with nx := Mid } σ H ∧ ∀ σ' H', Mid σ' H' → u D σ' H'
theorem pss_cutK {st : Stmt} {rest : List Stmt} {t u : TS} (h1 : PS X st t) (h2 : PSs X rest u) : PSs X (st :: rest) (tCutK t u) := by
  refine ⟨fun pins s σ H D I h => ?_⟩
  obtain ⟨Mid, hm, hu⟩ := h
  refine wpAny_execs_cons (thn (h1.run pins s σ H { D with nx := Mid } I hm) fun f s1 q => ?_)
  cases f with
  | next =>
    obtain ⟨σ', H', I', q⟩ := q
    exact h2.run pins s1 σ' H' D I' (hu σ' H' q)
  | ret v => exact q
  | brk => exact q
  | cont => exact q
end
end K65
set_option Elab.async false
set_option linter.all false
set_option maxRecDepth 100000
set_option maxHeartbeats 4000000
namespace K65
open PySem PySem.Spec PyProof.Rows L2
/-! enumerate of anything whose iterator is at hand -/
theorem meets_enumOf {v : Value} (itv : Heap → Value) (gr : Heap → Heap) {Pre : Heap → Prop}
    (ok : ∀ (prog : Program) (w : World) (A : Around) (E : Value → Shared → Prop) (s : Shared) (Q : Value → Shared → Prop), Pre s.heap →
      Q (itv s.heap) { s with heap := gr s.heap } → wpAny (model prog w) A (pyIter v) Q E s) :
    Meets (Builtin.«enumerate.__new__» ⟨[.type "enumerate", v], []⟩) (fun _ R s => Pre s.heap ∧
      R (.ok (.ret (.ref (gr s.heap).objs.size))) { s with heap := (gr s.heap).push { cls := .type "enumerate", data := .fields #[.none, .bool false, itv s.heap, rawInt 0, .none, .none] } }) :=
  .of_wp fun prog w A R s h => by
    obtain ⟨hp, g, d, tk, os⟩ := s
    obtain ⟨pre, fin⟩ := h
    have hs := sub_enumerate
    have go : ∀ {A' : Around} {E Q : Value → Shared → Prop}, Q (itv hp) ⟨gr hp, g, d, tk, os⟩ → wpAny (model prog w) A' (pyIter v) Q E ⟨hp, g, d, tk, os⟩ :=
      fun q => ok prog w _ _ ⟨hp, g, d, tk, os⟩ _ pre q
    wp_walk using go
    refine wpAny_stack_any fun st => wpAny_pure ?_
    split
    · rename_i c _ _ _ _ _
      cases (c == Value.type "enumerate")
      all_goals
        wp_walk using go
        exact ⟨_, rfl, fin⟩
    · wp_walk using go
      exact ⟨_, rfl, fin⟩
section
variable {prog : Program} {w : World} {A : Around} {E : Value → Shared → Prop} {s : Shared}
/-- enumerate(t) of a tuple -/
theorem call_enumT {t : Addr} {items : Array Value} {Q : Value → Shared → Prop} (ht : s.heap.IsTuple t items)
    (h : ∀ h', IsEnum h' (s.heap.objs.size + 1) s.heap.objs.size 0 .none → h'.IsTupleIter s.heap.objs.size t 0 →
      (∀ b o, s.heap.get? b = some o → h'.get? b = some o) → Q (.ref (s.heap.objs.size + 1)) { s with heap := h' }) :
    wpAny (model prog w) A (call (.type "enumerate") [.ref t]) Q E s := by
  refine callType_new F.called_enumerate (by decide) (F.typeCall_enumerate_1 _) (F.newCall_enumerate_1 _) (fun obj => F.args_object_init_2 obj _) F.entry_enumerate_new
    (meets_enumOf (v := .ref t) (fun h => .ref h.objs.size) (fun h => h.push { cls := .type "tuple_iterator", data := .fields #[.ref t, .int 0 0] })
      (Pre := fun h => h.IsTuple t items) fun prog w A E s Q pre q => wpAny_pyIter_tuple pre q) ⟨ht, ?_⟩
  have z1 : (s.heap.push { cls := .type "tuple_iterator", data := .fields #[.ref t, .int 0 0] }).objs.size = s.heap.objs.size + 1 := Heap.size_push ..
  have he : IsEnum ((s.heap.push { cls := .type "tuple_iterator", data := .fields #[.ref t, .int 0 0] }).push { cls := .type "enumerate", data := .fields #[.none, .bool false, .ref s.heap.objs.size, rawInt 0, .none, .none] })
      (s.heap.objs.size + 1) s.heap.objs.size 0 .none := by
    rw [← z1]
    exact Heap.get?_push_size _ rfl
  show _ ∧ _
  rw [z1]
  exact ⟨⟨_, he, rfl⟩, h _ he ⟨_, Heap.get?_push_of_some _ (Heap.get?_push_size _ rfl), rfl, rfl⟩ fun b o x => Heap.get?_push_of_some _ (Heap.get?_push_of_some _ x)⟩
/-- enumerate(z) of a zip object: iter(z) is z -/
theorem call_enumZ {z TI TO : Addr} {Q : Value → Shared → Prop} (hz : IsZip s.heap z TI TO .none)
    (h : ∀ h', IsEnum h' s.heap.objs.size z 0 .none →
      (∀ b o, s.heap.get? b = some o → h'.get? b = some o) → Q (.ref s.heap.objs.size) { s with heap := h' }) :
    wpAny (model prog w) A (call (.type "enumerate") [.ref z]) Q E s := by
  refine callType_new F.called_enumerate (by decide) (F.typeCall_enumerate_1 _) (F.newCall_enumerate_1 _) (fun obj => F.args_object_init_2 obj _) F.entry_enumerate_new
    (meets_enumOf (v := .ref z) (fun _ => .ref z) (fun h => h) (Pre := fun h => IsZip h z TI TO .none) fun prog w A E s Q pre q => wpAny_pyIter_zip pre q) ⟨hz, ?_⟩
  have he : IsEnum (s.heap.push { cls := .type "enumerate", data := .fields #[.none, .bool false, .ref z, rawInt 0, .none, .none] }) s.heap.objs.size z 0 .none := Heap.get?_push_size _ rfl
  exact ⟨⟨_, he, rfl⟩, h _ he fun b o x => Heap.get?_push_of_some _ x⟩
end
/-! for .. in enumerate(a tuple) -/
def IteT (K : PySem.W.Frag) (a : Addr) : It :=
  ⟨fun i H => ∃ (xs : List V) (x : V), SqT K H a xs ∧ xs[i]? = some x,
   fun i H v H' => ∃ T x, v = .ref T ∧ H T = none ∧ H' = upd H T (.tup [.int (i : Nat), x]) ∧ ∀ xs, SqT K H a xs → xs[i]? = some x,
   fun i H => ∃ xs : List V, SqT K H a xs ∧ xs.length ≤ i⟩
theorem turn_enumT {P : Program} {w : World} {K : PySem.W.Frag} {elts : List Expr} {kk : Nat} {tpos : Pos} (a e it : Addr) :
    Turn P w K (.Tuple elts kk tpos) (IteT K a) [e, it] e (fun i h => (∃ old, IsEnum h e it ((i : Nat) : Int) old) ∧ h.IsTupleIter it a i ∧ e ≠ it) where
  mem := by simp
  obj := fun i h st b hb => by
    obtain ⟨⟨old, he⟩, ⟨o, ho, hc, hd⟩, _⟩ := st
    rcases (show b = e ∨ b = it by simpa using hb) with rfl | rfl
    · exact ⟨_, he, fun v q => nomatch q⟩
    · exact ⟨o, ho, fun v q => by rw [hd] at q; cases q⟩
  keep := fun i h h' st k => by
    obtain ⟨⟨old, he⟩, ⟨o, ho, r⟩, hne⟩ := st
    exact ⟨⟨old, k e (by simp) _ he⟩, ⟨o, k it (by simp) _ ho, r⟩, hne⟩
  item := by
    intro X hP hw hK hc i pins s σ H E I hf st hg
    subst hP hw hK
    obtain ⟨⟨old, he⟩, hit, hne⟩ := st
    obtain ⟨xs, x, hq, hx⟩ := hg
    obtain ⟨its, rv, p, hz⟩ := I.tuple hq
    obtain ⟨u, hu, ru⟩ := rv.get hx
    have hT : s.heap.IsTuple a its.toArray := p
    have hae : a ≠ e := fun z => by
      obtain ⟨o, e1, e2, n, e3⟩ := hT
      rw [z, he] at e1
      cases e1
      cases e3
    have hai : a ≠ it := fun z => by
      obtain ⟨o, e1, e2, n, e3⟩ := hT
      obtain ⟨o', f1, f2, f3⟩ := hit
      rw [z, f1] at e1
      cases e1
      rw [f3] at e3
      cases e3
    have hel : e < s.heap.objs.size := Heap.lt_size he
    have hil : it < s.heap.objs.size := by obtain ⟨_, q, _⟩ := hit; exact Heap.lt_size q
    have hlt : i < its.toArray.size := by
      have h1 := (List.getElem?_eq_some_iff.mp hu).1
      simpa using h1
    have hh : X.A.in1.handled = none := I.ok.hd hc
    refine wpAny_pyNext_enum_itemD (Draws.tuple hh it a hai its.toArray) he ⟨hit, hT⟩ hlt hne (by simp [hne, Ne.symm hae]) fun y h' tk hP ho hst hTp hsz hk => ?_
    have ey : y = u := by
      have h2 : its.toArray[i]? = some y := hP
      rw [show its.toArray[i]? = some u by simpa using hu] at h2
      exact (Option.some.inj h2).symm
    subst ey
    refine ⟨_, rfl, wpAny_letOwnedTupleGo_enum (s := { s with heap := h', toks := tk + 1 }) ho fun h'' he' sb => ?_⟩
    have hT2 : h''.get? s.heap.objs.size = some { cls := .type "tuple", data := .seq #[.int i tk, y] } := (sb.2 _ (Nat.ne_of_gt hel)).trans hTp
    have new : ObjOk X.prog X.w (upd H s.heap.objs.size (.tup [.int (i : Nat), x])) h'' s.heap.objs.size (.tup [.int (i : Nat), x]) :=
      ⟨by show 2 ≤ sizeLine; decide, [.int i tk, y], .cons ⟨_, rfl⟩ (.cons ru .nil), ⟨_, hT2, rfl, _, rfl⟩⟩
    have I1 : Inv X pins σ (upd H s.heap.objs.size (.tup [.int (i : Nat), x])) { s with heap := h'', toks := tk + 1 } :=
      I.turnedNew (ch := [e, it]) (fun b ob hb q => (sb.2 b (fun z => hb (by simp [z]))).trans (hk b ob (fun z => hb (by simp [z])) (fun z => hb (by simp [z])) q)) hf (Nat.le_refl _) new
    obtain ⟨⟨oi, hoi, ri⟩, _⟩ := hst
    refine ⟨.ref s.heap.objs.size, _, I1, rfl, ⟨_, x, rfl, I.hok.fresh (Nat.le_refl _), rfl, fun ys hy => by rw [I.tuple_inj hy hq]; exact hx⟩, ⟨⟨y, ?_⟩, ⟨oi, (sb.2 it (Ne.symm hne)).trans hoi, ri⟩, hne⟩, fun b hb => ?_⟩
    · rw [show ((i + 1 : Nat) : Int) = (i : Int) + 1 by omega]
      exact he'
    · have hb' : b < s.heap.objs.size := by
        rcases (show b = e ∨ b = it by simpa using hb) with rfl | rfl
        · exact hel
        · exact hil
      rw [upd_ne (Nat.ne_of_lt hb')]
      exact (hf b hb).1
  done := by
    intro X hP hw hK hc i pins s σ H E I hf st hg
    subst hP hw hK
    obtain ⟨⟨old, he⟩, hit, hne⟩ := st
    obtain ⟨xs, hq, hx⟩ := hg
    obtain ⟨its, rv, p, hz⟩ := I.tuple hq
    have hl := rv.length
    have hT : s.heap.IsTuple a its.toArray := p
    have hai : a ≠ it := fun z => by
      obtain ⟨o, e1, e2, n, e3⟩ := hT
      obtain ⟨o', f1, f2, f3⟩ := hit
      rw [z, f1] at e1
      cases e1
      rw [f3] at e3
      cases e3
    obtain ⟨f0, f1, f2, f3, f4, f5⟩ := hf it (by simp)
    have hh : X.A.in1.handled = none := I.ok.hd hc
    unfold pyNext
    have hTy : s.TypeIs (.ref e) "enumerate" := ⟨_, he, rfl⟩
    refine wpAny_bind (wpAny_attempt (wpAny_callSpecial?_slot (name := Str.ofString "__next__") hTy F.slot_enumerate_next
      (wpAny_call_entry F.slot_enumerate_next hTy F.entry_enumerate_next ?_ (F.args_enumerate_next_1 _))))
    show wpAny _ _ (field (.ref e) 2 >>= _) _ _ _
    refine wpAny_bind (wpAny_field he rfl (x := .ref it) rfl ?_)
    refine wpAny_bind (wpAny_nextOf_tuple_end (items := its.toArray) hh hit hT (by simp; omega) fun h' x eb hx' => ?_)
    obtain ⟨o, ho, hcl⟩ := hx'
    refine wpAny_bind (wpAny_isInstance (T := "StopIteration") (b := true) ⟨o, ho, hcl⟩ isSubtype_stop ?_)
    exact wpAny_pure ⟨rfl, I.turned (t' := s.toks) (fun b o hb q => eb b o hb q) f0 f1 f3 f4 f5⟩
  self := fun A i s Q E st h => wpAny_pyIter_enum st.1.choose_spec h
def iEnumT (K : PySem.W.Frag) (ta : TA) : TI := fun σ H R => ta σ H fun vs H1 => ∃ a xs, vs = [.ref a] ∧ SqT K H1 a xs ∧ R (IteT K a) H1
theorem pi_enumT {X : Cx} {e : Expr} {ta : TA} {p pos tpos : Pos} {elts : List Expr} {kk : Nat} (hg : Gl X "enumerate") (hm : X.mg "enumerate" = none) (ha : PA X [e] ta)
    (hs : starEach [e] X.env = [(false, eval e X.env)] := by rfl) : PI X (.Tuple elts kk tpos) (.Call (.Name "enumerate" p) [e] [] pos) (iEnumT X.K ta) := by
  refine ⟨fun pins s σ H R I h => ?_⟩
  refine Call_ (ld_blt I hg hm boot_enumerate (PyProof.Rows.callWith_type1 (thn (ha.run pos pins s σ H _ I h) fun us s1 ⟨vs, H1, I1, r1, q1⟩ => ?_) hs rfl))
  obtain ⟨a, xs, ex, hq, q⟩ := q1
  subst ex
  cases r1 with
  | cons r rr =>
    cases rr
    cases r
    obtain ⟨its, rv, p', hz⟩ := I1.tuple hq
    refine call_enumT (show s1.heap.IsTuple a its.toArray from p') fun h' he hit hk => wpAny_pyIter_enum he ?_
    have I2 : Inv X pins σ H1 { s1 with heap := h' } := I1.kept (t' := s1.toks) hk
    refine ⟨s1.heap.objs.size + 1, [s1.heap.objs.size + 1, s1.heap.objs.size], _, _, H1, rfl, I2, turn_enumT a (s1.heap.objs.size + 1) s1.heap.objs.size, ⟨⟨.none, he⟩, hit, Nat.succ_ne_self _⟩, fun b hb => ?_, q⟩
    have hle : s1.heap.objs.size ≤ b := by
      rcases (show b = s1.heap.objs.size + 1 ∨ b = s1.heap.objs.size by simpa using hb) with z | z
      · rw [z]; exact Nat.le_add_right _ _
      · rw [z]; exact Nat.le_refl _
    exact I1.fpOk hle (I1.hok.fresh hle)
theorem walk_enumT {K : PySem.W.Frag} {a : Addr} {xs : List V} : Walk (IteT K a) xs.length (fun H => SqT K H a xs) (YPair (fun i => some (.int (i : Nat))) (fun i => xs[i]?)) := by
  refine ⟨fun i _ hi q => ⟨xs, xs[i], q, by simp [hi]⟩, fun _ q => ⟨xs, q, Nat.le_refl _⟩, fun i H v H' _ q y => ?_⟩
  obtain ⟨T, x, h1, h2, h3, h4⟩ := y
  exact ⟨T, .int (i : Nat), x, h1, h2, h3, rfl, h4 xs q⟩
end K65
set_option Elab.async false
set_option linter.all false
set_option maxRecDepth 100000
set_option maxHeartbeats 4000000
namespace K65
open PySem PySem.Spec PyProof.Rows L2
/-! enumerate(zip(xs, ys)) over two lists: the pair that zip gave out stays with whoever unpacked it, so zip is met with its tuple at home, held or gone -/
/-- a zip object, its first two fields told -/
abbrev ZC (h : Heap) (z TI TO : Addr) (f0 f1 : Value) : Prop :=
  h.get? z = some { cls := .type "zip", dict := none, data := .fields #[f0, f1, .bool false, .ref TI, .ref TO], slots := #[] }
def ZSt (h : Heap) (z TI TO : Addr) : Prop := ZC h z TI TO .none (.bool false) ∨ ∃ (T : Addr) (f : Bool), ZC h z TI TO (rawInt T) (.bool f)
section
variable {prog : Program} {w : World} {A : Around} {E : Value → Shared → Prop} {s : Shared} {z TI TO i1 i2 l1 l2 : Addr} {k1 k2 : Nat} {xs ys : Array Value} {x y a b f0 f1 : Value}
/-- the tuple is free: it is at home, or the one given out is no more -/
theorem zip_free_item {Q : Value → Shared → Prop} (D : ZipApart z TI TO i1 i2 l1 l2) (hz : ZC s.heap z TI TO f0 f1)
    (fr : ∀ (E : Value → Shared → Prop) (Q : Bool → Shared → Prop), Q true s → wpAny (model prog w) A (Builtin.SmallTypes.ownedTupleIsFree (.ref z)) Q E s)
    (hTI : IsPair s.heap TI (.ref i1) (.ref i2)) (hTO : IsPair s.heap TO a b)
    (h1 : s.heap.IsListIter i1 l1 k1) (h2 : s.heap.IsListIter i2 l2 k2) (hl1 : s.heap.IsList l1 xs) (hl2 : s.heap.IsList l2 ys) (hx : xs[k1]? = some x) (hy : ys[k2]? = some y)
    (hQ : ∀ h', ZC h' z TI TO (rawInt s.heap.objs.size) (.bool false) → IsPair h' TO x y → h'.IsListIter i1 l1 (k1 + 1) → h'.IsListIter i2 l2 (k2 + 1) → IsPair h' s.heap.objs.size x y → h'.objs.size = s.heap.objs.size + 1 →
      (∀ c o, c ≠ z → c ≠ TO → c ≠ i1 → c ≠ i2 → s.heap.get? c = some o → h'.get? c = some o) → Q (.ref s.heap.objs.size) { s with heap := h' }) :
    wpAny (model prog w) A (Builtin.«zip.__next__» ⟨[.ref z], []⟩) (fun fin s' => ∃ v, fin = .done (.ret v) ∧ Q v s') E s := by
  show wpAny _ _ (field (.ref z) 2 >>= _) _ _ _
  refine wpAny_bind (wpAny_field hz rfl (x := .bool false) rfl ?_)
  show wpAny _ _ (field (.ref z) 3 >>= _) _ _ _
  refine wpAny_bind (wpAny_field hz rfl (x := .ref TI) rfl ?_)
  refine wpAny_bind (wpAny_seqItems hTI rfl ?_)
  show wpAny _ _ (Builtin.SmallTypes.ownedTupleIsFree (.ref z) >>= _) _ _ _
  refine wpAny_bind (fr _ _ ?_)
  simp only [if_true]
  refine wpAny_bind (wpAny_rule ?_)
  refine wpAny_bind (wpAny_field hz rfl (x := .ref TO) rfl ?_)
  refine wpAny_bind (wpAny_setField_rec hz (by simp) fun ha za sa => ?_)
  replace za : ZC ha z TI TO .ellipsis f1 := za
  refine wpAny_bind ?_
  simp only [List.zipIdx_cons, List.zipIdx_nil, List.forIn_cons, List.forIn_nil]
  -- the first list
  refine wpAny_bind (wpAny_bind (wpAny_onRaise ?_))
  show wpAny _ _ (Builtin.SmallTypes.nextOf (.ref i1) >>= _) _ _ _
  refine wpAny_bind (wpAny_nextOf_list_item (h1.extBut sa.extBut D.i1z) (hl1.extBut sa.extBut D.l1z) hx fun hb nb sb => wpAny_pure ?_)
  have tb : IsPair hb TO a b := sb.extBut _ _ D.TOi1 (sa.extBut _ _ D.TOz hTO)
  refine wpAny_bind (wpAny_seqItems tb rfl ?_)
  refine wpAny_bind (wpAny_updateSeq_pair tb fun hc tc sc => ?_)
  replace tc : IsPair hc TO x b := tc
  refine wpAny_bind (wpAny_letGo (wpAny_pure ?_))
  -- the second list
  refine wpAny_bind (wpAny_bind (wpAny_onRaise ?_))
  show wpAny _ _ (Builtin.SmallTypes.nextOf (.ref i2) >>= _) _ _ _
  have n2 : hc.IsListIter i2 l2 k2 := ((h2.extBut sa.extBut D.i2z).extBut sb.extBut D.i12.symm).extBut sc.extBut D.TOi2.symm
  have m2 : hc.IsList l2 ys := ((hl2.extBut sa.extBut D.l2z).extBut sb.extBut D.l2i1).extBut sc.extBut D.l2TO
  refine wpAny_bind (wpAny_nextOf_list_item n2 m2 hy fun hd nd sd => wpAny_pure ?_)
  have td : IsPair hd TO x b := sd.extBut _ _ D.TOi2 tc
  refine wpAny_bind (wpAny_seqItems td rfl ?_)
  refine wpAny_bind (wpAny_updateSeq_pair td fun he te se => ?_)
  replace te : IsPair he TO x y := te
  refine wpAny_bind (wpAny_letGo (wpAny_pure (wpAny_pure ?_)))
  -- the new pair
  refine wpAny_bind (wpAny_seqItems te rfl ?_)
  refine wpAny_bind (wpAny_newTuple ?_)
  have es : he.objs.size = s.heap.objs.size := by rw [se.1, sd.1, sc.1, sb.1, sa.1]
  have ze : ZC he z TI TO .ellipsis f1 := se.extBut _ _ D.TOz.symm (sd.extBut _ _ D.i2z.symm (sc.extBut _ _ D.TOz.symm (sb.extBut _ _ D.i1z.symm za)))
  have ke : ∀ c o, c ≠ z → c ≠ TO → c ≠ i1 → c ≠ i2 → s.heap.get? c = some o → he.get? c = some o := fun c o c1 c2 c3 c4 e =>
    se.extBut _ _ c2 (sd.extBut _ _ c4 (sc.extBut _ _ c2 (sb.extBut _ _ c3 (sa.extBut _ _ c1 e))))
  have n1e : he.IsListIter i1 l1 (k1 + 1) := ((nb.extBut sc.extBut D.TOi1.symm).extBut sd.extBut D.i12).extBut se.extBut D.TOi1.symm
  have n2e : he.IsListIter i2 l2 (k2 + 1) := nd.extBut se.extBut D.TOi2.symm
  have zlt : z < he.objs.size := Heap.lt_size ze
  show wpAny _ _ (Builtin.SmallTypes.ownedTupleHandOut (.ref z) (.ref he.objs.size) >>= _) _ _ _
  refine wpAny_bind ?_
  unfold Builtin.SmallTypes.ownedTupleHandOut
  have zp : ZC (he.push { cls := .type "tuple", data := .seq #[x, y] }) z TI TO .ellipsis f1 := Heap.get?_push_of_some _ ze
  refine wpAny_bind (wpAny_setField_rec zp (by simp) fun hf zf sf => ?_)
  replace zf : ZC hf z TI TO (rawInt he.objs.size) f1 := zf
  refine wpAny_setField_rec zf (by simp) fun hg zg sg => ?_
  replace zg : ZC hg z TI TO (rawInt he.objs.size) (.bool false) := zg
  have up : ∀ c o, c ≠ z → he.get? c = some o → hg.get? c = some o := fun c o c1 e => sg.extBut _ _ c1 (sf.extBut _ _ c1 (Heap.get?_push_of_some _ e))
  have tg : IsPair hg he.objs.size x y := sg.extBut _ _ (Nat.ne_of_gt zlt) (sf.extBut _ _ (Nat.ne_of_gt zlt) (Heap.get?_push_size _ rfl))
  have eg : hg.objs.size = he.objs.size + 1 := by rw [sg.1, sf.1, Heap.size_push]
  rw [es] at zg tg eg
  refine wpAny_pure ⟨_, rfl, ?_⟩
  show Q (.ref he.objs.size) _
  rw [es]
  exact hQ hg zg (up _ _ D.TOz te) (n1e.at fun o e => up _ o D.i1z e) (n2e.at fun o e => up _ o D.i2z e) tg eg fun c o c1 c2 c3 c4 e => up c o c1 (ke c o c1 c2 c3 c4 e)
theorem zip_free_end {Q : Fin → Shared → Prop} (hh : A.handled = none) (D : ZipApart z TI TO i1 i2 l1 l2) (hz : ZC s.heap z TI TO f0 f1)
    (fr : ∀ (E : Value → Shared → Prop) (Q : Bool → Shared → Prop), Q true s → wpAny (model prog w) A (Builtin.SmallTypes.ownedTupleIsFree (.ref z)) Q E s)
    (hTI : IsPair s.heap TI (.ref i1) (.ref i2)) (hTO : IsPair s.heap TO a b)
    (h1 : s.heap.IsListIter i1 l1 k1) (h2 : s.heap.IsListIter i2 l2 k2) (hl1 : s.heap.IsList l1 xs) (hl2 : s.heap.IsList l2 ys) (hend : xs[k1]? = none ∨ ys[k2]? = none)
    (hE : ∀ h' e, (∀ c o, c ≠ z → c ≠ TO → c ≠ i1 → c ≠ i2 → s.heap.get? c = some o → h'.get? c = some o) → (∃ o, h'.get? e = some o ∧ o.cls = .type "StopIteration") → E (.ref e) { s with heap := h' }) :
    wpAny (model prog w) A (Builtin.«zip.__next__» ⟨[.ref z], []⟩) Q E s := by
  show wpAny _ _ (field (.ref z) 2 >>= _) _ _ _
  refine wpAny_bind (wpAny_field hz rfl (x := .bool false) rfl ?_)
  show wpAny _ _ (field (.ref z) 3 >>= _) _ _ _
  refine wpAny_bind (wpAny_field hz rfl (x := .ref TI) rfl ?_)
  refine wpAny_bind (wpAny_seqItems hTI rfl ?_)
  show wpAny _ _ (Builtin.SmallTypes.ownedTupleIsFree (.ref z) >>= _) _ _ _
  refine wpAny_bind (fr _ _ ?_)
  simp only [if_true]
  refine wpAny_bind (wpAny_rule ?_)
  refine wpAny_bind (wpAny_field hz rfl (x := .ref TO) rfl ?_)
  refine wpAny_bind (wpAny_setField_rec hz (by simp) fun ha za sa => ?_)
  replace za : ZC ha z TI TO .ellipsis f1 := za
  refine wpAny_bind ?_
  simp only [List.zipIdx_cons, List.zipIdx_nil, List.forIn_cons, List.forIn_nil]
  refine wpAny_bind (wpAny_bind (wpAny_onRaise ?_))
  show wpAny _ _ (Builtin.SmallTypes.nextOf (.ref i1) >>= _) _ _ _
  cases hx : xs[k1]? with
  | none =>
    refine wpAny_bind (wpAny_nextOf_list_end hh (h1.extBut sa.extBut D.i1z) (hl1.extBut sa.extBut D.l1z) hx fun hb e sb ⟨oe, hoe, hce⟩ => ?_)
    have zb : ZC hb z TI TO .ellipsis f1 := sb _ _ D.i1z.symm za
    have nez : e ≠ z := fun q => by subst q; rw [zb] at hoe; cases hoe; simp at hce
    refine wpAny_setField_rec zb (by simp) fun hc _ sc => ?_
    exact hE hc e (fun c o c1 _ c3 _ q => sc.extBut _ _ c1 (sb _ _ c3 (sa.extBut _ _ c1 q))) ⟨oe, sc.extBut _ _ nez hoe, hce⟩
  | some x =>
    have hy : ys[k2]? = none := by
      rcases hend with h | h
      · rw [hx] at h; cases h
      · exact h
    refine wpAny_bind (wpAny_nextOf_list_item (h1.extBut sa.extBut D.i1z) (hl1.extBut sa.extBut D.l1z) hx fun hb nb sb => wpAny_pure ?_)
    have tb : IsPair hb TO a b := sb.extBut _ _ D.TOi1 (sa.extBut _ _ D.TOz hTO)
    refine wpAny_bind (wpAny_seqItems tb rfl ?_)
    refine wpAny_bind (wpAny_updateSeq_pair tb fun hc tc sc => ?_)
    refine wpAny_bind (wpAny_letGo (wpAny_pure ?_))
    refine wpAny_bind (wpAny_bind (wpAny_onRaise ?_))
    show wpAny _ _ (Builtin.SmallTypes.nextOf (.ref i2) >>= _) _ _ _
    have n2 : hc.IsListIter i2 l2 k2 := ((h2.extBut sa.extBut D.i2z).extBut sb.extBut D.i12.symm).extBut sc.extBut D.TOi2.symm
    have m2 : hc.IsList l2 ys := ((hl2.extBut sa.extBut D.l2z).extBut sb.extBut D.l2i1).extBut sc.extBut D.l2TO
    refine wpAny_bind (wpAny_nextOf_list_end hh n2 m2 hy fun hd e sd ⟨oe, hoe, hce⟩ => ?_)
    have zd : ZC hd z TI TO .ellipsis f1 := sd _ _ D.i2z.symm (sc.extBut _ _ D.TOz.symm (sb.extBut _ _ D.i1z.symm za))
    have nez : e ≠ z := fun q => by subst q; rw [zd] at hoe; cases hoe; simp at hce
    refine wpAny_setField_rec zd (by simp) fun he _ se => ?_
    exact hE he e (fun c o c1 c2 c3 c4 q => se.extBut _ _ c1 (sd _ _ c4 (sc.extBut _ _ c2 (sb.extBut _ _ c3 (sa.extBut _ _ c1 q))))) ⟨oe, se.extBut _ _ nez hoe, hce⟩
theorem free_home {T : Bool} (hz : ZC s.heap z TI TO .none f1) (E : Value → Shared → Prop) (Q : Bool → Shared → Prop) (q : Q true s) : wpAny (model prog w) A (Builtin.SmallTypes.ownedTupleIsFree (.ref z)) Q E s := by
  unfold Builtin.SmallTypes.ownedTupleIsFree
  exact wpAny_bind (wpAny_field hz rfl (x := .none) rfl (wpAny_pure q))
theorem look_alive {c : Addr} {Q : Option Obj → Shared → Prop} (q : Q (s.heap.get? c) s) : wpAny (model prog w) A (loadIfAlive c) Q E s := fun Γ p hΓ => by
  unfold loadIfAlive
  simpa using q
theorem free_gone {T : Addr} (hz : ZC s.heap z TI TO (rawInt T) f1) (hT : s.heap.get? T = none) (E : Value → Shared → Prop) (Q : Bool → Shared → Prop) (q : Q true s) :
    wpAny (model prog w) A (Builtin.SmallTypes.ownedTupleIsFree (.ref z)) Q E s := by
  unfold Builtin.SmallTypes.ownedTupleIsFree
  refine wpAny_bind (wpAny_field hz rfl (x := rawInt T) rfl ?_)
  show wpAny _ _ (loadIfAlive ((T : Int).toNat) >>= _) _ _ _
  rw [Int.toNat_natCast]
  refine wpAny_bind (look_alive ?_)
  rw [hT]
  simp only [Option.isNone_none, if_true]
  exact wpAny_pure q
/-- the next pair, wherever the tuple is -/
theorem zip_any_item {Q : Value → Shared → Prop} (D : ZipApart z TI TO i1 i2 l1 l2) (hz : ZSt s.heap z TI TO)
    (hTI : IsPair s.heap TI (.ref i1) (.ref i2)) (hTO : ∃ a b, IsPair s.heap TO a b)
    (h1 : s.heap.IsListIter i1 l1 k1) (h2 : s.heap.IsListIter i2 l2 k2) (hl1 : s.heap.IsList l1 xs) (hl2 : s.heap.IsList l2 ys) (hx : xs[k1]? = some x) (hy : ys[k2]? = some y)
    (hQ : ∀ h', ZSt h' z TI TO → (∃ a b, IsPair h' TO a b) → h'.IsListIter i1 l1 (k1 + 1) → h'.IsListIter i2 l2 (k2 + 1) → IsPair h' s.heap.objs.size x y → h'.objs.size = s.heap.objs.size + 1 →
      (∀ c o, c ≠ z → c ≠ TO → c ≠ i1 → c ≠ i2 → s.heap.get? c = some o → h'.get? c = some o) → Q (.ref s.heap.objs.size) { s with heap := h' }) :
    wpAny (model prog w) A (Builtin.«zip.__next__» ⟨[.ref z], []⟩) (fun fin s' => ∃ v, fin = .done (.ret v) ∧ Q v s') E s := by
  obtain ⟨a, b, hTO⟩ := hTO
  have fin : ∀ h', ZC h' z TI TO (rawInt s.heap.objs.size) (.bool false) → IsPair h' TO x y → h'.IsListIter i1 l1 (k1 + 1) → h'.IsListIter i2 l2 (k2 + 1) → IsPair h' s.heap.objs.size x y → h'.objs.size = s.heap.objs.size + 1 →
      (∀ c o, c ≠ z → c ≠ TO → c ≠ i1 → c ≠ i2 → s.heap.get? c = some o → h'.get? c = some o) → Q (.ref s.heap.objs.size) { s with heap := h' } :=
    fun h' a1 a2 a3 a4 a5 a6 a7 => hQ h' (.inr ⟨_, false, a1⟩) ⟨_, _, a2⟩ a3 a4 a5 a6 a7
  rcases hz with hz | ⟨T, f, hz⟩
  · exact zip_free_item D hz (free_home (T := true) hz) hTI hTO h1 h2 hl1 hl2 hx hy fin
  · cases hT : s.heap.get? T with
    | none => exact zip_free_item D hz (free_gone hz hT) hTI hTO h1 h2 hl1 hl2 hx hy fin
    | some oT =>
      refine zip_next_item_held D hz hT hTI h1 h2 hl1 hl2 hx hy fun h' a1 a3 a4 a5 a6 a7 => ?_
      exact hQ h' (.inr ⟨T, true, a1⟩) ⟨a, b, a7 _ _ D.TOz D.TOi1 D.TOi2 hTO⟩ a3 a4 a5 a6 fun c o c1 _ c3 c4 e => a7 c o c1 c3 c4 e
theorem zip_any_end {Q : Fin → Shared → Prop} (hh : A.handled = none) (D : ZipApart z TI TO i1 i2 l1 l2) (hz : ZSt s.heap z TI TO)
    (hTI : IsPair s.heap TI (.ref i1) (.ref i2)) (hTO : ∃ a b, IsPair s.heap TO a b)
    (h1 : s.heap.IsListIter i1 l1 k1) (h2 : s.heap.IsListIter i2 l2 k2) (hl1 : s.heap.IsList l1 xs) (hl2 : s.heap.IsList l2 ys) (hend : xs[k1]? = none ∨ ys[k2]? = none)
    (hE : ∀ h' e, (∀ c o, c ≠ z → c ≠ TO → c ≠ i1 → c ≠ i2 → s.heap.get? c = some o → h'.get? c = some o) → (∃ o, h'.get? e = some o ∧ o.cls = .type "StopIteration") → E (.ref e) { s with heap := h' }) :
    wpAny (model prog w) A (Builtin.«zip.__next__» ⟨[.ref z], []⟩) Q E s := by
  obtain ⟨a, b, hTO⟩ := hTO
  rcases hz with hz | ⟨T, f, hz⟩
  · exact zip_free_end hh D hz (free_home (T := true) hz) hTI hTO h1 h2 hl1 hl2 hend hE
  · cases hT : s.heap.get? T with
    | none => exact zip_free_end hh D hz (free_gone hz hT) hTI hTO h1 h2 hl1 hl2 hend hE
    | some oT => exact zip_next_end_held hh D hz hT hTI h1 h2 hl1 hl2 hend fun h' e hk he => hE h' e (fun c o c1 _ c3 c4 q => hk c o c1 c3 c4 q) he
theorem zst_type (hz : ZSt s.heap z TI TO) : s.TypeIs (.ref z) "zip" := by
  rcases hz with hz | ⟨T, f, hz⟩
  · exact ⟨_, hz, rfl⟩
  · exact ⟨_, hz, rfl⟩
end
end K65
set_option Elab.async false
set_option linter.all false
set_option maxRecDepth 100000
set_option maxHeartbeats 4000000
namespace K65
open PySem PySem.Spec PyProof.Rows L2
section
variable {prog : Program} {w : World} {A : Around} {E : Value → Shared → Prop} {s : Shared} {e z TI TO i1 i2 l1 l2 : Addr} {k1 k2 : Nat} {xs ys : Array Value} {x y : Value} {c : Int} {old : Value}
/-- what an enumerate over a zip does at a turn: n the pair of the zip, n + 1 the pair of the count and n -/
theorem ez_item {Q : Option Value → Shared → Prop} (D : ZipApart z TI TO i1 i2 l1 l2) (he : IsEnum s.heap e z c old) (hz : ZSt s.heap z TI TO)
    (hTI : IsPair s.heap TI (.ref i1) (.ref i2)) (hTO : ∃ a b, IsPair s.heap TO a b)
    (h1 : s.heap.IsListIter i1 l1 k1) (h2 : s.heap.IsListIter i2 l2 k2) (hl1 : s.heap.IsList l1 xs) (hl2 : s.heap.IsList l2 ys) (hx : xs[k1]? = some x) (hy : ys[k2]? = some y)
    (hez : e ≠ z) (heTI : e ≠ TI) (heTO : e ≠ TO) (he1 : e ≠ i1) (he2 : e ≠ i2)
    (hQ : ∀ h' tk, IsEnumOut h' e z (c + 1) (.ref s.heap.objs.size) (s.heap.objs.size + 1) → ZSt h' z TI TO → (∃ a b, IsPair h' TO a b) → h'.IsListIter i1 l1 (k1 + 1) → h'.IsListIter i2 l2 (k2 + 1) →
      IsPair h' s.heap.objs.size x y → h'.get? (s.heap.objs.size + 1) = some { cls := .type "tuple", data := .seq #[.int c tk, .ref s.heap.objs.size] } → h'.objs.size = s.heap.objs.size + 2 →
      (∀ b o, b ≠ e → b ≠ z → b ≠ TO → b ≠ i1 → b ≠ i2 → s.heap.get? b = some o → h'.get? b = some o) → Q (some (.ref (s.heap.objs.size + 1))) { s with heap := h', toks := tk + 1 }) :
    wpAny (model prog w) A (pyNext (.ref e)) Q E s := by
  have hTy : s.TypeIs (.ref e) "enumerate" := ⟨_, he, rfl⟩
  unfold pyNext
  refine wpAny_bind (wpAny_attempt (wpAny_callSpecial?_slot (name := Str.ofString "__next__") hTy F.slot_enumerate_next
    (wpAny_call_entry F.slot_enumerate_next hTy F.entry_enumerate_next ?_ (F.args_enumerate_next_1 _))))
  obtain ⟨hp, g, d, tk, os⟩ := s
  show wpAny _ _ (field (.ref e) 2 >>= _) _ _ _
  refine wpAny_bind (wpAny_field he rfl (x := .ref z) rfl ?_)
  -- the zip's turn
  show wpAny _ _ (Builtin.SmallTypes.nextOf (.ref z) >>= _) _ _ _
  refine wpAny_bind ?_
  unfold Builtin.SmallTypes.nextOf
  refine wpAny_bind (wpAny_callSpecial?_slot (name := Str.ofString "__next__") (zst_type (s := ⟨hp, g, d, tk, os⟩) hz) F.slot_zip_next
    (wpAny_call_entry F.slot_zip_next (zst_type (s := ⟨hp, g, d, tk, os⟩) hz) F.entry_zip_next
      (zip_any_item (s := ⟨hp, g, d, tk, os⟩) D hz hTI hTO h1 h2 hl1 hl2 hx hy fun ha za ta na ma pa sa ka => wpAny_pure ?_) (F.args_zip_next_1 _)))
  replace pa : IsPair ha hp.objs.size x y := pa
  replace sa : ha.objs.size = hp.objs.size + 1 := sa
  have ea : IsEnum ha e z c old := ka _ _ hez heTO he1 he2 he
  have elt : e < hp.objs.size := Heap.lt_size he
  have zlt : z < hp.objs.size := by
    rcases hz with hz | ⟨_, _, hz⟩
    · exact Heap.lt_size hz
    · exact Heap.lt_size hz
  show wpAny _ _ (field (.ref e) 3 >>= _) _ _ ⟨ha, g, d, tk, os⟩
  refine wpAny_bind (wpAny_field ea rfl (x := rawInt c) rfl ?_)
  show wpAny _ _ (field (.ref e) 4 >>= _) _ _ ⟨ha, g, d, tk, os⟩
  refine wpAny_bind (wpAny_field ea rfl (x := .none) rfl ?_)
  show wpAny _ _ (mkInt c >>= _) _ _ ⟨ha, g, d, tk, os⟩
  refine wpAny_bind (wpAny_mkInt ?_)
  show wpAny _ _ (setField (.ref e) 3 (rawInt (c + 1)) >>= _) _ _ ⟨ha, g, d, tk + 1, os⟩
  refine wpAny_bind (wpAny_setField_rec ea (by simp) fun hb eb sb => ?_)
  replace sb : Heap.SameBut e ha hb := sb
  replace eb : IsEnum hb e z (c + 1) old := eb
  show wpAny _ _ (setField (.ref e) 4 .none >>= _) _ _ ⟨hb, g, d, tk + 1, os⟩
  refine wpAny_bind (wpAny_setField_rec eb (by simp) fun hc ec sc => ?_)
  replace sc : Heap.SameBut e hb hc := sc
  replace ec : IsEnum hc e z (c + 1) old := ec
  show wpAny _ _ (newTuple [.int c tk, .ref hp.objs.size] >>= _) _ _ ⟨hc, g, d, tk + 1, os⟩
  refine wpAny_bind (wpAny_newTuple ?_)
  have ed : IsEnum (hc.push { cls := .type "tuple", data := .seq #[.int c tk, .ref hp.objs.size] }) e z (c + 1) old := Heap.get?_push_of_some _ ec
  generalize hq : hc.push { cls := .type "tuple", data := .seq #[.int c tk, .ref hp.objs.size] } = hd at ed
  have zc : hc.objs.size = hp.objs.size + 1 := by rw [sc.1, sb.1, sa]
  have td : hd.get? (hp.objs.size + 1) = some { cls := .type "tuple", data := .seq #[.int c tk, .ref hp.objs.size] } := by
    rw [← hq, ← zc]
    exact Heap.get?_push_size _ rfl
  have zd : hd.objs.size = hp.objs.size + 2 := by rw [← hq, Heap.size_push, zc]
  have up : ∀ b o, b ≠ e → ha.get? b = some o → hd.get? b = some o := fun b o q r => by
    rw [← hq]
    exact Heap.get?_push_of_some _ (sc.extBut b o q (sb.extBut b o q r))
  show wpAny _ _ (Builtin.SmallTypes.ownedTupleIsFree (.ref e) >>= _) _ _ ⟨hd, g, d, tk + 1, os⟩
  rw [zc]
  refine wpAny_bind ?_
  unfold Builtin.SmallTypes.ownedTupleIsFree
  refine wpAny_bind (wpAny_field ed rfl (x := .none) rfl (wpAny_pure ?_))
  simp only [if_true]
  refine wpAny_bind (wpAny_rule ?_)
  refine wpAny_bind (wpAny_field ed rfl (x := old) rfl ?_)
  refine wpAny_bind (wpAny_setField_rec ed (by simp) fun hf ef sf => ?_)
  replace sf : Heap.SameBut e hd hf := sf
  replace ef : IsEnum hf e z (c + 1) (.ref hp.objs.size) := ef
  show wpAny _ _ (Builtin.SmallTypes.ownedTupleHandOut (.ref e) (.ref (hp.objs.size + 1)) >>= _) _ _ ⟨hf, g, d, tk + 1, os⟩
  refine wpAny_bind ?_
  unfold Builtin.SmallTypes.ownedTupleHandOut
  refine wpAny_bind (wpAny_setField_rec ef (by simp) fun hg eg sg => ?_)
  replace sg : Heap.SameBut e hf hg := sg
  replace eg : IsEnumOut hg e z (c + 1) (.ref hp.objs.size) (hp.objs.size + 1) := eg
  refine wpAny_setField_rec eg (by simp) fun hi ei si => ?_
  replace si : Heap.SameBut e hg hi := si
  replace ei : IsEnumOut hi e z (c + 1) (.ref hp.objs.size) (hp.objs.size + 1) := ei
  have up2 : ∀ b o, b ≠ e → hd.get? b = some o → hi.get? b = some o := fun b o q r => si.extBut b o q (sg.extBut b o q (sf.extBut b o q r))
  have up3 : ∀ b o, b ≠ e → ha.get? b = some o → hi.get? b = some o := fun b o q r => up2 b o q (up b o q r)
  refine wpAny_bind (wpAny_letGo (wpAny_pure ⟨_, rfl, wpAny_pure ?_⟩))
  have hQ' := hQ hi tk ei
  refine hQ' ?_ ?_ (na.at fun o q => up3 _ o (Ne.symm he1) q) (ma.at fun o q => up3 _ o (Ne.symm he2) q) (up3 _ _ (Nat.ne_of_gt elt) pa)
    (up2 _ _ (Nat.ne_of_gt (Nat.lt_succ_of_lt elt)) td) (by rw [si.1, sg.1, sf.1, zd]) fun b o b1 b2 b3 b4 b5 q => up3 b o b1 (ka b o b2 b3 b4 b5 q)
  · rcases za with q | ⟨T, f, q⟩
    · exact .inl (up3 _ _ (Ne.symm hez) q)
    · exact .inr ⟨T, f, up3 _ _ (Ne.symm hez) q⟩
  · obtain ⟨a, b, q⟩ := ta
    exact ⟨a, b, up3 _ _ (Ne.symm heTO) q⟩
theorem ez_end {Q : Option Value → Shared → Prop} (hh : A.handled = none) (D : ZipApart z TI TO i1 i2 l1 l2) (he : IsEnum s.heap e z c old) (hz : ZSt s.heap z TI TO)
    (hTI : IsPair s.heap TI (.ref i1) (.ref i2)) (hTO : ∃ a b, IsPair s.heap TO a b)
    (h1 : s.heap.IsListIter i1 l1 k1) (h2 : s.heap.IsListIter i2 l2 k2) (hl1 : s.heap.IsList l1 xs) (hl2 : s.heap.IsList l2 ys) (hend : xs[k1]? = none ∨ ys[k2]? = none)
    (hQ : ∀ h', (∀ b o, b ≠ z → b ≠ TO → b ≠ i1 → b ≠ i2 → s.heap.get? b = some o → h'.get? b = some o) → Q none { s with heap := h' }) :
    wpAny (model prog w) A (pyNext (.ref e)) Q E s := by
  have hTy : s.TypeIs (.ref e) "enumerate" := ⟨_, he, rfl⟩
  unfold pyNext
  refine wpAny_bind (wpAny_attempt (wpAny_callSpecial?_slot (name := Str.ofString "__next__") hTy F.slot_enumerate_next
    (wpAny_call_entry F.slot_enumerate_next hTy F.entry_enumerate_next ?_ (F.args_enumerate_next_1 _))))
  show wpAny _ _ (field (.ref e) 2 >>= _) _ _ _
  refine wpAny_bind (wpAny_field he rfl (x := .ref z) rfl ?_)
  show wpAny _ _ (Builtin.SmallTypes.nextOf (.ref z) >>= _) _ _ _
  refine wpAny_bind ?_
  unfold Builtin.SmallTypes.nextOf
  refine wpAny_bind (wpAny_callSpecial?_slot (name := Str.ofString "__next__") (zst_type hz) F.slot_zip_next
    (wpAny_call_entry F.slot_zip_next (zst_type hz) F.entry_zip_next
      (zip_any_end (hh := hh) D hz hTI hTO h1 h2 hl1 hl2 hend fun h' x hk hx => ?_) (F.args_zip_next_1 _)))
  obtain ⟨o, ho, hcl⟩ := hx
  refine wpAny_bind (wpAny_isInstance (T := "StopIteration") (b := true) ⟨o, ho, hcl⟩ isSubtype_stop ?_)
  exact wpAny_pure (hQ _ hk)
end
end K65
set_option Elab.async false
set_option linter.all false
set_option maxRecDepth 100000
set_option maxHeartbeats 4000000
namespace K65
open PySem PySem.Spec PyProof.Rows L2
section
variable {X : Cx} {pins : List (Addr × Obj)} {σ : L2.St} {H H2 : Hp} {s : Shared} {h' : Heap}
/-- records of ours have turned, and new objects are tracked -/
theorem grown {t' : Nat} {ch : List Addr} (I : L2.Inv X pins σ H s) (k : ∀ b o, b ∉ ch → s.heap.get? b = some o → h'.get? b = some o) (hf : ∀ b ∈ ch, FpOk X pins H b)
    (ext : ∀ b o, H b = some o → H2 b = some o) (fresh : ∀ b o, H b = none → H2 b = some o → s.heap.objs.size ≤ b)
    (new : ∀ b o, H b = none → H2 b = some o → ObjOk X.prog X.w H2 h' b o) : L2.Inv X pins σ H2 { s with heap := h', toks := t' } := by
  have nit : ∀ b u, H b = some u → b ∉ ch := fun b u e z => by
    have q := (hf b z).1
    rw [q] at e
    cases e
  refine I.step (g' := s.gens) (d' := s.drawn) (ch := ch) (fun b hb => ?_) (fun b o _ _ hc e _ => k b o hc e) (fun b o _ _ hc e _ => ⟨o.slots, k b o hc e⟩)
    (fun b o _ e n => ?_) (fun b o hc e => ⟨o, k b o hc e⟩) (fun b xs e => ext _ _ e) (fun b o u e => ext _ _ e) (fun b ps e => ⟨#[], ?_⟩) (fun m hm => ?_) (fun b u e => ?_) I.bare
  · obtain ⟨_, f1, _, f3, f4, f5⟩ := hf b hb
    exact ⟨f3, f1, f4, f5⟩
  · cases q : H2 b with
    | none => rfl
    | some u => exact absurd (Heap.lt_size e) (Nat.not_lt.mpr (fresh b u n q))
  · rw [ext _ _ e]; simp
  · obtain ⟨o, es, ep, ho, r⟩ := hm
    exact ⟨o, es, ep, k _ o (fun z => (hf _ z).2.1 rfl) ho, r⟩
  · cases q : H b with
    | none => exact new b u q e
    | some v =>
      have e2 := ext _ _ q
      rw [e2] at e
      cases e
      refine (I.hok b _ q).stay (fun c v hc r => k c v ?_ r) (fun c r => ext _ _ r) fun c xs r => ext _ _ r
      rcases hc with z | z
      · rw [z]; exact nit b _ q
      · exact nit c _ z
end
/-! for i, (x, y) in enumerate(zip(xs, ys)) -/
def Itez (K : PySem.W.Frag) (a b : Addr) : It :=
  ⟨fun i H => ∃ (xs ys : List V) (x y : V), SqL K H a xs ∧ SqL K H b ys ∧ xs[i]? = some x ∧ ys[i]? = some y,
   fun i H v H' => ∃ T U x y, v = .ref T ∧ H U = none ∧ H T = none ∧ U ≠ T ∧ H' = upd (upd H U (.tup [x, y])) T (.tup [.int (i : Nat), .ref U]) ∧
     (∀ xs, SqL K H a xs → xs[i]? = some x) ∧ ∀ ys, SqL K H b ys → ys[i]? = some y,
   fun i H => ∃ xs ys : List V, SqL K H a xs ∧ SqL K H b ys ∧ (xs.length ≤ i ∨ ys.length ≤ i)⟩
theorem turn_ez {P : Program} {w : World} {K : PySem.W.Frag} {elts : List Expr} {kk : Nat} {tpos : Pos} {a b e z TI TO i1 i2 : Addr} (D : ZipApart z TI TO i1 i2 a b)
    (hez : e ≠ z) (heTI : e ≠ TI) (heTO : e ≠ TO) (he1 : e ≠ i1) (he2 : e ≠ i2) :
    Turn P w K (.Tuple elts kk tpos) (Itez K a b) [e, z, TI, TO, i1, i2] e (fun i h => (∃ old, IsEnum h e z ((i : Nat) : Int) old) ∧ ZSt h z TI TO ∧ IsPair h TI (.ref i1) (.ref i2) ∧ (∃ x y, IsPair h TO x y) ∧ h.IsListIter i1 a i ∧ h.IsListIter i2 b i) where
  mem := by simp
  obj := fun i h st c hc => by
    obtain ⟨⟨old, he⟩, hz, hTI, ⟨x, y, hTO⟩, ⟨o1, e1, _, d1⟩, ⟨o2, e2, _, d2⟩⟩ := st
    rcases (show c = e ∨ c = z ∨ c = TI ∨ c = TO ∨ c = i1 ∨ c = i2 by simpa using hc) with rfl | rfl | rfl | rfl | rfl | rfl
    · exact ⟨_, he, fun v q => nomatch q⟩
    · rcases hz with q | ⟨T, f, q⟩
      · exact ⟨_, q, fun v q => nomatch q⟩
      · exact ⟨_, q, fun v q => nomatch q⟩
    · exact ⟨_, hTI, fun v q => nomatch q⟩
    · exact ⟨_, hTO, fun v q => nomatch q⟩
    · exact ⟨o1, e1, fun v q => by rw [d1] at q; cases q⟩
    · exact ⟨o2, e2, fun v q => by rw [d2] at q; cases q⟩
  keep := fun i h h' st k => by
    obtain ⟨⟨old, he⟩, hz, hTI, ⟨x, y, hTO⟩, h1, h2⟩ := st
    refine ⟨⟨old, k e (by simp) _ he⟩, ?_, k TI (by simp) _ hTI, ⟨x, y, k TO (by simp) _ hTO⟩, h1.at fun o q => k i1 (by simp) o q, h2.at fun o q => k i2 (by simp) o q⟩
    rcases hz with q | ⟨T, f, q⟩
    · exact .inl (k z (by simp) _ q)
    · exact .inr ⟨T, f, k z (by simp) _ q⟩
  item := by
    intro X hP hw hK hc i pins s σ H E I hf st hg
    subst hP hw hK
    obtain ⟨⟨old, he⟩, hz, hTI, hTO, h1, h2⟩ := st
    obtain ⟨xs, ys, x, y, hqx, hqy, hx, hy⟩ := hg
    obtain ⟨its, rv, p, _⟩ := I.list hqx
    obtain ⟨its2, rv2, p2, _⟩ := I.list hqy
    obtain ⟨u, hu, ru⟩ := rv.get hx
    obtain ⟨u2, hu2, ru2⟩ := rv2.get hy
    have elt : e < s.heap.objs.size := Heap.lt_size he
    have fplt : ∀ c ∈ [e, z, TI, TO, i1, i2], c < s.heap.objs.size := fun c hc => by
      rcases (show c = e ∨ c = z ∨ c = TI ∨ c = TO ∨ c = i1 ∨ c = i2 by simpa using hc) with q | q | q | q | q | q
      · rw [q]; exact elt
      · rw [q]
        rcases hz with r | ⟨_, _, r⟩
        · exact Heap.lt_size r
        · exact Heap.lt_size r
      · rw [q]; exact Heap.lt_size hTI
      · rw [q]; obtain ⟨_, _, r⟩ := hTO; exact Heap.lt_size r
      · rw [q]; obtain ⟨_, r, _⟩ := h1; exact Heap.lt_size r
      · rw [q]; obtain ⟨_, r, _⟩ := h2; exact Heap.lt_size r
    refine ez_item D he hz hTI hTO h1 h2 p.isList p2.isList (x := u) (y := u2) (by simpa using hu) (by simpa using hu2) hez heTI heTO he1 he2 fun h' tk ho hz' hTO' h1' h2' pU pT hsz hk => ?_
    refine ⟨_, rfl, wpAny_letOwnedTupleGo_enum (s := { s with heap := h', toks := tk + 1 }) ho fun h'' he' sb => ?_⟩
    have ne0 : s.heap.objs.size ≠ e := Nat.ne_of_gt elt
    have ne1 : s.heap.objs.size + 1 ≠ e := Nat.ne_of_gt (Nat.lt_succ_of_lt elt)
    have nUT : s.heap.objs.size ≠ s.heap.objs.size + 1 := Nat.ne_of_lt (Nat.lt_succ_self _)
    have gU : IsPair h'' s.heap.objs.size u u2 := (sb.2 _ ne0).trans pU
    have gT : h''.get? (s.heap.objs.size + 1) = some { cls := .type "tuple", data := .seq #[.int i tk, .ref s.heap.objs.size] } := (sb.2 _ ne1).trans pT
    have fU : H s.heap.objs.size = none := I.hok.fresh (Nat.le_refl _)
    have fT : H (s.heap.objs.size + 1) = none := I.hok.fresh (Nat.le_succ _)
    have I1 : L2.Inv X pins σ (upd (upd H s.heap.objs.size (.tup [x, y])) (s.heap.objs.size + 1) (.tup [.int (i : Nat), .ref s.heap.objs.size])) { s with heap := h'', toks := tk + 1 } := by
      refine grown (ch := [e, z, TI, TO, i1, i2]) I (fun c o hb q => (sb.2 c (fun r => hb (by simp [r]))).trans (hk c o (fun r => hb (by simp [r])) (fun r => hb (by simp [r])) (fun r => hb (by simp [r])) (fun r => hb (by simp [r])) (fun r => hb (by simp [r])) q)) hf
        (fun c o q => ?_) (fun c o n q => ?_) (fun c o n q => ?_)
      · rw [upd_ne (ne_of_none q fT), upd_ne (ne_of_none q fU)]
        exact q
      · by_cases c1 : c = s.heap.objs.size + 1
        · rw [c1]; exact Nat.le_succ _
        · rw [upd_ne c1] at q
          by_cases c2 : c = s.heap.objs.size
          · rw [c2]; exact Nat.le_refl _
          · rw [upd_ne c2, n] at q
            cases q
      · by_cases c1 : c = s.heap.objs.size + 1
        · subst c1
          rw [upd_same] at q
          cases q
          exact ⟨by show 2 ≤ sizeLine; decide, [.int i tk, .ref s.heap.objs.size], .cons ⟨_, rfl⟩ (.cons rfl .nil), ⟨_, gT, rfl, _, rfl⟩⟩
        · rw [upd_ne c1] at q
          by_cases c2 : c = s.heap.objs.size
          · subst c2
            rw [upd_same] at q
            cases q
            exact ⟨by show 2 ≤ sizeLine; decide, [u, u2], .cons ru (.cons ru2 .nil), ⟨_, gU, rfl, _, rfl⟩⟩
          · rw [upd_ne c2, n] at q
            cases q
    refine ⟨.ref (s.heap.objs.size + 1), _, I1, rfl, ⟨_, _, x, y, rfl, fU, fT, nUT, rfl, fun l hl => by rw [I.list_inj hl hqx]; exact hx, fun l hl => by rw [I.list_inj hl hqy]; exact hy⟩,
      ⟨⟨.ref s.heap.objs.size, ?_⟩, ?_, ?_, ?_, ?_, ?_⟩, fun c hcm => ?_⟩
    · rw [show ((i + 1 : Nat) : Int) = (i : Int) + 1 by omega]
      exact he'
    · rcases hz' with q | ⟨T, f, q⟩
      · exact .inl ((sb.2 _ (Ne.symm hez)).trans q)
      · exact .inr ⟨T, f, (sb.2 _ (Ne.symm hez)).trans q⟩
    · exact (sb.2 _ (Ne.symm heTI)).trans (hk _ _ (Ne.symm heTI) D.TIz D.TITO D.TIi1 D.TIi2 hTI)
    · obtain ⟨q1, q2, q⟩ := hTO'
      exact ⟨q1, q2, (sb.2 _ (Ne.symm heTO)).trans q⟩
    · exact h1'.at fun o q => (sb.2 _ (Ne.symm he1)).trans q
    · exact h2'.at fun o q => (sb.2 _ (Ne.symm he2)).trans q
    · have lt := fplt c hcm
      rw [upd_ne (Nat.ne_of_lt (Nat.lt_succ_of_lt lt)), upd_ne (Nat.ne_of_lt lt)]
      exact (hf c hcm).1
  done := by
    intro X hP hw hK hc i pins s σ H E I hf st hg
    subst hP hw hK
    obtain ⟨⟨old, he⟩, hz, hTI, hTO, h1, h2⟩ := st
    obtain ⟨xs, ys, hqx, hqy, hend⟩ := hg
    obtain ⟨its, rv, p, _⟩ := I.list hqx
    obtain ⟨its2, rv2, p2, _⟩ := I.list hqy
    have l1 := rv.length
    have l2 := rv2.length
    have hn : its.toArray[i]? = none ∨ its2.toArray[i]? = none := by
      rcases hend with q | q
      · exact .inl (by simp; omega)
      · exact .inr (by simp; omega)
    refine ez_end (show X.A.in1.in1.handled = none from I.ok.hd hc) D he hz hTI hTO h1 h2 p.isList p2.isList hn fun h' hk => ⟨rfl, I.turnedL (t' := s.toks) (ch := [e, z, TI, TO, i1, i2]) (fun c o hb q => ?_) hf⟩
    exact hk c o (fun r => hb (by simp [r])) (fun r => hb (by simp [r])) (fun r => hb (by simp [r])) (fun r => hb (by simp [r])) q
  self := fun A i s Q E st h => wpAny_pyIter_enum st.1.choose_spec h
theorem five {n m : Nat} (h : m = n + 5) : m ≠ n + 4 ∧ m ≠ n + 2 ∧ m ≠ n + 3 ∧ m ≠ n ∧ m ≠ n + 1 := by omega
def iEZ (K : PySem.W.Frag) (ta : TA) : TI := fun σ H R => ta σ H fun vs H1 => ∃ a b xs ys, vs = [.ref a, .ref b] ∧ SqL K H1 a xs ∧ SqL K H1 b ys ∧ R (Itez K a b) H1
theorem pi_enumZip {X : Cx} {e e2 : Expr} {ta : TA} {p p2 pos pos2 tpos : Pos} {elts : List Expr} {kk : Nat} (hg : Gl X "enumerate") (hm : X.mg "enumerate" = none) (hg2 : Gl X "zip") (hm2 : X.mg "zip" = none) (ha : PA X [e, e2] ta)
    (hs : starEach [e, e2] X.env = (false, eval e X.env) :: starEach [e2] X.env := by rfl) (hpl : (backTo pos2 (starEach [e2] X.env)).any (·.1) = false := by rfl)
    (hs1 : starEach [.Call (.Name "zip" p2) [e, e2] [] pos2] X.env = [(false, eval (.Call (.Name "zip" p2) [e, e2] [] pos2) X.env)] := by rfl) :
    PI X (.Tuple elts kk tpos) (.Call (.Name "enumerate" p) [.Call (.Name "zip" p2) [e, e2] [] pos2] [] pos) (iEZ X.K ta) := by
  refine ⟨fun pins s σ H R I h => ?_⟩
  refine Call_ (ld_blt I hg hm boot_enumerate (PyProof.Rows.callWith_type1 ?_ hs1 rfl))
  rw [hs1]
  show wpAny _ _ (spliced [(false, eval (.Call (.Name "zip" p2) [e, e2] [] pos2) X.env)]) _ _ s
  refine Calls.spliced_cons ?_
  refine Call_ (ld_blt I hg2 hm2 PyProof.Rows.boot_zip (PyProof.Rows.callWith_type1 (thn (ha.run pos2 pins s σ H _ I h) fun us s1 ⟨vs, H1, I1, r1, q1⟩ => ?_) hs hpl))
  obtain ⟨a, b, xs, ys, ex, hqx, hqy, q⟩ := q1
  subst ex
  cases r1 with
  | cons r rr =>
    cases rr with
    | cons r' rr =>
      cases rr
      cases r
      cases r'
      obtain ⟨its, rv, q1, _⟩ := I1.list hqx
      obtain ⟨its2, rv2, q2, _⟩ := I1.list hqy
      have la : a < s1.heap.objs.size := q1.lt
      have lb : b < s1.heap.objs.size := q2.lt
      refine call_zip_2 q1.isList q2.isList fun ha hz hTI hTO h1 h2 hsz hk => ?_
      refine Calls.spliced_nil ?_
      refine call_enumZ (s := { s1 with heap := ha }) hz fun hb he hk2 => ?_
      have hk2' : ∀ c o, ha.get? c = some o → hb.get? c = some o := hk2
      have he' : IsEnum hb (s1.heap.objs.size + 5) (s1.heap.objs.size + 4) 0 .none := by
        rw [← hsz]
        exact he
      refine wpAny_pyIter_enum (s := { s1 with heap := hb }) he ?_
      have I2 : L2.Inv X pins σ H1 { s1 with heap := hb } := I1.kept (t' := s1.toks) fun c o x => hk2' c o (hk c o x)
      have D := PySem.W.ktu_apart s1.heap.objs.size a b la lb
      obtain ⟨n4, n2, n3, n0, n1⟩ := five hsz
      refine ⟨ha.objs.size, [ha.objs.size, s1.heap.objs.size + 4, s1.heap.objs.size + 2, s1.heap.objs.size + 3, s1.heap.objs.size, s1.heap.objs.size + 1], _, _, H1, rfl, I2,
        turn_ez D n4 n2 n3 n0 n1,
        ⟨⟨.none, he⟩, .inl (hk2' _ _ hz), hk2' _ _ hTI, ⟨_, _, hk2' _ _ hTO⟩, h1.at fun o x => hk2' _ o x, h2.at fun o x => hk2' _ o x⟩, fun c hcm => ?_, q⟩
      have hle : s1.heap.objs.size ≤ c := by
        rcases (show c = ha.objs.size ∨ c = s1.heap.objs.size + 4 ∨ c = s1.heap.objs.size + 2 ∨ c = s1.heap.objs.size + 3 ∨ c = s1.heap.objs.size ∨ c = s1.heap.objs.size + 1 by simpa using hcm) with x | x | x | x | x | x
        all_goals rw [x]; first | exact Nat.le_refl _ | exact Nat.le_add_right _ _ | (rw [hsz]; exact Nat.le_add_right _ _)
      exact I1.fpOk hle (I1.hok.fresh hle)
theorem walk_ez {K : PySem.W.Frag} {a b : Addr} {xs ys : List V} (hl : ys.length = xs.length) : Walk (Itez K a b) xs.length (fun H => SqL K H a xs ∧ SqL K H b ys)
    (fun i H v H' => ∃ T U x y, v = .ref T ∧ H U = none ∧ H T = none ∧ U ≠ T ∧ H' = upd (upd H U (.tup [x, y])) T (.tup [.int (i : Nat), .ref U]) ∧ xs[i]? = some x ∧ ys[i]? = some y) := by
  refine ⟨fun i _ hi q => ⟨xs, ys, xs[i], ys[i]'(by omega), q.1, q.2, by simp [hi], by simp [hl, hi]⟩, fun _ q => ⟨xs, ys, q.1, q.2, .inl (Nat.le_refl _)⟩, fun i H v H' _ q y => ?_⟩
  obtain ⟨T, U, x, z, h1, h2, h3, h4, h5, h6, h7⟩ := y
  exact ⟨T, U, x, z, h1, h2, h3, h4, h5, h6 xs q.1, h7 ys q.2⟩
end K65
set_option Elab.async false
set_option linter.all false
set_option maxRecDepth 100000
set_option maxHeartbeats 4000000
namespace K65
open PySem L2
/-! heaps that grow -/
section
variable {K : PySem.W.Frag} {H H1 H2 : Hp} {a p : Addr} {o : HO} {xs : List V} {v : V}
theorem Same_upd (e : Same H H1) (n : H1 p = none) : Same H (upd H1 p o) := fun b u h => by
  have h1 := e b u h
  rw [upd_ne (ne_of_none h1 n)]
  exact h1
theorem Same_new (n : H p = none) : Same H (upd H p o) := Same_upd (Same.refl H) n
/-- an object that H does not know may change -/
theorem Same_mut (e : Same H H1) (n : H p = none) : Same H (upd H1 p o) := fun b u h => by
  rw [upd_ne (ne_of_none h n)]
  exact e b u h
theorem Same_rd {u : HO} (e : Same H H1) (h : Rd H a u) : Rd H1 a u := by
  rcases h with h | ⟨o, h⟩
  · exact .inl (e _ _ h)
  · exact .inr ⟨o, e _ _ h⟩
theorem Same_t (e : Same H H1) (h : SqT K H a xs) : SqT K H1 a xs := by
  rcases h with h | h
  · exact .inl (Same_rd e h)
  · exact .inr h
theorem Same_l (e : Same H H1) (h : SqL K H a xs) : SqL K H1 a xs := by
  rcases h with h | h
  · exact .inl (Same_rd e h)
  · exact .inr h
mutual
theorem Same_dp (e : Same H H1) : ∀ {d : PyData} {v : V}, Dp K H v d → Dp K H1 v d
  | .none, _, h => by cases h; exact .non
  | .bool b, _, h => by cases h; exact .bl b
  | .int i, _, h => by cases h; exact .int i
  | .str x, _, h => by cases h; exact .str x
  | .list ds, _, h => by
    cases h with
    | lst hs ha => exact .lst (Same_l e hs) (Same_dpa e ha)
  | .tuple ds, _, h => by
    cases h with
    | tup hs ha => exact .tup (Same_t e hs) (Same_dpa e ha)
  | .dict _, _, h => by cases h
theorem Same_dpa (e : Same H H1) : ∀ {ds : List PyData} {vs : List V}, DpAll K H vs ds → DpAll K H1 vs ds
  | [], _, h => by cases h; exact .nil
  | d :: ds, _, h => by
    cases h with
    | cons h1 h2 => exact .cons (Same_dp e h1) (Same_dpa e h2)
end
/-! data: what it says of a value -/
theorem dp_int {i : Int} (h : Dp K H v (.int i)) : v = .int i := by cases h; rfl
theorem dp_bl {b : Bool} (h : Dp K H v (.bool b)) : v = .bl b := by cases h; rfl
theorem dp_str {x : Str} (h : Dp K H v (.str x)) : v = .str x := by cases h; rfl
theorem dp_tup {ds : List PyData} (h : Dp K H v (.tuple ds)) : ∃ a vs, v = .ref a ∧ SqT K H a vs ∧ DpAll K H vs ds := by
  cases h with
  | tup hs ha => exact ⟨_, _, rfl, hs, ha⟩
theorem dp_lst {ds : List PyData} (h : Dp K H v (.list ds)) : ∃ a vs, v = .ref a ∧ SqL K H a vs ∧ DpAll K H vs ds := by
  cases h with
  | lst hs ha => exact ⟨_, _, rfl, hs, ha⟩
theorem dpa_cons {d : PyData} {ds : List PyData} {vs : List V} (h : DpAll K H vs (d :: ds)) : ∃ v r, vs = v :: r ∧ Dp K H v d ∧ DpAll K H r ds := by
  cases h with
  | cons h1 h2 => exact ⟨_, _, rfl, h1, h2⟩
theorem dpa_nil {vs : List V} (h : DpAll K H vs []) : vs = [] := by cases h; rfl
theorem dpa_len : ∀ {ds : List PyData} {vs : List V}, DpAll K H vs ds → vs.length = ds.length
  | [], _, h => by cases h; rfl
  | d :: ds, _, h => by
    cases h with
    | cons h1 h2 => simp [dpa_len h2]
theorem dpa_get : ∀ {ds : List PyData} {vs : List V} {i : Nat} {d : PyData}, DpAll K H vs ds → ds[i]? = some d → ∃ v, vs[i]? = some v ∧ Dp K H v d
  | [], _, i, d, h, e => by simp at e
  | d :: ds, _, 0, d', h, e => by
    cases h with
    | cons h1 h2 =>
      have e' : d = d' := Option.some.inj e
      subst e'
      exact ⟨_, rfl, h1⟩
  | d :: ds, _, i + 1, d', h, e => by
    cases h with
    | cons h1 h2 =>
      obtain ⟨v, hv, hd⟩ := dpa_get (i := i) h2 e
      exact ⟨v, hv, hd⟩
theorem dpa_at {ds : List PyData} {vs : List V} {i : Nat} {v : V} (h : DpAll K H vs ds) (e : vs[i]? = some v) : ∃ d, ds[i]? = some d ∧ Dp K H v d := by
  have hi : i < ds.length := by
    rw [← dpa_len h]
    exact (List.getElem?_eq_some_iff.mp e).1
  obtain ⟨v', e', hd⟩ := dpa_get (d := ds[i]) h (List.getElem?_eq_getElem hi)
  rw [e] at e'
  cases e'
  exact ⟨_, List.getElem?_eq_getElem hi, hd⟩
theorem dpa_app : ∀ {ds es : List PyData} {vs ws : List V}, DpAll K H vs ds → DpAll K H ws es → DpAll K H (vs ++ ws) (ds ++ es)
  | [], _, _, _, h, h' => by cases h; exact h'
  | d :: ds, _, _, _, h, h' => by
    cases h with
    | cons h1 h2 => exact .cons h1 (dpa_app h2 h')
theorem dpa_snoc {ds : List PyData} {vs : List V} {d : PyData} (h : DpAll K H vs ds) (hv : Dp K H v d) : DpAll K H (vs ++ [v]) (ds ++ [d]) := dpa_app h (.cons hv .nil)
theorem dpa_ints : ∀ (ns : List Int), DpAll K H (ns.map V.int) (ns.map PyData.int)
  | [] => .nil
  | n :: ns => .cons (.int n) (dpa_ints ns)
theorem dpa_ints_inv : ∀ {ns : List Int} {vs : List V}, DpAll K H vs (ns.map PyData.int) → vs = ns.map V.int
  | [], _, h => by cases h; rfl
  | n :: ns, _, h => by
    cases h with
    | cons h1 h2 => rw [dp_int h1, dpa_ints_inv h2]; rfl
theorem dpa_take : ∀ (n : Nat) {ds : List PyData} {vs : List V}, DpAll K H vs ds → DpAll K H (vs.take n) (ds.take n)
  | 0, _, _, _ => .nil
  | n + 1, [], _, h => by cases h; exact .nil
  | n + 1, d :: ds, _, h => by
    cases h with
    | cons h1 h2 => exact .cons h1 (dpa_take n h2)
theorem dpa_drop : ∀ (n : Nat) {ds : List PyData} {vs : List V}, DpAll K H vs ds → DpAll K H (vs.drop n) (ds.drop n)
  | 0, _, _, h => h
  | n + 1, [], _, h => by cases h; exact .nil
  | n + 1, d :: ds, _, h => by
    cases h with
    | cons h1 h2 => exact dpa_drop n h2
theorem dpa_set : ∀ {ds : List PyData} {vs : List V} {d : PyData} (i : Nat), DpAll K H vs ds → Dp K H v d → DpAll K H (vs.set i v) (ds.set i d)
  | [], _, _, i, h, _ => by cases h; exact .nil
  | d :: ds, _, _, 0, h, hv => by
    cases h with
    | cons h1 h2 => exact .cons hv h2
  | d :: ds, _, _, i + 1, h, hv => by
    cases h with
    | cons h1 h2 => exact .cons h1 (dpa_set i h2 hv)
end
/-! the data of the program -/
structure Tar where
  rates : List Int
  wakes : List Int
  deriving DecidableEq
structure Serv where
  name : Str
  room : Int
  lag : Int
  patience : Int
  weight : Int
  most : Int
  budget : Int
  tar : Tar
structure Keep where
  name : Str
  least : Int
  begin_ : Int
  end_ : Int
  period : Int
structure Sett where
  quota : Int
  servs : List Serv
  keeps : List Keep
structure Row where
  price : Int
  came : Int
  brk : Bool
  deriving DecidableEq
structure Deed where
  price : Int
  came : Int
  brk : Bool
  due : Int
  want : Int
  limit : Int
  given : Int
  run : Int
  dropped : Int
  why : Str
  need : Int
  states : List Int
  cost : Int
  deriving DecidableEq
def dInts (ns : List Int) : PyData := .tuple (ns.map PyData.int)
def dServ (s : Serv) : PyData := .tuple [.str s.name, .int s.room, .int s.lag, .int s.patience, .int s.weight, .int s.most, .int s.budget, dInts s.tar.rates, dInts s.tar.wakes]
def dKeep (k : Keep) : PyData := .tuple [.str k.name, .int k.least, .int k.begin_, .int k.end_, .int k.period]
def dSett (s : Sett) : PyData := .tuple [.int s.quota, .tuple (s.servs.map dServ), .tuple (s.keeps.map dKeep)]
def dRow (r : Row) : PyData := .tuple [.int r.price, .int r.came, .bool r.brk]
def dEntry (e : List Row) : PyData := .list (e.map dRow)
def dLed (l : List (List Row)) : PyData := .list (l.map dEntry)
def dDeed (d : Deed) : PyData := .tuple [.int d.price, .int d.came, .bool d.brk, .int d.due, .int d.want, .int d.limit, .int d.given, .int d.run, .int d.dropped, .str d.why, .int d.need, dInts d.states, .int d.cost]
def dMom (m : List Deed) : PyData := .list (m.map dDeed)
def dRec (r : List (List Deed)) : PyData := .list (r.map dMom)
section
variable {K : PySem.W.Frag} {H H1 H2 : Hp} {v : V}
def TarAt (K : PySem.W.Frag) (H : Hp) (v : V) (t : Tar) : Prop := ∃ a ra wa, v = .ref a ∧ SqT K H a [.ref ra, .ref wa] ∧ SqT K H ra (t.rates.map V.int) ∧ SqT K H wa (t.wakes.map V.int)
theorem TarAt.same {t : Tar} (h : TarAt K H v t) (e : Same H H1) : TarAt K H1 v t := by
  obtain ⟨a, ra, wa, rfl, h1, h2, h3⟩ := h
  exact ⟨a, ra, wa, rfl, Same_t e h1, Same_t e h2, Same_t e h3⟩
theorem ints_inv {ns : List Int} (h : Dp K H v (dInts ns)) : ∃ a, v = .ref a ∧ SqT K H a (ns.map V.int) := by
  obtain ⟨a, vs, rfl, hs, ha⟩ := dp_tup h
  rw [dpa_ints_inv ha] at hs
  exact ⟨a, rfl, hs⟩
theorem ints_of {ns : List Int} {a : Addr} (h : SqT K H a (ns.map V.int)) : Dp K H (.ref a) (dInts ns) := .tup h (dpa_ints ns)
theorem serv_inv {s : Serv} (h : Dp K H v (dServ s)) : ∃ a ra wa, v = .ref a ∧
    SqT K H a [.str s.name, .int s.room, .int s.lag, .int s.patience, .int s.weight, .int s.most, .int s.budget, .ref ra, .ref wa] ∧ SqT K H ra (s.tar.rates.map V.int) ∧ SqT K H wa (s.tar.wakes.map V.int) := by
  obtain ⟨a, vs, rfl, hs, ha⟩ := dp_tup h
  obtain ⟨x0, _, rfl, h0, ha⟩ := dpa_cons ha
  obtain ⟨x1, _, rfl, h1, ha⟩ := dpa_cons ha
  obtain ⟨x2, _, rfl, h2, ha⟩ := dpa_cons ha
  obtain ⟨x3, _, rfl, h3, ha⟩ := dpa_cons ha
  obtain ⟨x4, _, rfl, h4, ha⟩ := dpa_cons ha
  obtain ⟨x5, _, rfl, h5, ha⟩ := dpa_cons ha
  obtain ⟨x6, _, rfl, h6, ha⟩ := dpa_cons ha
  obtain ⟨x7, _, rfl, h7, ha⟩ := dpa_cons ha
  obtain ⟨x8, _, rfl, h8, ha⟩ := dpa_cons ha
  cases dpa_nil ha
  obtain ⟨ra, rfl, hr⟩ := ints_inv h7
  obtain ⟨wa, rfl, hw⟩ := ints_inv h8
  rw [dp_str h0, dp_int h1, dp_int h2, dp_int h3, dp_int h4, dp_int h5, dp_int h6] at hs
  exact ⟨a, ra, wa, rfl, hs, hr, hw⟩
theorem keep_inv {k : Keep} (h : Dp K H v (dKeep k)) : ∃ a, v = .ref a ∧ SqT K H a [.str k.name, .int k.least, .int k.begin_, .int k.end_, .int k.period] := by
  obtain ⟨a, vs, rfl, hs, ha⟩ := dp_tup h
  obtain ⟨x0, _, rfl, h0, ha⟩ := dpa_cons ha
  obtain ⟨x1, _, rfl, h1, ha⟩ := dpa_cons ha
  obtain ⟨x2, _, rfl, h2, ha⟩ := dpa_cons ha
  obtain ⟨x3, _, rfl, h3, ha⟩ := dpa_cons ha
  obtain ⟨x4, _, rfl, h4, ha⟩ := dpa_cons ha
  cases dpa_nil ha
  rw [dp_str h0, dp_int h1, dp_int h2, dp_int h3, dp_int h4] at hs
  exact ⟨a, rfl, hs⟩
theorem sett_inv {s : Sett} (h : Dp K H v (dSett s)) : ∃ a sa ka ss ks, v = .ref a ∧ SqT K H a [.int s.quota, .ref sa, .ref ka] ∧ SqT K H sa ss ∧ DpAll K H ss (s.servs.map dServ) ∧ SqT K H ka ks ∧ DpAll K H ks (s.keeps.map dKeep) := by
  obtain ⟨a, vs, rfl, hs, ha⟩ := dp_tup h
  obtain ⟨x0, _, rfl, h0, ha⟩ := dpa_cons ha
  obtain ⟨x1, _, rfl, h1, ha⟩ := dpa_cons ha
  obtain ⟨x2, _, rfl, h2, ha⟩ := dpa_cons ha
  cases dpa_nil ha
  obtain ⟨sa, ss, rfl, q1, q2⟩ := dp_tup h1
  obtain ⟨ka, ks, rfl, q3, q4⟩ := dp_tup h2
  rw [dp_int h0] at hs
  exact ⟨a, sa, ka, ss, ks, rfl, hs, q1, q2, q3, q4⟩
theorem row_inv {r : Row} (h : Dp K H v (dRow r)) : ∃ a, v = .ref a ∧ SqT K H a [.int r.price, .int r.came, .bl r.brk] := by
  obtain ⟨a, vs, rfl, hs, ha⟩ := dp_tup h
  obtain ⟨x0, _, rfl, h0, ha⟩ := dpa_cons ha
  obtain ⟨x1, _, rfl, h1, ha⟩ := dpa_cons ha
  obtain ⟨x2, _, rfl, h2, ha⟩ := dpa_cons ha
  cases dpa_nil ha
  rw [dp_int h0, dp_int h1, dp_bl h2] at hs
  exact ⟨a, rfl, hs⟩
theorem row_of {r : Row} {a : Addr} (h : SqT K H a [.int r.price, .int r.came, .bl r.brk]) : Dp K H (.ref a) (dRow r) := .tup h (.cons (.int _) (.cons (.int _) (.cons (.bl _) .nil)))
theorem deed_inv {d : Deed} (h : Dp K H v (dDeed d)) : ∃ a sa, v = .ref a ∧
    SqT K H a [.int d.price, .int d.came, .bl d.brk, .int d.due, .int d.want, .int d.limit, .int d.given, .int d.run, .int d.dropped, .str d.why, .int d.need, .ref sa, .int d.cost] ∧ SqT K H sa (d.states.map V.int) := by
  obtain ⟨a, vs, rfl, hs, ha⟩ := dp_tup h
  obtain ⟨x0, _, rfl, h0, ha⟩ := dpa_cons ha
  obtain ⟨x1, _, rfl, h1, ha⟩ := dpa_cons ha
  obtain ⟨x2, _, rfl, h2, ha⟩ := dpa_cons ha
  obtain ⟨x3, _, rfl, h3, ha⟩ := dpa_cons ha
  obtain ⟨x4, _, rfl, h4, ha⟩ := dpa_cons ha
  obtain ⟨x5, _, rfl, h5, ha⟩ := dpa_cons ha
  obtain ⟨x6, _, rfl, h6, ha⟩ := dpa_cons ha
  obtain ⟨x7, _, rfl, h7, ha⟩ := dpa_cons ha
  obtain ⟨x8, _, rfl, h8, ha⟩ := dpa_cons ha
  obtain ⟨x9, _, rfl, h9, ha⟩ := dpa_cons ha
  obtain ⟨x10, _, rfl, h10, ha⟩ := dpa_cons ha
  obtain ⟨x11, _, rfl, h11, ha⟩ := dpa_cons ha
  obtain ⟨x12, _, rfl, h12, ha⟩ := dpa_cons ha
  cases dpa_nil ha
  obtain ⟨sa, rfl, hq⟩ := ints_inv h11
  rw [dp_int h0, dp_int h1, dp_bl h2, dp_int h3, dp_int h4, dp_int h5, dp_int h6, dp_int h7, dp_int h8, dp_str h9, dp_int h10, dp_int h12] at hs
  exact ⟨a, sa, rfl, hs, hq⟩
theorem deed_of {d : Deed} {a sa : Addr}
    (h : SqT K H a [.int d.price, .int d.came, .bl d.brk, .int d.due, .int d.want, .int d.limit, .int d.given, .int d.run, .int d.dropped, .str d.why, .int d.need, .ref sa, .int d.cost]) (hq : SqT K H sa (d.states.map V.int)) :
    Dp K H (.ref a) (dDeed d) :=
  .tup h (.cons (.int _) (.cons (.int _) (.cons (.bl _) (.cons (.int _) (.cons (.int _) (.cons (.int _) (.cons (.int _) (.cons (.int _) (.cons (.int _) (.cons (.str _) (.cons (.int _) (.cons (ints_of hq) (.cons (.int _) .nil)))))))))))))
end
/-! data that holds no list: lists and instances may change under it -/
def Tups (H H' : Hp) : Prop := ∀ b xs, Rd H b (.tup xs) → Rd H' b (.tup xs)
section
variable {K : PySem.W.Frag} {H H1 H2 : Hp} {p : Addr} {o o' : HO} {v : V}
theorem Same.tups (e : Same H H1) : Tups H H1 := fun _ _ h => Same_rd e h
theorem Tups.trans (a : Tups H H1) (b : Tups H1 H2) : Tups H H2 := fun c xs h => b c xs (a c xs h)
theorem Tups.refl (H : Hp) : Tups H H := fun _ _ h => h
def notTup : HO → Bool
  | .tup _ => false
  | .frz _ _ => false
  | _ => true
theorem Tups_upd (h : H p = some o') (n : notTup o' = true) : Tups H (upd H p o) := fun b xs h' => by
  have ne : b ≠ p := fun e => by
    subst e
    rcases h' with h' | ⟨ob, h'⟩
    · rw [h] at h'; cases h'; cases n
    · rw [h] at h'; cases h'; cases n
  rcases h' with h' | ⟨ob, h'⟩
  · exact .inl (by rw [upd_ne ne]; exact h')
  · exact .inr ⟨ob, by rw [upd_ne ne]; exact h'⟩
theorem Tups_t {a : Addr} {xs : List V} (e : Tups H H1) (h : SqT K H a xs) : SqT K H1 a xs := by
  rcases h with h | h
  · exact .inl (e _ _ h)
  · exact .inr h
mutual
def noL : PyData → Bool
  | .list _ => false
  | .tuple ds => noLs ds
  | .dict _ => false
  | _ => true
def noLs : List PyData → Bool
  | [] => true
  | d :: ds => noL d && noLs ds
end
mutual
theorem Tups_dp (e : Tups H H1) : ∀ {d : PyData} {v : V}, noL d = true → Dp K H v d → Dp K H1 v d
  | .none, _, _, h => by cases h; exact .non
  | .bool b, _, _, h => by cases h; exact .bl b
  | .int i, _, _, h => by cases h; exact .int i
  | .str x, _, _, h => by cases h; exact .str x
  | .list ds, _, n, h => by cases n
  | .tuple ds, _, n, h => by
    cases h with
    | tup hs ha => exact .tup (Tups_t e hs) (Tups_dpa e n ha)
  | .dict _, _, _, h => by cases h
theorem Tups_dpa (e : Tups H H1) : ∀ {ds : List PyData} {vs : List V}, noLs ds = true → DpAll K H vs ds → DpAll K H1 vs ds
  | [], _, _, h => by cases h; exact .nil
  | d :: ds, _, n, h => by
    have n' : (noL d && noLs ds) = true := n
    rw [Bool.and_eq_true] at n'
    cases h with
    | cons h1 h2 => exact .cons (Tups_dp e n'.1 h1) (Tups_dpa e n'.2 h2)
end
theorem noLs_ints : ∀ ns : List Int, noLs (ns.map PyData.int) = true
  | [] => rfl
  | n :: ns => noLs_ints ns
theorem noLs_map {α : Type} {f : α → PyData} (h : ∀ a, noL (f a) = true) : ∀ xs : List α, noLs (xs.map f) = true
  | [] => rfl
  | x :: xs => by
    show (noL (f x) && noLs (xs.map f)) = true
    rw [h x, noLs_map h xs]
    rfl
theorem noL_ints (ns : List Int) : noL (dInts ns) = true := noLs_ints ns
theorem noL_serv (s : Serv) : noL (dServ s) = true := by
  show (true && (true && (true && (true && (true && (true && (true && (noL (dInts s.tar.rates) && (noL (dInts s.tar.wakes) && true))))))))) = true
  rw [noL_ints, noL_ints]
  rfl
theorem noL_keep (k : Keep) : noL (dKeep k) = true := rfl
theorem noL_sett (s : Sett) : noL (dSett s) = true := by
  show (true && (noLs (s.servs.map dServ) && (noLs (s.keeps.map dKeep) && true))) = true
  rw [noLs_map noL_serv, noLs_map noL_keep]
  rfl
theorem noL_row (r : Row) : noL (dRow r) = true := rfl
theorem noL_deed (d : Deed) : noL (dDeed d) = true := by
  show (true && (true && (true && (true && (true && (true && (true && (true && (true && (true && (true && (noL (dInts d.states) && (true && true))))))))))))) = true
  rw [noL_ints]
  rfl
theorem TarAt.tups {t : Tar} (h : TarAt K H v t) (e : Tups H H1) : TarAt K H1 v t := by
  obtain ⟨a, ra, wa, rfl, h1, h2, h3⟩ := h
  exact ⟨a, ra, wa, rfl, Tups_t e h1, Tups_t e h2, Tups_t e h3⟩
/-- a list that is being built: what is put behind it -/
theorem dpa_push {fl : Addr} {vs xs : List V} {ds : List PyData} {d : PyData} (hl : H fl = some (.lst xs)) (n : noLs ds = true) (nd : noL d = true) (ha : DpAll K H vs ds) (hv : Dp K H v d) (ys : List V) :
    DpAll K (upd H fl (.lst ys)) (vs ++ [v]) (ds ++ [d]) := dpa_snoc (Tups_dpa (Tups_upd hl rfl) n ha) (Tups_dp (Tups_upd hl rfl) nd hv)
end
theorem noLs_take : ∀ (i : Nat) {ds : List PyData}, noLs ds = true → noLs (ds.take i) = true
  | 0, _, _ => rfl
  | i + 1, [], _ => rfl
  | i + 1, d :: ds, h => by
    have h' : (noL d && noLs ds) = true := h
    rw [Bool.and_eq_true] at h'
    show (noL d && noLs (ds.take i)) = true
    rw [h'.1, noLs_take i h'.2]
    rfl
theorem take_snoc {α : Type} {xs : List α} {i : Nat} {x : α} (h : xs[i]? = some x) : xs.take (i + 1) = xs.take i ++ [x] := by
  rw [List.take_add_one, h]
  rfl
theorem small_of {n : Nat} (h : n ≤ 100000) : n ≤ sizeLine := Nat.le_trans h (by decide)
theorem less_of {n : Nat} (h : n < 100000) : n < sizeLine := Nat.lt_of_lt_of_le h (by decide)
theorem tl {xs : List V} (n : Nat) (h : xs.length = n) (hn : n ≤ 100000) : xs.length ≤ sizeLine := small_of (by rw [h]; exact hn)
end K65
set_option Elab.async false
set_option linter.all false
set_option maxRecDepth 100000
set_option maxHeartbeats 4000000
namespace K65
open PySem L2
def Tar.off (t : Tar) : Nat := t.rates.length
def Tar.rate (t : Tar) (s : Nat) : Int := if s = t.off then 0 else t.rates.getD s 0
def Tar.wake (t : Tar) (s : Nat) : Int := t.wakes.getD s 0
def Tar.sc (t : Tar) (s : Nat) (total : Int) : Int := t.rate s * total + t.wake s
def Tar.best (t : Tar) (total : Int) : Nat → Nat
  | 0 => 0
  | n + 1 => if t.sc (n + 1) total < t.sc (t.best total n) total then n + 1 else t.best total n
def Tar.idle (t : Tar) (total : Int) : Nat := t.best total t.off
/-- what the walk needs of a tariff -/
structure Tar.Ok (t : Tar) : Prop where
  len : t.wakes.length = t.rates.length + 1
  most : t.rates.length ≤ 4
  small : ∀ r ∈ t.rates, -(2 ^ 64) < r ∧ r < 2 ^ 64
theorem Tar.best_le (t : Tar) (total : Int) : ∀ n, t.best total n ≤ n
  | 0 => Nat.le_refl _
  | n + 1 => by
    unfold Tar.best
    have := t.best_le total n
    split <;> omega
theorem Tar.idle_le (t : Tar) (total : Int) : t.idle total ≤ t.off := t.best_le total t.off
theorem Tar.rate_small {t : Tar} (h : t.Ok) (s : Nat) : -(2 ^ 64) < t.rate s ∧ t.rate s < 2 ^ 64 := by
  unfold Tar.rate
  split
  · decide
  · rw [List.getD_eq_getElem?_getD]
    cases e : t.rates[s]? with
    | none => decide
    | some r => exact h.small r (List.mem_of_getElem? e)
theorem getD_at {xs : List Int} {i : Nat} (h : i < xs.length) : (xs.map V.int)[i]? = some (V.int (xs.getD i 0)) := by
  rw [List.getElem?_map, List.getElem?_eq_getElem h, List.getD_eq_getElem?_getD, List.getElem?_eq_getElem h]
  rfl
section
variable {P : Program} {w : World} {K : PySem.W.Frag} {mg : Str → Option Value} {base : Heap}
def sp_off (T : Ctx K mg) : Sp := fun vs H Q _ => ∃ v t, vs = [v] ∧ TarAt K H v t ∧ Q (.int (t.off : Int)) H
theorem ok_off (T : Ctx K mg) : FnOk P w K mg base CX0 1 T.a_off T.fd_off ["tariff"] (sp_off T) := by
  refine T.F_off.ok sc_off (fun vs H Q E h => ?_) (fun cdv A outer s H vs Q E hr h => ?_)
  · obtain ⟨v, t, rfl, hT, k⟩ := h
    rfl
  · obtain ⟨v, t, rfl, hT, k⟩ := h
    refine ⟨_, PSs.nox (pss_one (ps_ret (pe_callB call_len_seq (by rfl) T.n_len (by decide +kernel) (pa_cons (pe_ix ix_tup (pv 0) pe_int (fun _ _ => rfl)) pa_nil)))), ?_⟩
    obtain ⟨a, ra, wa, rfl, h1, h2, h3⟩ := hT
    refine ⟨_, rfl, _, _, _, _, rfl, rfl, h1, rfl, _, _, rfl, Or.inr h2, ?_⟩
    rw [List.length_map]
    exact k
def sp_wake (T : Ctx K mg) : Sp := fun vs H Q _ => ∃ v t, ∃ s : Nat, vs = [v, .int (s : Int)] ∧ TarAt K H v t ∧ s < t.wakes.length ∧ Q (.int (t.wake s)) H
theorem ok_wake (T : Ctx K mg) : FnOk P w K mg base CX0 1 T.a_wake T.fd_wake ["tariff", "state"] (sp_wake T) := by
  refine T.F_wake.ok sc_wake (fun vs H Q E h => ?_) (fun cdv A outer s H vs Q E hr h => ?_)
  · obtain ⟨v, t, s, rfl, hT, hs, k⟩ := h
    rfl
  · obtain ⟨v, t, s, rfl, hT, hs, k⟩ := h
    refine ⟨_, PSs.nox (pss_one (ps_ret (pe_ix ix_tup (pe_ix ix_tup (pv 0) pe_int (fun _ _ => rfl)) (pv 1) (fun _ _ => rfl)))), ?_⟩
    obtain ⟨a, ra, wa, rfl, h1, h2, h3⟩ := hT
    exact ⟨_, rfl, _, _, _, _, rfl, rfl, h1, rfl, _, rfl, _, _, _, _, rfl, rfl, h3, atI_nat (getD_at hs), k⟩
def sp_rate (T : Ctx K mg) : Sp := fun vs H Q _ => ∃ v t, ∃ s : Nat, vs = [v, .int (s : Int)] ∧ TarAt K H v t ∧ s ≤ t.off ∧ Q (.int (t.rate s)) H
theorem ok_rate (T : Ctx K mg) : FnOk P w K mg base CX0 2 T.a_rate T.fd_rate ["tariff", "state"] (sp_rate T) := by
  have G_off := ok_off (P := P) (w := w) (base := base) T
  refine T.F_rate.ok sc_rate (fun vs H Q E h => ?_) (fun cdv A outer s H vs Q E hr h => ?_)
  · obtain ⟨v, t, s, rfl, hT, hs, k⟩ := h
    rfl
  · obtain ⟨v, t, s, rfl, hT, hs, k⟩ := h
    refine ⟨_, PSs.nox (pss_one (ps_ret (pe_ifExp (pt_cmpR op_eq (pv 1) (pe_call G_off (hr.mono (by decide)) rfl T.g_off T.F_off.kp T.b_off .nil pass0 (pa_cons (pv 0) pa_nil)) (nomark _)) pe_int (pe_ix ix_tup (pe_ix ix_tup (pv 0) pe_int (fun _ _ => rfl)) (pv 1) (fun _ _ => rfl))))), ?_⟩
    refine ⟨_, rfl, _, rfl, v, t, rfl, hT, rfl, _, rfl, ?_⟩
    obtain ⟨a, ra, wa, rfl, h1, h2, h3⟩ := hT
    by_cases e : s = t.off
    · have k' : Q (.int 0) H := by
        unfold Tar.rate at k
        rw [if_pos e] at k
        exact k
      rw [decide_eq_true (show V.int (s : Int) = V.int (t.off : Int) by rw [e])]
      exact k'
    · have k' : Q (.int (t.rates.getD s 0)) H := by
        unfold Tar.rate at k
        rw [if_neg e] at k
        exact k
      rw [decide_eq_false (show ¬ V.int (s : Int) = V.int (t.off : Int) from fun q => e (by injection q; omega))]
      have hl : s < t.rates.length := by
        have : t.off = t.rates.length := rfl
        omega
      exact ⟨_, rfl, _, _, _, _, rfl, rfl, h1, rfl, _, rfl, _, _, _, _, rfl, rfl, h2, atI_nat (getD_at hl), k'⟩
def sp_state_cost (T : Ctx K mg) : Sp := fun vs H Q _ => ∃ v t, ∃ (s : Nat) (total : Int), vs = [v, .int (s : Int), .int total] ∧ TarAt K H v t ∧ t.Ok ∧ s ≤ t.off ∧ Q (.int (t.sc s total)) H
theorem ok_state_cost (T : Ctx K mg) : FnOk P w K mg base CX0 3 T.a_state_cost T.fd_state_cost ["tariff", "state", "total"] (sp_state_cost T) := by
  have G_rate := ok_rate (P := P) (w := w) (base := base) T
  have G_wake := ok_wake (P := P) (w := w) (base := base) T
  refine T.F_state_cost.ok sc_state_cost (fun vs H Q E h => ?_) (fun cdv A outer s H vs Q E hr h => ?_)
  · obtain ⟨v, t, s, total, rfl, hT, ok, hs, k⟩ := h
    rfl
  · obtain ⟨v, t, s, total, rfl, hT, ok, hs, k⟩ := h
    refine ⟨_, PSs.nox (pss_one (ps_ret (pe_op op_add (pe_op op_mul (pe_call G_rate (hr.mono (by decide)) rfl T.g_rate T.F_rate.kp T.b_rate .nil pass0 (pa_cons (pv 0) (pa_cons (pv 1) pa_nil))) (pv 2)) (pe_call G_wake (hr.mono (by decide)) rfl T.g_wake T.F_wake.kp T.b_wake .nil pass0 (pa_cons (pv 0) (pa_cons (pv 1) pa_nil)))))), ?_⟩
    refine ⟨_, rfl, _, rfl, v, t, s, rfl, hT, hs, _, rfl, _, _, rfl, rfl, .inl (Tar.rate_small ok s), _, rfl, _, rfl, v, t, s, rfl, hT, ?_, _, _, rfl, rfl, k⟩
    have := ok.len
    have : t.off = t.rates.length := rfl
    omega
def sp_idle_state (T : Ctx K mg) : Sp := fun vs H Q _ => ∃ v t, ∃ (total : Int), vs = [v, .int total] ∧ TarAt K H v t ∧ t.Ok ∧ Q (.int (t.idle total : Int)) H
theorem ok_idle_state (T : Ctx K mg) : FnOk P w K mg base CX0 4 T.a_idle_state T.fd_idle_state ["tariff", "total"] (sp_idle_state T) := by
  have G_off := ok_off (P := P) (w := w) (base := base) T
  have G_state_cost := ok_state_cost (P := P) (w := w) (base := base) T
  refine T.F_idle_state.ok sc_idle_state (fun vs H Q E h => ?_) (fun cdv A outer s H vs Q E hr h => ?_)
  · obtain ⟨v, t, total, rfl, hT, ok, k⟩ := h
    rfl
  · obtain ⟨v, t, total, rfl, hT, ok, k⟩ := h
    refine ⟨_, PSs.nox (pss_cons (ps_set (i := 2) sc_idle_state.nd rfl (Or.inl rfl) pe_int)
    (pss_cons (ps_for PassesOwn.never rfl (pi_range2 rfl T.n_range (pa_cons pe_int (pa_cons (pe_op op_add (pe_call G_off (hr.mono (by decide)) rfl T.g_off T.F_off.kp T.b_off .nil pass0 (pa_cons (pv 0) pa_nil)) pe_int) pa_nil))) (pg_name (i := 3) sc_idle_state.nd rfl (Or.inl rfl))
      (pss_one (ps_if (pt_cmpR op_lt (pe_call G_state_cost (hr.mono (by decide)) rfl T.g_state_cost T.F_state_cost.kp T.b_state_cost .nil pass0 (pa_cons (pv 0) (pa_cons (pv 3) (pa_cons (pv 1) pa_nil)))) (pe_call G_state_cost (hr.mono (by decide)) rfl T.g_state_cost T.F_state_cost.kp T.b_state_cost .nil pass0 (pa_cons (pv 0) (pa_cons (pv 2) (pa_cons (pv 1) pa_nil)))) (nomark _))
        (pss_one (ps_set (i := 2) sc_idle_state.nd rfl (Or.inl rfl) (pv 3)))
        pss_nil)))
    (pss_one (ps_ret (pv 2))))), ?_⟩
    have ho : t.off ≤ 4 := ok.most
    refine ⟨_, rfl, v, t, rfl, hT, _, _, rfl, rfl, _, _, rfl, ⟨by decide, by decide, by omega, by omega⟩, ?_⟩
    have e1 : ((t.off : Int) + 1 - 1).toNat = t.off := by omega
    rw [e1]
    refine for_range (lo := 1) (n := t.off) (fun i σ H' => H' = H ∧ ∃ x : Option V, σ = [some v, some (.int total), some (.int (t.best total i : Int)), x]) ⟨rfl, _, rfl⟩ ?_ ?_
    · rintro i σ H' hi ⟨rfl, x, rfl⟩
      have hb := t.best_le total i
      refine ⟨_, rfl, _, rfl, _, rfl, v, t, (i + 1), total, ?_, hT, ok, by omega, _, rfl, _, rfl, _, rfl, v, t, _, _, rfl, hT, ok, by omega, _, _, rfl, rfl, _, rfl, ?_⟩
      · rw [Int.add_comm]
        rfl
      · refine ite2 (fun h => ?_) (fun h => ?_)
        · have h' := of_decide_eq_true h
          refine ⟨_, rfl, rfl, some (.int (1 + (i : Int))), ?_⟩
          have e : t.best total (i + 1) = i + 1 := by
            conv => lhs; unfold Tar.best
            rw [if_pos h']
          rw [e, show (1 + (i : Int)) = ((i + 1 : Nat) : Int) by omega]
          rfl
        · have h' : ¬ t.sc (i + 1) total < t.sc (t.best total i) total := fun q => h (decide_eq_true q)
          refine ⟨rfl, some (.int (1 + (i : Int))), ?_⟩
          have e : t.best total (i + 1) = t.best total i := by
            conv => lhs; unfold Tar.best
            rw [if_neg h']
          rw [e]
          rfl
    · rintro σ H' ⟨rfl, x, rfl⟩
      exact ⟨_, rfl, k⟩
end
end K65
set_option Elab.async false
set_option linter.all false
set_option maxRecDepth 100000
set_option maxHeartbeats 4000000
namespace K65
open PySem L2
structure Lane where
  st : Nat
  total : Int
  cost : Int
def dLane (l : Lane) : PyData := .tuple [.int (l.st : Int), .int l.total, .int l.cost]
def dLanes (ls : List Lane) : PyData := .list (ls.map dLane)
def needed (t : Tar) (l : Lane) (price : Int) : Lane × Int := (⟨0, 0, 0⟩, t.wake l.st + t.rate 0 * price)
def idleL (t : Tar) (l : Lane) (price : Int) : Lane × Int :=
  if l.st = t.off then (l, 0) else
    if t.idle (l.total + price) = t.off then (⟨t.off, 0, 0⟩, 0) else
      (⟨t.idle (l.total + price), l.total + price, l.cost + t.rate (t.idle (l.total + price)) * price⟩, t.rate (t.idle (l.total + price)) * price)
def mv1 (t : Tar) (price need : Int) (i : Nat) (l : Lane) : Lane × Int := if (i : Int) < need then needed t l price else idleL t l price
def movedL (t : Tar) (ls : List Lane) (price need : Int) : List Lane := ls.mapIdx fun i l => (mv1 t price need i l).1
def movedC (t : Tar) (ls : List Lane) (price need : Int) : List Int := ls.mapIdx fun i l => (mv1 t price need i l).2
def reserve (t : Tar) (ls : List Lane) : Int := ((ls.filter fun l => !decide (l.st = t.off)).map fun l => t.wake t.off - l.cost).sum
theorem needed_ok (t : Tar) (l : Lane) (price : Int) : (needed t l price).1.st ≤ t.off := Nat.zero_le _
theorem idleL_ok (t : Tar) (l : Lane) (price : Int) (h : l.st ≤ t.off) : (idleL t l price).1.st ≤ t.off := by
  unfold idleL
  split
  · exact h
  · split
    · exact Nat.le_refl _
    · exact t.idle_le _
theorem mv1_ok (t : Tar) (price need : Int) (i : Nat) (l : Lane) (h : l.st ≤ t.off) : (mv1 t price need i l).1.st ≤ t.off := by
  unfold mv1
  split
  · exact needed_ok t l price
  · exact idleL_ok t l price h
theorem movedL_ok (t : Tar) (ls : List Lane) (price need : Int) (h : ∀ l ∈ ls, l.st ≤ t.off) : ∀ l ∈ movedL t ls price need, l.st ≤ t.off := by
  intro l hl
  unfold movedL at hl
  obtain ⟨i, hi, e⟩ := List.mem_mapIdx.mp hl
  rw [← e]
  exact mv1_ok t price need i _ (h _ (List.getElem_mem hi))
theorem movedL_len (t : Tar) (ls : List Lane) (price need : Int) : (movedL t ls price need).length = ls.length := List.length_mapIdx
section
variable {P : Program} {w : World} {K : PySem.W.Frag} {mg : Str → Option Value} {base : Heap} {H H1 : Hp}
theorem noL_lane (l : Lane) : noL (dLane l) = true := rfl
theorem lane_inv {l : Lane} {v : V} (h : Dp K H v (dLane l)) : ∃ a, v = .ref a ∧ SqT K H a [.int (l.st : Int), .int l.total, .int l.cost] := by
  obtain ⟨a, vs, rfl, hs, ha⟩ := dp_tup h
  obtain ⟨x0, _, rfl, h0, ha⟩ := dpa_cons ha
  obtain ⟨x1, _, rfl, h1, ha⟩ := dpa_cons ha
  obtain ⟨x2, _, rfl, h2, ha⟩ := dpa_cons ha
  cases dpa_nil ha
  rw [dp_int h0, dp_int h1, dp_int h2] at hs
  exact ⟨a, rfl, hs⟩
theorem lane_of {l : Lane} {a : Addr} (h : SqT K H a [.int (l.st : Int), .int l.total, .int l.cost]) : Dp K H (.ref a) (dLane l) := .tup h (.cons (.int _) (.cons (.int _) (.cons (.int _) .nil)))
def sp_needed_lane (T : Ctx K mg) : Sp := fun vs H Q _ => ∃ v t lv l, ∃ price : Int, vs = [v, lv, .int price] ∧ TarAt K H v t ∧ t.Ok ∧ Dp K H lv (dLane l) ∧ l.st ≤ t.off ∧
  ∀ H' p q, Same H H' → SqT K H' p [.ref q, .int (needed t l price).2] → Dp K H' (.ref q) (dLane (needed t l price).1) → Q (.ref p) H'
theorem ok_needed_lane (T : Ctx K mg) : FnOk P w K mg base CX0 3 T.a_needed_lane T.fd_needed_lane ["tariff", "lane", "price"] (sp_needed_lane T) := by
  have G_wake := ok_wake (P := P) (w := w) (base := base) T
  have G_rate := ok_rate (P := P) (w := w) (base := base) T
  refine T.F_needed_lane.ok sc_needed_lane (fun vs H Q E h => ?_) (fun cdv A outer s H vs Q E hr h => ?_)
  · obtain ⟨v, t, lv, l, price, rfl, hT, ok, hL, ho, k⟩ := h
    rfl
  · obtain ⟨v, t, lv, l, price, rfl, hT, ok, hL, ho, k⟩ := h
    refine ⟨_, PSs.nox (pss_one (ps_ret (pe_tup (pa_cons (pe_tup (pa_cons pe_int (pa_cons pe_int (pa_cons pe_int pa_nil)))) (pa_cons (pe_op op_add (pe_call G_wake (hr.mono (by decide)) rfl T.g_wake T.F_wake.kp T.b_wake .nil pass0 (pa_cons (pv 0) (pa_cons (pe_ix ix_tup (pv 1) pe_int (fun _ _ => rfl)) pa_nil))) (pe_op op_mul (pe_call G_rate (hr.mono (by decide)) rfl T.g_rate T.F_rate.kp T.b_rate .nil pass0 (pa_cons (pv 0) (pa_cons pe_int pa_nil))) (pv 2))) pa_nil))))), ?_⟩
    obtain ⟨a, rfl, ha⟩ := lane_inv hL
    have hw : l.st < t.wakes.length := by
      have := ok.len
      have : t.off = t.rates.length := rfl
      omega
    refine ⟨small_of (by decide), fun q nq => ?_⟩
    have s1 : Same H (upd H q (.tup [.int 0, .int 0, .int 0])) := Same_new nq
    refine ⟨_, rfl, _, rfl, _, _, _, _, rfl, rfl, Same_t s1 ha, rfl, v, t, l.st, rfl, hT.same s1, hw, _, rfl, v, t, 0, rfl, hT.same s1, Nat.zero_le _, _, rfl, _, _, rfl, rfl, .inl (Tar.rate_small ok 0), _, _, rfl, rfl, tl 2 rfl (by decide), fun p np => ?_⟩
    have s2 := Same_new (o := .tup [.ref q, .int (t.wake l.st + t.rate 0 * price)]) np
    exact k _ p q (s1.trans s2) (SqT.of upd_same) (lane_of (l := ⟨0, 0, 0⟩) (Same_t s2 (SqT.of upd_same)))
def sp_idle_lane (T : Ctx K mg) : Sp := fun vs H Q _ => ∃ v t lv l, ∃ price : Int, vs = [v, lv, .int price] ∧ TarAt K H v t ∧ t.Ok ∧ Dp K H lv (dLane l) ∧ l.st ≤ t.off ∧
  ∀ H' p q, Same H H' → SqT K H' p [.ref q, .int (idleL t l price).2] → Dp K H' (.ref q) (dLane (idleL t l price).1) → Q (.ref p) H'
theorem ok_idle_lane (T : Ctx K mg) : FnOk P w K mg base CX0 5 T.a_idle_lane T.fd_idle_lane ["tariff", "lane", "price"] (sp_idle_lane T) := by
  have G_off := ok_off (P := P) (w := w) (base := base) T
  have G_idle_state := ok_idle_state (P := P) (w := w) (base := base) T
  have G_rate := ok_rate (P := P) (w := w) (base := base) T
  refine T.F_idle_lane.ok sc_idle_lane (fun vs H Q E h => ?_) (fun cdv A outer s H vs Q E hr h => ?_)
  · obtain ⟨v, t, lv, l, price, rfl, hT, ok, hL, ho, k⟩ := h
    rfl
  · obtain ⟨v, t, lv, l, price, rfl, hT, ok, hL, ho, k⟩ := h
    refine ⟨_, PSs.nox (pss_cons (ps_asg (pv 1) (pg_tup rfl (pgs_cons (pg_name (i := 3) sc_idle_lane.nd rfl (Or.inl rfl)) (pgs_cons (pg_name (i := 4) sc_idle_lane.nd rfl (Or.inl rfl)) (pgs_cons (pg_name (i := 5) sc_idle_lane.nd rfl (Or.inl rfl)) pgs_nil)))))
    (pss_cons (ps_set (i := 6) sc_idle_lane.nd rfl (Or.inl rfl) (pe_call G_off (hr.mono (by decide)) rfl T.g_off T.F_off.kp T.b_off .nil pass0 (pa_cons (pv 0) pa_nil)))
    (pss_cons (ps_if (pt_cmpR op_eq (pv 3) (pv 6) (nomark _))
      (pss_one (ps_ret (pe_tup (pa_cons (pv 1) (pa_cons pe_int pa_nil)))))
      pss_nil)
    (pss_cons (ps_aug (i := 4) sc_idle_lane.nd rfl (Or.inl rfl) (pv 2) ip_add)
    (pss_cons (ps_set (i := 3) sc_idle_lane.nd rfl (Or.inl rfl) (pe_call G_idle_state (hr.mono (by decide)) rfl T.g_idle_state T.F_idle_state.kp T.b_idle_state .nil pass0 (pa_cons (pv 0) (pa_cons (pv 4) pa_nil))))
    (pss_cons (ps_if (pt_cmpR op_eq (pv 3) (pv 6) (nomark _))
      (pss_one (ps_ret (pe_tup (pa_cons (pe_tup (pa_cons (pv 6) (pa_cons pe_int (pa_cons pe_int pa_nil)))) (pa_cons pe_int pa_nil)))))
      pss_nil)
    (pss_cons (ps_set (i := 7) sc_idle_lane.nd rfl (Or.inl rfl) (pe_op op_mul (pe_call G_rate (hr.mono (by decide)) rfl T.g_rate T.F_rate.kp T.b_rate .nil pass0 (pa_cons (pv 0) (pa_cons (pv 3) pa_nil))) (pv 2)))
    (pss_one (ps_ret (pe_tup (pa_cons (pe_tup (pa_cons (pv 3) (pa_cons (pv 4) (pa_cons (pe_op op_add (pv 5) (pv 7)) pa_nil)))) (pa_cons (pv 7) pa_nil)))))))))))), ?_⟩
    obtain ⟨a, rfl, ha⟩ := lane_inv hL
    -- state, total, cost = lane; cold = off(tariff)
    refine ⟨_, rfl, _, _, rfl, ha, rfl, _, _, rfl, _, _, rfl, _, _, rfl, rfl, _, rfl, v, t, rfl, hT, ?_⟩
    -- if state == cold: return (lane, 0)
    refine ⟨_, rfl, _, rfl, rfl, _, rfl, ?_⟩
    refine ite2 (fun h => ?_) (fun h => ?_)
    · have e : l.st = t.off := by
        have h' := of_decide_eq_true h
        injection h' with h'
        omega
      have ei : idleL t l price = (l, 0) := by
        unfold idleL
        rw [if_pos e]
      refine ⟨_, rfl, tl 2 rfl (by decide), fun p np => ?_⟩
      have s1 := Same_new (o := .tup [.ref a, .int 0]) np
      rw [ei] at k
      exact k _ p a s1 (SqT.of upd_same) (Same_dp s1 hL)
    · have e : ¬ l.st = t.off := fun q => h (decide_eq_true (by rw [q]))
      -- total += price; state = idle_state(tariff, total)
      refine ⟨_, rfl, _, rfl, _, _, rfl, rfl, _, rfl, _, rfl, v, t, _, rfl, hT, ok, ?_⟩
      refine ⟨_, rfl, _, rfl, rfl, _, rfl, ?_⟩
      refine ite2 (fun h2 => ?_) (fun h2 => ?_)
      · have e2 : t.idle (l.total + price) = t.off := by
          have h' : V.int (t.idle (l.total + price) : Int) = V.int (t.off : Int) := of_decide_eq_true h2
          injection h' with h'
          omega
        have ei : idleL t l price = (⟨t.off, 0, 0⟩, 0) := by
          unfold idleL
          rw [if_neg e, if_pos e2]
        refine ⟨_, rfl, tl 3 rfl (by decide), fun q nq => ⟨tl 2 rfl (by decide), fun p np => ?_⟩⟩
        have s1 := Same_new (o := .tup [.int (t.off : Int), .int 0, .int 0]) nq
        have s2 := Same_new (o := .tup [.ref q, .int 0]) np
        rw [ei] at k
        exact k _ p q (s1.trans s2) (SqT.of upd_same) (lane_of (l := ⟨t.off, 0, 0⟩) (Same_t s2 (SqT.of upd_same)))
      · have e2 : ¬ t.idle (l.total + price) = t.off := fun q => h2 (decide_eq_true (by rw [q]))
        have ei : idleL t l price = (⟨t.idle (l.total + price), l.total + price, l.cost + t.rate (t.idle (l.total + price)) * price⟩, t.rate (t.idle (l.total + price)) * price) := by
          unfold idleL
          rw [if_neg e, if_neg e2]
        -- more = rate(tariff, state) * price; return ((state, total, cost + more), more)
        refine ⟨_, rfl, _, rfl, v, t, _, rfl, hT, t.idle_le _, _, rfl, _, _, rfl, rfl, .inl (Tar.rate_small ok _), ?_⟩
        refine ⟨_, rfl, _, rfl, _, rfl, _, rfl, _, _, rfl, rfl, tl 3 rfl (by decide), fun q nq => ⟨_, rfl, tl 2 rfl (by decide), fun p np => ?_⟩⟩
        rw [ei] at k
        refine k _ p q ((Same_new nq).trans (Same_new np)) (SqT.of upd_same) ?_
        exact lane_of (l := ⟨t.idle (l.total + price), l.total + price, l.cost + t.rate (t.idle (l.total + price)) * price⟩) (Same_t (Same_new np) (SqT.of upd_same))
theorem mapIdx_at {α β : Type} {f : Nat → α → β} {xs : List α} {i : Nat} {x : α} (h : xs[i]? = some x) : (xs.mapIdx f)[i]? = some (f i x) := by
  rw [List.getElem?_mapIdx, h]
  rfl
def sp_moved_lanes (T : Ctx K mg) : Sp := fun vs H Q _ => ∃ v t lv ls, ∃ price need : Int, vs = [v, lv, .int price, .int need] ∧ TarAt K H v t ∧ t.Ok ∧ Dp K H lv (dLanes ls) ∧ ls.length ≤ 1000 ∧ (∀ l ∈ ls, l.st ≤ t.off) ∧
  ∀ H' p q xs, Same H H' → SqT K H' p [.ref q, .int (movedC t ls price need).sum] → H q = none → H' q = some (.lst xs) → DpAll K H' xs ((movedL t ls price need).map dLane) → Q (.ref p) H'
theorem ok_moved_lanes (T : Ctx K mg) : FnOk P w K mg base CX0 6 T.a_moved_lanes T.fd_moved_lanes ["tariff", "lanes", "price", "need"] (sp_moved_lanes T) := by
  have G_needed_lane := ok_needed_lane (P := P) (w := w) (base := base) T
  have G_idle_lane := ok_idle_lane (P := P) (w := w) (base := base) T
  refine T.F_moved_lanes.ok sc_moved_lanes (fun vs H Q E h => ?_) (fun cdv A outer s H vs Q E hr h => ?_)
  · obtain ⟨v, t, lv, ls, price, need, rfl, hT, ok, hL, hz, ho, k⟩ := h
    rfl
  · obtain ⟨v, t, lv, ls, price, need, rfl, hT, ok, hL, hz, ho, k⟩ := h
    refine ⟨_, PSs.nox (pss_cons (ps_set (i := 4) sc_moved_lanes.nd rfl (Or.inl rfl) (pe_lst pa_nil))
    (pss_cons (ps_set (i := 5) sc_moved_lanes.nd rfl (Or.inl rfl) pe_int)
    (pss_cons (ps_for PassesOwn.never rfl (pi_enum (by rfl) T.n_enumerate (pa_cons (pv 1) pa_nil)) (pg_tup rfl (pgs_cons (pg_name (i := 6) sc_moved_lanes.nd rfl (Or.inl rfl)) (pgs_cons (pg_name (i := 7) sc_moved_lanes.nd rfl (Or.inl rfl)) pgs_nil)))
      (pss_cons (ps_if (pt_cmpR op_lt (pv 6) (pv 3) (nomark _))
        (pss_one (ps_asg (pe_call G_needed_lane (hr.mono (by decide)) rfl T.g_needed_lane T.F_needed_lane.kp T.b_needed_lane .nil pass0 (pa_cons (pv 0) (pa_cons (pv 7) (pa_cons (pv 2) pa_nil)))) (pg_tup rfl (pgs_cons (pg_name (i := 7) sc_moved_lanes.nd rfl (Or.inl rfl)) (pgs_cons (pg_name (i := 8) sc_moved_lanes.nd rfl (Or.inl rfl)) pgs_nil)))))
        (pss_one (ps_asg (pe_call G_idle_lane (hr.mono (by decide)) rfl T.g_idle_lane T.F_idle_lane.kp T.b_idle_lane .nil pass0 (pa_cons (pv 0) (pa_cons (pv 7) (pa_cons (pv 2) pa_nil)))) (pg_tup rfl (pgs_cons (pg_name (i := 7) sc_moved_lanes.nd rfl (Or.inl rfl)) (pgs_cons (pg_name (i := 8) sc_moved_lanes.nd rfl (Or.inl rfl)) pgs_nil))))))
      (pss_cons (ps_expr (pe_bm PySem.F.plainAttrs_list PySem.F.slot_list_append PySem.F.type_list_append mt_append (pv 4) (pa_cons (pv 7) pa_nil)))
      (pss_one (ps_aug (i := 5) sc_moved_lanes.nd rfl (Or.inl rfl) (pv 8) ip_add)))))
    (pss_one (ps_ret (pe_tup (pa_cons (pv 4) (pa_cons (pv 5) pa_nil)))))))), ?_⟩
    obtain ⟨la, xs, rfl, hx, hxs⟩ := dp_lst hL
    have hlen : xs.length = ls.length := by rw [dpa_len hxs, List.length_map]
    -- found = []; total = 0
    refine ⟨small_of (by decide), fun fl nf => ?_⟩
    have s0 := Same_new (o := .lst []) nf
    -- for index, lane in enumerate(lanes)
    refine ⟨_, rfl, la, xs, rfl, Same_l s0 hx, for_it (walk_enum (K := K) (a := la) (xs := xs)) (fun i σ H' => ∃ (ys : List V) (x6 x7 x8 : Option V), σ = [some v, some (.ref la), some (.int price), some (.int need), some (.ref fl), some (.int ((movedC t ls price need).take i).sum), x6, x7, x8] ∧
      Same H H' ∧ H' fl = some (.lst ys) ∧ ys.length = i ∧ DpAll K H' ys (((movedL t ls price need).map dLane).take i)) ⟨[], none, none, none, rfl, s0, upd_same, rfl, .nil⟩
      (fun i σ H' _ ⟨_, _, _, _, _, s, _⟩ => Same_l s hx) ?_ ?_⟩
    · rintro i x σ H1 H2 hi ⟨ys, x6, x7, x8, rfl, s1, hf, hyl, hys⟩ ⟨tp, _, lx, rfl, ntp, rfl, rfl', hlx⟩
      cases rfl'
      have hlx' : xs[i]? = some lx := hlx
      obtain ⟨d, hd, hdp⟩ := dpa_at hxs hlx'
      obtain ⟨l, hl, rfl⟩ : ∃ l, ls[i]? = some l ∧ d = dLane l := by
        rw [List.getElem?_map] at hd
        cases e : ls[i]? with
        | none => rw [e] at hd; cases hd
        | some l => rw [e] at hd; exact ⟨l, rfl, (Option.some.inj hd).symm⟩
      have hlo : l.st ≤ t.off := ho l (List.mem_of_getElem? hl)
      have s2 : Same H (upd H1 tp (.tup [.int (i : Nat), lx])) := Same_upd s1 ntp
      have hf2 : (upd H1 tp (.tup [.int (i : Nat), lx])) fl = some (.lst ys) := by rw [upd_ne (ne_of_none hf ntp)]; exact hf
      have hys2 := Same_dpa (Same_new (o := .tup [.int (i : Nat), lx]) ntp) hys
      refine ⟨_, _, rfl, SqT.of upd_same, rfl, _, _, rfl, _, _, rfl, rfl, ?_⟩
      -- what the turn does with the moved lane
      have fin : ∀ (H' : Hp) (p q : Addr), Same (upd H1 tp (.tup [.int (i : Nat), lx])) H' → SqT K H' p [.ref q, .int (mv1 t price need i l).2] → Dp K H' (.ref q) (dLane (mv1 t price need i l).1) →
          ∃ (ys' : List V) (x6 x7 x8 : Option V), [some v, some (.ref la), some (.int price), some (.int need), some (.ref fl), some (.int (((movedC t ls price need).take i).sum + (mv1 t price need i l).2)), some (.int (i : Nat)), some (.ref q), some (.int (mv1 t price need i l).2)] =
            [some v, some (.ref la), some (.int price), some (.int need), some (.ref fl), some (.int ((movedC t ls price need).take (i + 1)).sum), x6, x7, x8] ∧
            Same H (upd H' fl (.lst (ys ++ [.ref q]))) ∧ (upd H' fl (.lst (ys ++ [.ref q]))) fl = some (.lst ys') ∧ ys'.length = i + 1 ∧ DpAll K (upd H' fl (.lst (ys ++ [.ref q]))) ys' (((movedL t ls price need).map dLane).take (i + 1)) := by
        intro H' p q s3 _ hq
        refine ⟨ys ++ [.ref q], some (.int (i : Nat)), some (.ref q), some (.int (mv1 t price need i l).2), ?_, Same_mut (s2.trans s3) nf, upd_same, by simp [hyl], ?_⟩
        · rw [sum_take (z := (mv1 t price need i l).2) (mapIdx_at hl)]
        · have e1 : ((movedL t ls price need).map dLane)[i]? = some (dLane (mv1 t price need i l).1) := by
            rw [List.getElem?_map, show (movedL t ls price need)[i]? = some (mv1 t price need i l).1 from mapIdx_at hl]
            rfl
          rw [take_snoc e1]
          exact dpa_push (s3 _ _ hf2) (noLs_take i (noLs_map noL_lane _)) (noL_lane _) (Same_dpa s3 hys2) hq _
      -- if index < need
      refine ⟨_, rfl, _, rfl, _, _, rfl, rfl, _, rfl, ?_⟩
      refine ite2 (fun h => ?_) (fun h => ?_)
      · have e : mv1 t price need i l = needed t l price := by
          unfold mv1
          rw [if_pos (of_decide_eq_true h)]
        refine ⟨_, rfl, _, rfl, _, rfl, v, t, lx, l, price, rfl, hT.same s2, ok, Same_dp s2 hdp, hlo, fun H' p q s3 hp hq => ?_⟩
        rw [← e] at hp hq
        refine ⟨_, _, rfl, hp, rfl, _, _, rfl, _, _, rfl, rfl, ?_⟩
        have hf3 := s3 _ _ hf2
        refine ⟨_, rfl, .inl ⟨rfl, _, SqL.of hf3⟩, _, rfl, fl, ys, _, rfl, rfl, hf3, less_of (by omega), _, rfl, _, rfl, _, _, rfl, rfl, ?_⟩
        exact fin H' p q s3 hp hq
      · have e : mv1 t price need i l = idleL t l price := by
          unfold mv1
          rw [if_neg (fun q => h (decide_eq_true q))]
        refine ⟨_, rfl, _, rfl, _, rfl, v, t, lx, l, price, rfl, hT.same s2, ok, Same_dp s2 hdp, hlo, fun H' p q s3 hp hq => ?_⟩
        rw [← e] at hp hq
        refine ⟨_, _, rfl, hp, rfl, _, _, rfl, _, _, rfl, rfl, ?_⟩
        have hf3 := s3 _ _ hf2
        refine ⟨_, rfl, .inl ⟨rfl, _, SqL.of hf3⟩, _, rfl, fl, ys, _, rfl, rfl, hf3, less_of (by omega), _, rfl, _, rfl, _, _, rfl, rfl, ?_⟩
        exact fin H' p q s3 hp hq
    · rintro σ H1 ⟨ys, x6, x7, x8, rfl, s1, hf, hyl, hys⟩
      refine ⟨_, rfl, _, rfl, tl 2 rfl (by decide), fun p np => ?_⟩
      rw [hlen] at hys hyl ⊢
      have e1 : (movedC t ls price need).take ls.length = movedC t ls price need := List.take_of_length_le (by unfold movedC; rw [List.length_mapIdx]; exact Nat.le_refl _)
      have e2 : ((movedL t ls price need).map dLane).take ls.length = (movedL t ls price need).map dLane := List.take_of_length_le (by rw [List.length_map, movedL_len]; exact Nat.le_refl _)
      rw [e1]
      rw [e2] at hys
      have s2 := Same_new (o := .tup [.ref fl, .int (movedC t ls price need).sum]) np
      exact k _ p fl ys (s1.trans s2) (SqT.of upd_same) nf (s2 _ _ hf) (Same_dpa s2 hys)
end
end K65
set_option Elab.async false
set_option linter.all false
set_option maxRecDepth 100000
set_option maxHeartbeats 4000000
namespace K65
open PySem L2
/-! fields by name -/
theorem lk_hit {k : Str} {v : V} {r : List (Str × V)} : List.lookup k ((k, v) :: r) = some v := by
  show (match k == k with | true => some v | false => List.lookup k r) = some v
  rw [beq_self_eq_true]
theorem lk_miss {k k' : Str} {v : V} {r : List (Str × V)} (h : ¬ k = k') : List.lookup k ((k', v) :: r) = List.lookup k r := by
  show (match k == k' with | true => some v | false => List.lookup k r) = List.lookup k r
  rw [beq_eq_false_iff_ne.mpr h]
theorem pf_hit {k : Str} {v y : V} {r : List (Str × V)} : putF k y ((k, v) :: r) = (k, y) :: r := if_pos rfl
theorem pf_miss {k k' : Str} {v y : V} {r : List (Str × V)} (h : ¬ k' = k) : putF k y ((k', v) :: r) = (k', v) :: putF k y r := if_neg h
def poolF (tv lv : V) (sp : Int) : List (Str × V) := [("tariff", tv), ("_lanes", lv), ("_spent", .int sp)]
theorem pf_tl : ¬ ("tariff" : Str) = "_lanes" := by decide +kernel
theorem pf_ts : ¬ ("tariff" : Str) = "_spent" := by decide +kernel
theorem pf_ls : ¬ ("_lanes" : Str) = "_spent" := by decide +kernel
theorem poolF_tariff (tv lv : V) (sp : Int) : (poolF tv lv sp).lookup ("tariff" : Str) = some tv := lk_hit
theorem poolF_lanes (tv lv : V) (sp : Int) : (poolF tv lv sp).lookup ("_lanes" : Str) = some lv := (lk_miss (Ne.symm pf_tl)).trans lk_hit
theorem poolF_spent (tv lv : V) (sp : Int) : (poolF tv lv sp).lookup ("_spent" : Str) = some (.int sp) := (lk_miss (Ne.symm pf_ts)).trans ((lk_miss (Ne.symm pf_ls)).trans lk_hit)
theorem poolF_no (tv lv : V) (sp : Int) {m : Str} (h1 : ¬ m = "tariff") (h2 : ¬ m = "_lanes") (h3 : ¬ m = "_spent") : (poolF tv lv sp).lookup m = none :=
  (lk_miss h1).trans ((lk_miss h2).trans ((lk_miss h3).trans rfl))
theorem poolF_putl (tv lv x : V) (sp : Int) : putF "_lanes" x (poolF tv lv sp) = poolF tv x sp := (pf_miss pf_tl).trans (congrArg (List.cons _) pf_hit)
theorem poolF_puts (tv lv : V) (sp x : Int) : putF "_spent" (.int x) (poolF tv lv sp) = poolF tv lv x :=
  (pf_miss pf_ts).trans (congrArg (List.cons _) ((pf_miss pf_ls).trans (congrArg (List.cons _) pf_hit)))
theorem poolF_init (tv lv : V) (sp : Int) : putF "_spent" (.int sp) (putF "_lanes" lv (putF "tariff" tv [])) = poolF tv lv sp := by
  show putF "_spent" (.int sp) (putF "_lanes" lv [("tariff", tv)]) = _
  rw [pf_miss pf_tl]
  show putF "_spent" (.int sp) [("tariff", tv), ("_lanes", lv)] = _
  rw [pf_miss pf_ts, pf_miss pf_ls]
  rfl
structure PoolS where
  ls : List Lane
  spent : Int
def PoolS.new (t : Tar) : PoolS := ⟨List.replicate 40 ⟨t.off, 0, 0⟩, 0⟩
def PoolS.cost (t : Tar) (s : PoolS) (price need : Int) : Int := (movedC t s.ls price need).sum
def PoolS.step (t : Tar) (s : PoolS) (price need : Int) : PoolS := ⟨movedL t s.ls price need, s.spent + s.cost t price need⟩
def PoolS.brk (t : Tar) (s : PoolS) : PoolS := ⟨List.replicate 40 ⟨t.off, 0, 0⟩, s.spent⟩
def PoolS.states (s : PoolS) : List Int := s.ls.map fun l => (l.st : Int)
structure PoolS.Ok (t : Tar) (s : PoolS) : Prop where
  len : s.ls.length = 40
  st : ∀ l ∈ s.ls, l.st ≤ t.off
theorem PoolS.new_ok (t : Tar) : (PoolS.new t).Ok t := ⟨List.length_replicate, fun l h => by rw [List.eq_of_mem_replicate h]; exact Nat.le_refl _⟩
theorem PoolS.step_ok {t : Tar} {s : PoolS} (h : s.Ok t) (price need : Int) : (s.step t price need).Ok t := ⟨(movedL_len ..).trans h.len, movedL_ok t s.ls price need h.st⟩
theorem PoolS.brk_ok {t : Tar} {s : PoolS} : (s.brk t).Ok t := ⟨List.length_replicate, fun l h => by rw [List.eq_of_mem_replicate h]; exact Nat.le_refl _⟩
/-- spent and reserve behind such a step are within the budget -/
def PoolS.fits (t : Tar) (s : PoolS) (price budget need : Int) : Bool := decide (s.spent + s.cost t price need + reserve t (movedL t s.ls price need) ≤ budget)
def PoolS.limN (t : Tar) (s : PoolS) (price budget : Int) : Nat → Nat
  | 0 => 0
  | n + 1 => if s.fits t price budget ((n + 1 : Nat) : Int) = true then n + 1 else s.limN t price budget n
def PoolS.lim (t : Tar) (s : PoolS) (price want budget : Int) : Int := (s.limN t price budget want.toNat : Int)
theorem PoolS.limN_le (t : Tar) (s : PoolS) (price budget : Int) : ∀ n, s.limN t price budget n ≤ n
  | 0 => Nat.le_refl _
  | n + 1 => by
    unfold PoolS.limN
    have := s.limN_le t price budget n
    split <;> omega
section
variable {P : Program} {w : World} {K : PySem.W.Frag} {mg : Str → Option Value} {base : Heap} {H H1 : Hp}
/-- all but p is as it was -/
def But (p : Addr) (H H' : Hp) : Prop := ∀ b o, H b = some o → b ≠ p → H' b = some o
def PoolAt (T : Ctx K mg) (H : Hp) (p la : Addr) (t : Tar) (s : PoolS) : Prop :=
  ∃ dx tv xs, H p = some (.ins T.c_Pool dx (poolF tv (.ref la) s.spent)) ∧ TarAt K H tv t ∧ H la = some (.lst xs) ∧ DpAll K H xs (s.ls.map dLane)
theorem PoolAt.same {T : Ctx K mg} {p la : Addr} {t : Tar} {s : PoolS} (h : PoolAt T H p la t s) (e : Same H H1) : PoolAt T H1 p la t s := by
  obtain ⟨dx, tv, xs, h1, h2, h3, h4⟩ := h
  exact ⟨dx, tv, xs, e _ _ h1, h2.same e, e _ _ h3, Same_dpa e h4⟩
theorem noLs_lanes (ls : List Lane) : noLs (ls.map dLane) = true := noLs_map noL_lane ls
/-- what it leans on stands -/
theorem PoolAt.keep {T : Ctx K mg} {p la : Addr} {t : Tar} {s : PoolS} (h : PoolAt T H p la t s) (u : Tups H H1) (hp : ∀ o, H p = some o → H1 p = some o) (hl : ∀ o, H la = some o → H1 la = some o) : PoolAt T H1 p la t s := by
  obtain ⟨dx, tv, xs, h1, h2, h3, h4⟩ := h
  exact ⟨dx, tv, xs, hp _ h1, h2.tups u, hl _ h3, Tups_dpa u (noLs_lanes _) h4⟩
theorem But.ins {p : Addr} {C dx : Addr} {fs fs' : List (Str × V)} (h : H p = some (.ins C dx fs)) : But p H (upd H p (.ins C dx fs')) := fun b o e hb => by rw [upd_ne hb]; exact e
theorem But.tups {p : Addr} {o : HO} (h : H p = some o) (n : notTup o = true) (e : But p H H1) : Tups H H1 := fun b xs r => by
  have ne : b ≠ p := fun q => by
    subst q
    rcases r with r | ⟨ob, r⟩
    · rw [h] at r; cases r; cases n
    · rw [h] at r; cases r; cases n
  rcases r with r | ⟨ob, r⟩
  · exact .inl (e _ _ r ne)
  · exact .inr ⟨ob, e _ _ r ne⟩
theorem ins_not {C dx : Addr} {fs : List (Str × V)} : ∀ xs, HO.ins C dx fs ≠ .lst xs := fun xs q => by cases q
theorem dpa_map_at {α : Type} {f : α → PyData} {xs : List α} {vs : List V} {i : Nat} {v : V} (h : DpAll K H vs (xs.map f)) (e : vs[i]? = some v) : ∃ x, xs[i]? = some x ∧ Dp K H v (f x) := by
  obtain ⟨d, hd, hv⟩ := dpa_at h e
  rw [List.getElem?_map] at hd
  cases q : xs[i]? with
  | none => rw [q] at hd; cases hd
  | some x =>
    rw [q] at hd
    cases hd
    exact ⟨x, rfl, hv⟩
def resI (t : Tar) (ls : List Lane) : List Int := (ls.filter fun l => !decide (l.st = t.off)).map fun l => t.wake t.off - l.cost
theorem resI_yes {t : Tar} {ls : List Lane} {i : Nat} {l : Lane} (h : ls[i]? = some l) (n : ¬ l.st = t.off) : resI t (ls.take (i + 1)) = resI t (ls.take i) ++ [t.wake t.off - l.cost] := by
  unfold resI
  rw [take_snoc h, List.filter_append, List.filter_cons, if_pos (by rw [decide_eq_false n]; rfl), List.map_append]
  rfl
theorem resI_no {t : Tar} {ls : List Lane} {i : Nat} {l : Lane} (h : ls[i]? = some l) (n : l.st = t.off) : resI t (ls.take (i + 1)) = resI t (ls.take i) := by
  unfold resI
  rw [take_snoc h, List.filter_append, List.filter_cons, if_neg (by rw [decide_eq_true n]; decide), List.map_append]
  exact List.append_nil _
theorem resI_len (t : Tar) (ls : List Lane) (i : Nat) : (resI t (ls.take i)).length ≤ i := by
  unfold resI
  rw [List.length_map]
  have h1 := List.length_filter_le (fun l => !decide (l.st = t.off)) (ls.take i)
  rw [List.length_take] at h1
  omega
def sp_reserve_of (T : Ctx K mg) : Sp := fun vs H Q _ => ∃ v t lv ls, vs = [v, lv] ∧ TarAt K H v t ∧ t.Ok ∧ Dp K H lv (dLanes ls) ∧ ls.length ≤ 1000 ∧
  ∀ H', Same H H' → Q (.int (reserve t ls)) H'
theorem ok_reserve_of (T : Ctx K mg) : FnOk P w K mg base CX0 2 T.a_reserve_of T.fd_reserve_of ["tariff", "lanes"] (sp_reserve_of T) := by
  have G_off := ok_off (P := P) (w := w) (base := base) T
  have G_wake := ok_wake (P := P) (w := w) (base := base) T
  refine T.F_reserve_of.ok sc_reserve_of (fun vs H Q E h => ?_) (fun cdv A outer s H vs Q E hr h => ?_)
  · obtain ⟨v, t, lv, ls, rfl, hT, ok, hL, hz, k⟩ := h
    rfl
  · obtain ⟨v, t, lv, ls, rfl, hT, ok, hL, hz, k⟩ := h
    refine ⟨_, PSs.nox (pss_cons (ps_set (i := 2) sc_reserve_of.nd rfl (Or.inr rfl) (pe_call G_off (hr.mono (by decide)) rfl T.g_off T.F_off.kp T.b_off .nil pass0 (pa_cons (pv 0) pa_nil)))
    (pss_one (ps_ret (pe_callB (cr_sum rfl) (by rfl) T.n_sum (by decide +kernel) (pa_cons (pe_lc (own := [("lane", 3)]) rfl sc_reserve_of.nd (pi_list (pv 1)) (blkOk_by (N := N_reserve_of) (sc := defScope s_reserve_of) (own := [("lane", 3)]) (by decide +kernel)) (fun _ _ _ _ _ => (pg_name (i := 3) sc_reserve_of.nd rfl (Or.inl rfl))) (fun _ _ _ _ _ => pts_one (pt_cmpR op_ne (pe_ix (ix_tupK (K := K) rfl) (pv 3) pe_int (fun _ _ => rfl)) (pv 2) (nomark _))) (fun _ _ _ _ _ => (pe_op op_sub (pe_call G_wake (hr.mono (by decide)) rfl T.g_wake T.F_wake.kp T.b_wake .nil pass0 (pa_cons (pv 0) (pa_cons (pv 2) pa_nil))) (pe_ix (ix_tupK (K := K) rfl) (pv 3) pe_int (fun _ _ => rfl))))) pa_nil))))), ?_⟩
    obtain ⟨la, xs, rfl, hx, hxs⟩ := dp_lst hL
    have hlen : xs.length = ls.length := by rw [dpa_len hxs, List.length_map]
    have hw : t.off < t.wakes.length := by
      have := ok.len
      have : t.off = t.rates.length := rfl
      omega
    refine ⟨_, rfl, v, t, rfl, hT, ?_⟩
    refine ⟨_, rfl, la, rfl, ⟨xs, hx⟩, fun D nD => ?_⟩
    refine lc_list (xs := xs) (fun i H' => Same H H' ∧ H' D = some (.lst ((resI t (ls.take i)).map V.int))) ⟨Same_new nD, upd_same⟩ (fun i H' _ p => Same_l p.1 hx) ?_ ?_
    · rintro i x H' hi ⟨s, hD⟩
      obtain ⟨l, hl, hd⟩ := dpa_map_at hxs hi
      obtain ⟨a, rfl, ha⟩ := lane_inv hd
      have il : i < ls.length := (List.getElem?_eq_some_iff.mp hl).1
      refine ⟨rfl, _, rfl, _, _, _, _, rfl, rfl, Same_t s ha, rfl, _, rfl, rfl, _, rfl, ?_⟩
      by_cases e : l.st = t.off
      · rw [decide_eq_true (show V.int (l.st : Int) = V.int (t.off : Int) by rw [e])]
        show Same H H' ∧ H' D = some (.lst ((resI t (ls.take (i + 1))).map V.int))
        rw [resI_no hl e]
        exact ⟨s, hD⟩
      · rw [decide_eq_false (show ¬ V.int (l.st : Int) = V.int (t.off : Int) from fun q => e (by injection q; omega))]
        refine ⟨_, rfl, _, rfl, v, t, t.off, rfl, hT.same s, hw, _, rfl, _, _, _, _, rfl, rfl, Same_t s ha, rfl, _, _, rfl, rfl, _, hD, less_of ?_, Same_mut s nD, ?_⟩
        · rw [List.length_map]
          have := resI_len t ls i
          omega
        · rw [resI_yes hl e, List.map_append]
          exact upd_same
    · rintro H' ⟨s, hD⟩
      refine ⟨D, resI t ls, rfl, SqL.of ?_, k _ s⟩
      rw [hD, hlen, List.take_length]
theorem flat_rep (v : V) : ∀ n, (List.replicate n [v]).flatten = List.replicate n v
  | 0 => rfl
  | n + 1 => by
    rw [List.replicate_succ, List.flatten_cons, flat_rep v n]
    rfl
theorem dpa_rep {v : V} {l : Lane} : ∀ (n : Nat), Dp K H v (dLane l) → DpAll K H (List.replicate n v) ((List.replicate n l).map dLane)
  | 0, _ => .nil
  | n + 1, h => .cons h (dpa_rep n h)
def sp_Pool_init (T : Ctx K mg) : Sp := fun vs H Q _ => ∃ p dx v t, vs = [.ref p, v] ∧ H p = some (.ins T.c_Pool dx []) ∧ TarAt K H v t ∧
  ∀ H' la, PoolAt T H' p la t (PoolS.new t) → But p H H' → H la = none → Q .non H'
theorem ok_Pool_init (T : Ctx K mg) : FnOk P w K mg base CX0 2 T.a_Pool_init T.fd_Pool_init ["self", "tariff"] (sp_Pool_init T) := by
  have G_off := ok_off (P := P) (w := w) (base := base) T
  refine T.F_Pool_init.ok sc_Pool_init (fun vs H Q E h => ?_) (fun cdv A outer s H vs Q E hr h => ?_)
  · obtain ⟨p, dx, v, t, rfl, hp, hT, k⟩ := h
    rfl
  · obtain ⟨p, dx, v, t, rfl, hp, hT, k⟩ := h
    refine ⟨_, PSs.nox (pss_cons (ps_fld (pv 0) (pv 1) rfl)
    (pss_cons (ps_fld (pv 0) (pe_op op_rep (pe_lst (pa_cons (pe_tup (pa_cons (pe_call G_off (hr.mono (by decide)) rfl T.g_off T.F_off.kp T.b_off .nil pass0 (pa_cons (pv 1) pa_nil)) (pa_cons pe_int (pa_cons pe_int pa_nil)))) pa_nil)) (pe_glob (v := .int 40) rfl T.i_LANES ⟨_, rfl⟩)) rfl)
    (pss_one (ps_fld (pv 0) pe_int rfl)))), ?_⟩
    refine ⟨_, rfl, _, rfl, p, T.c_Pool, dx, [], rfl, hp, T.cl_Pool, T.n_Pool_tariff, (by show 0 < 1000; decide), ?_⟩
    have b1 : But p H (upd H p (.ins T.c_Pool dx (putF "tariff" v []))) := But.ins hp
    have u1 := But.tups hp rfl b1
    refine ⟨_, rfl, v, t, rfl, hT.tups u1, tl 3 rfl (by decide), fun q nq => ⟨tl 1 rfl (by decide), fun l nl => ?_⟩⟩
    refine ⟨l, 40, _, rfl, rfl, upd_same, by decide, by decide, by show 1 * 40 ≤ sizeLine; decide, fun m nm => ?_⟩
    have s1 : Same (upd H p (.ins T.c_Pool dx (putF "tariff" v []))) _ := (Same_new (o := .tup [.int (t.off : Int), .int 0, .int 0]) nq).trans ((Same_new (o := .lst [.ref q]) nl).trans (Same_new (o := .lst (List.replicate (40 : Int).toNat [V.ref q]).flatten) nm))
    have hp1 := s1 _ _ (upd_same (H := H) (a := p) (o := .ins T.c_Pool dx (putF "tariff" v [])))
    refine ⟨_, rfl, p, T.c_Pool, dx, _, rfl, hp1, T.cl_Pool, T.n_Pool__lanes, (by show 1 < 1000; decide), ?_⟩
    refine ⟨_, rfl, p, T.c_Pool, dx, _, rfl, upd_same, T.cl_Pool, T.n_Pool__spent, ?_, ?_⟩
    · have e : putF "_lanes" (V.ref m) (putF "tariff" v []) = [(("tariff" : Str), v), ("_lanes", .ref m)] := by
        show putF "_lanes" (V.ref m) [(("tariff" : Str), v)] = _
        rw [pf_miss pf_tl]
        rfl
      rw [e]
      show 2 < 1000
      decide
    · rw [poolF_init]
      have nm0 : H m = none := by
        cases hh : H m with
        | none => rfl
        | some o =>
          by_cases hb : m = p
          · rw [hb, (Same_new (o := .lst [.ref q]) nl) _ _ ((Same_new (o := .tup [.int (t.off : Int), .int 0, .int 0]) nq) _ _ upd_same)] at nm
            cases nm
          · rw [(Same_new (o := .lst [.ref q]) nl) _ _ ((Same_new (o := .tup [.int (t.off : Int), .int 0, .int 0]) nq) _ _ (b1 _ _ hh hb))] at nm
            cases nm
      have hl := lane_of (K := K) (l := ⟨t.off, 0, 0⟩) (Same_t ((Same_new (o := .lst [.ref q]) nl).trans (Same_new (o := .lst (List.replicate (40 : Int).toNat [V.ref q]).flatten) nm)) (SqT.of upd_same))
      have hT1 := (hT.tups u1).same s1
      have hp2 := upd_same (H := (upd (upd (upd (upd H p (.ins T.c_Pool dx (putF "tariff" v []))) q (.tup [.int (t.off : Int), .int 0, .int 0])) l (.lst [.ref q])) m (.lst (List.replicate (40 : Int).toNat [V.ref q]).flatten))) (a := p) (o := .ins T.c_Pool dx (putF "_lanes" (V.ref m) (putF "tariff" v [])))
      have b2 := But.ins (fs' := putF "_lanes" (V.ref m) (putF "tariff" v [])) hp1
      have b3 := But.ins (fs' := poolF v (.ref m) 0) hp2
      have u3 := (But.tups hp1 rfl b2).trans (But.tups hp2 rfl b3)
      have nmp : m ≠ p := (ne_of_none ((Same_new (o := .lst [.ref q]) nl) _ _ ((Same_new (o := .tup [.int (t.off : Int), .int 0, .int 0]) nq) _ _ upd_same)) nm).symm
      refine k _ m ⟨dx, v, (List.replicate (40 : Int).toNat [V.ref q]).flatten, upd_same, hT1.tups u3, ?_, ?_⟩ (fun b o e hb => ?_) nm0
      · rw [upd_ne nmp, upd_ne nmp]
        exact upd_same
      · rw [flat_rep]
        exact Tups_dpa u3 (noLs_lanes _) (dpa_rep 40 hl)
      · rw [upd_ne hb, upd_ne hb]
        exact s1 _ _ (by rw [upd_ne hb]; exact e)
def sp_Pool_states (T : Ctx K mg) : Sp := fun vs H Q _ => ∃ p la t s, vs = [.ref p] ∧ PoolAt T H p la t s ∧ s.ls.length ≤ 1000 ∧
  ∀ H' q, Same H H' → SqT K H' q (s.states.map V.int) → Q (.ref q) H'
theorem ok_Pool_states (T : Ctx K mg) : FnOk P w K mg base CX0 1 T.a_Pool_states T.fd_Pool_states ["self"] (sp_Pool_states T) := by
  refine T.F_Pool_states.ok sc_Pool_states (fun vs H Q E h => ?_) (fun cdv A outer s H vs Q E hr h => ?_)
  · obtain ⟨p, la, t, s, rfl, hP, hz, k⟩ := h
    rfl
  · obtain ⟨p, la, t, s, rfl, hP, hz, k⟩ := h
    refine ⟨_, PSs.nox (pss_one (ps_ret (pe_callTy call_tuple_of (by rfl) T.n_tuple (by decide +kernel) (pa_cons (pe_lc (own := [("lane", 1)]) rfl sc_Pool_states.nd (pi_list (pe_fld (pv 0) rfl)) (blkOk_by (N := N_Pool_states) (sc := defScope s_Pool_states) (own := [("lane", 1)]) (by decide +kernel)) (fun _ _ _ _ _ => (pg_name (i := 1) sc_Pool_states.nd rfl (Or.inl rfl))) (fun _ _ _ _ _ => pts_nil) (fun _ _ _ _ _ => (pe_ix (ix_tupK (K := K) rfl) (pv 1) pe_int (fun _ _ => rfl)))) pa_nil)))), ?_⟩
    obtain ⟨dx, tv, xs, hp, hT, hx0, hxs⟩ := hP
    have hx := SqL.of (K := K) hx0
    have hlen : xs.length = s.ls.length := by rw [dpa_len hxs, List.length_map]
    refine ⟨_, rfl, p, T.c_Pool, dx, _, _, rfl, hp, T.cl_Pool, T.n_Pool__lanes, poolF_lanes _ _ _, la, rfl, ⟨xs, hx⟩, fun D nD => ?_⟩
    refine lc_list (xs := xs) (fun i H' => Same H H' ∧ H' D = some (.lst ((s.states.take i).map V.int))) ⟨Same_new nD, upd_same⟩ (fun i H' _ p => Same_l p.1 hx) ?_ ?_
    · rintro i x H' hi ⟨e, hD⟩
      obtain ⟨l, hl, hd⟩ := dpa_map_at hxs hi
      obtain ⟨a, rfl, ha⟩ := lane_inv hd
      have il : i < s.ls.length := (List.getElem?_eq_some_iff.mp hl).1
      refine ⟨rfl, _, rfl, _, _, _, _, rfl, rfl, Same_t e ha, rfl, _, hD, less_of ?_, Same_mut e nD, ?_⟩
      · rw [List.length_map, List.length_take]
        omega
      · have e1 : s.states[i]? = some (l.st : Int) := by
          unfold PoolS.states
          rw [List.getElem?_map, hl]
          rfl
        rw [take_snoc e1, List.map_append]
        exact upd_same
    · rintro H' ⟨e, hD⟩
      have e1 : s.states.take xs.length = s.states := List.take_of_length_le (by unfold PoolS.states; rw [List.length_map, hlen]; exact Nat.le_refl _)
      rw [e1] at hD
      exact ⟨D, _, rfl, .inl ⟨SqL.of hD, fun l nl => k _ l (e.trans (Same_new nl)) (SqT.of upd_same)⟩⟩
def sp_Pool_step (T : Ctx K mg) : Sp := fun vs H Q _ => ∃ p la t s, ∃ price need : Int, vs = [.ref p, .int price, .int need] ∧ PoolAt T H p la t s ∧ t.Ok ∧ s.Ok t ∧
  ∀ H' r q la', PoolAt T H' p la' t (s.step t price need) → But p H H' → H la' = none → H r = none → SqT K H' r [.ref q, .int (s.cost t price need)] → SqT K H' q ((s.step t price need).states.map V.int) → Q (.ref r) H'
theorem ok_Pool_step (T : Ctx K mg) : FnOk P w K mg base CX0 7 T.a_Pool_step T.fd_Pool_step ["self", "price", "need"] (sp_Pool_step T) := by
  have G_moved_lanes := ok_moved_lanes (P := P) (w := w) (base := base) T
  have G_Pool_states := ok_Pool_states (P := P) (w := w) (base := base) T
  refine T.F_Pool_step.ok sc_Pool_step (fun vs H Q E h => ?_) (fun cdv A outer s H vs Q E hr h => ?_)
  · obtain ⟨p, la, t, s, price, need, rfl, hP, ok, so, k⟩ := h
    rfl
  · obtain ⟨p, la, t, s, price, need, rfl, hP, ok, so, k⟩ := h
    refine ⟨_, PSs.nox (pss_cons (ps_asg (pe_call G_moved_lanes (hr.mono (by decide)) rfl T.g_moved_lanes T.F_moved_lanes.kp T.b_moved_lanes .nil pass0 (pa_cons (pe_fld (pv 0) rfl) (pa_cons (pe_fld (pv 0) rfl) (pa_cons (pv 1) (pa_cons (pv 2) pa_nil))))) (pg_tup rfl (pgs_cons (pg_fld (pv 0)) (pgs_cons (pg_name (i := 3) sc_Pool_step.nd rfl (Or.inl rfl)) pgs_nil))))
    (pss_cons (ps_fldaug (pv 0) (pv 3) in_add)
    (pss_one (ps_ret (pe_tup (pa_cons (pe_meth0 (pv 0) T.cl_Pool T.m_Pool_states G_Pool_states (hr.mono (by decide)) T.b_Pool_states .nil pass0) (pa_cons (pv 3) pa_nil))))))), ?_⟩
    obtain ⟨dx, tv, xs, hp, hT, hx, hxs⟩ := hP
    refine ⟨_, rfl, p, T.c_Pool, dx, _, _, rfl, hp, T.cl_Pool, T.n_Pool_tariff, poolF_tariff _ _ _, _, rfl, p, T.c_Pool, dx, _, _, rfl, hp, T.cl_Pool, T.n_Pool__lanes, poolF_lanes _ _ _, _, rfl, _, rfl, ?_⟩
    refine ⟨tv, t, .ref la, s.ls, price, need, rfl, hT, ok, .lst (SqL.of hx) hxs, by have := so.len; omega, so.st, fun H1 a b ys e1 ha nb hb hys => ?_⟩
    have hp1 := e1 _ _ hp
    refine ⟨_, _, rfl, ha, rfl, _, _, rfl, _, rfl, p, T.c_Pool, dx, _, rfl, hp1, T.cl_Pool, T.n_Pool__lanes, (by show 3 < 1000; decide), _, _, rfl, rfl, ?_⟩
    rw [poolF_putl]
    refine ⟨_, rfl, p, T.c_Pool, dx, _, _, rfl, upd_same, T.cl_Pool, T.n_Pool__spent, poolF_spent _ _ _, _, rfl, _, _, rfl, rfl, dx, _, upd_same, (by show 3 < 1000; decide), ?_⟩
    rw [poolF_puts, upd_upd]
    have b1 := But.ins (fs' := poolF tv (.ref b) (s.spent + (movedC t s.ls price need).sum)) hp1
    have u1 := But.tups hp1 rfl b1
    have nbp : b ≠ p := (ne_of_none hp nb).symm
    have P1 : PoolAt T (upd H1 p (.ins T.c_Pool dx (poolF tv (.ref b) (s.spent + (movedC t s.ls price need).sum)))) p b t (s.step t price need) :=
      ⟨dx, tv, ys, upd_same, (hT.same e1).tups u1, by rw [upd_ne nbp]; exact hb, Tups_dpa u1 (noLs_lanes _) hys⟩
    refine ⟨_, rfl, p, dx, _, rfl, upd_same, poolF_no _ _ _ (by decide +kernel) (by decide +kernel) (by decide +kernel), p, b, t, s.step t price need, rfl, P1, by have := (PoolS.step_ok so price need).len; omega, fun H2 q e2 hq => ?_⟩
    refine ⟨_, rfl, tl 2 rfl (by decide), fun r nr => ?_⟩
    have e3 := Same_new (o := .tup [.ref q, .int (movedC t s.ls price need).sum]) nr
    have nr0 : H r = none := by
      cases hh : H r with
      | none => rfl
      | some o =>
        by_cases hb : r = p
        · rw [hb, e2 _ _ upd_same] at nr
          cases nr
        · rw [e2 r o (by rw [upd_ne hb]; exact e1 _ _ hh)] at nr
          cases nr
    refine k _ r q b (P1.same (e2.trans e3)) (fun c o hc hb => e3 _ _ (e2 _ _ (by rw [upd_ne hb]; exact e1 _ _ hc))) nb nr0 (SqT.of upd_same) (Same_t e3 hq)
def sp_Pool_after (T : Ctx K mg) : Sp := fun vs H Q _ => ∃ p la t s, ∃ price need : Int, vs = [.ref p, .int price, .int need] ∧ PoolAt T H p la t s ∧ t.Ok ∧ s.Ok t ∧
  ∀ H' r, Same H H' → SqT K H' r [.int (s.spent + s.cost t price need), .int (reserve t (movedL t s.ls price need))] → Q (.ref r) H'
theorem ok_Pool_after (T : Ctx K mg) : FnOk P w K mg base CX0 7 T.a_Pool_after T.fd_Pool_after ["self", "price", "need"] (sp_Pool_after T) := by
  have G_moved_lanes := ok_moved_lanes (P := P) (w := w) (base := base) T
  have G_reserve_of := ok_reserve_of (P := P) (w := w) (base := base) T
  refine T.F_Pool_after.ok sc_Pool_after (fun vs H Q E h => ?_) (fun cdv A outer s H vs Q E hr h => ?_)
  · obtain ⟨p, la, t, s, price, need, rfl, hP, ok, so, k⟩ := h
    rfl
  · obtain ⟨p, la, t, s, price, need, rfl, hP, ok, so, k⟩ := h
    refine ⟨_, PSs.nox (pss_cons (ps_asg (pe_call G_moved_lanes (hr.mono (by decide)) rfl T.g_moved_lanes T.F_moved_lanes.kp T.b_moved_lanes .nil pass0 (pa_cons (pe_fld (pv 0) rfl) (pa_cons (pe_fld (pv 0) rfl) (pa_cons (pv 1) (pa_cons (pv 2) pa_nil))))) (pg_tup rfl (pgs_cons (pg_name (i := 3) sc_Pool_after.nd rfl (Or.inl rfl)) (pgs_cons (pg_name (i := 4) sc_Pool_after.nd rfl (Or.inl rfl)) pgs_nil))))
    (pss_one (ps_ret (pe_tup (pa_cons (pe_op op_add (pe_fld (pv 0) rfl) (pv 4)) (pa_cons (pe_call G_reserve_of (hr.mono (by decide)) rfl T.g_reserve_of T.F_reserve_of.kp T.b_reserve_of .nil pass0 (pa_cons (pe_fld (pv 0) rfl) (pa_cons (pv 3) pa_nil))) pa_nil)))))), ?_⟩
    obtain ⟨dx, tv, xs, hp, hT, hx, hxs⟩ := hP
    refine ⟨_, rfl, p, T.c_Pool, dx, _, _, rfl, hp, T.cl_Pool, T.n_Pool_tariff, poolF_tariff _ _ _, _, rfl, p, T.c_Pool, dx, _, _, rfl, hp, T.cl_Pool, T.n_Pool__lanes, poolF_lanes _ _ _, _, rfl, _, rfl, ?_⟩
    refine ⟨tv, t, .ref la, s.ls, price, need, rfl, hT, ok, .lst (SqL.of hx) hxs, by have := so.len; omega, so.st, fun H1 a b ys e1 ha nb hb hys => ?_⟩
    refine ⟨_, _, rfl, ha, rfl, _, _, rfl, _, _, rfl, rfl, ?_⟩
    refine ⟨_, rfl, p, T.c_Pool, dx, _, _, rfl, e1 _ _ hp, T.cl_Pool, T.n_Pool__spent, poolF_spent _ _ _, _, rfl, _, _, rfl, rfl, _, rfl, p, T.c_Pool, dx, _, _, rfl, e1 _ _ hp, T.cl_Pool, T.n_Pool_tariff, poolF_tariff _ _ _, _, rfl, ?_⟩
    refine ⟨tv, t, _, movedL t s.ls price need, rfl, hT.same e1, ok, .lst (SqL.of hb) hys, by rw [movedL_len]; have := so.len; omega, fun H2 e2 => ⟨tl 2 rfl (by decide), fun r nr => ?_⟩⟩
    exact k _ r ((e1.trans e2).trans (Same_new nr)) (SqT.of upd_same)
def sp_Pool_end_break (T : Ctx K mg) : Sp := fun vs H Q _ => ∃ p la t s, vs = [.ref p] ∧ PoolAt T H p la t s ∧
  ∀ H' la', PoolAt T H' p la' t (s.brk t) → But p H H' → H la' = none → Q .non H'
theorem ok_Pool_end_break (T : Ctx K mg) : FnOk P w K mg base CX0 2 T.a_Pool_end_break T.fd_Pool_end_break ["self"] (sp_Pool_end_break T) := by
  have G_off := ok_off (P := P) (w := w) (base := base) T
  refine T.F_Pool_end_break.ok sc_Pool_end_break (fun vs H Q E h => ?_) (fun cdv A outer s H vs Q E hr h => ?_)
  · obtain ⟨p, la, t, s, rfl, hP, k⟩ := h
    rfl
  · obtain ⟨p, la, t, s, rfl, hP, k⟩ := h
    refine ⟨_, PSs.nox (pss_one (ps_fld (pv 0) (pe_op op_rep (pe_lst (pa_cons (pe_tup (pa_cons (pe_call G_off (hr.mono (by decide)) rfl T.g_off T.F_off.kp T.b_off .nil pass0 (pa_cons (pe_fld (pv 0) rfl) pa_nil)) (pa_cons pe_int (pa_cons pe_int pa_nil)))) pa_nil)) (pe_glob (v := .int 40) rfl T.i_LANES ⟨_, rfl⟩)) rfl)), ?_⟩
    obtain ⟨dx, tv, xs, hp, hT, hx, hxs⟩ := hP
    refine ⟨_, rfl, p, T.c_Pool, dx, _, _, rfl, hp, T.cl_Pool, T.n_Pool_tariff, poolF_tariff _ _ _, tv, t, rfl, hT, tl 3 rfl (by decide), fun q nq => ⟨tl 1 rfl (by decide), fun l nl => ?_⟩⟩
    refine ⟨l, 40, _, rfl, rfl, upd_same, by decide, by decide, by show 1 * 40 ≤ sizeLine; decide, fun m nm => ?_⟩
    have s1 : Same H _ := (Same_new (o := .tup [.int (t.off : Int), .int 0, .int 0]) nq).trans ((Same_new (o := .lst [.ref q]) nl).trans (Same_new (o := .lst (List.replicate (40 : Int).toNat [V.ref q]).flatten) nm))
    have nm0 : H m = none := ((Same_new (o := .tup [.int (t.off : Int), .int 0, .int 0]) nq).trans (Same_new (o := .lst [.ref q]) nl)).free nm
    have hp1 := s1 _ _ hp
    refine ⟨_, rfl, p, T.c_Pool, dx, _, rfl, hp1, T.cl_Pool, T.n_Pool__lanes, (by show 3 < 1000; decide), ?_⟩
    rw [poolF_putl]
    have hl := lane_of (K := K) (l := ⟨t.off, 0, 0⟩) (Same_t ((Same_new (o := .lst [.ref q]) nl).trans (Same_new (o := .lst (List.replicate (40 : Int).toNat [V.ref q]).flatten) nm)) (SqT.of upd_same))
    have b1 := But.ins (fs' := poolF tv (.ref m) s.spent) hp1
    have u1 := But.tups hp1 rfl b1
    refine k _ m ⟨dx, tv, _, upd_same, (hT.same s1).tups u1, by rw [upd_ne (ne_of_none hp nm0).symm]; exact upd_same, ?_⟩ (fun b o e hb => by rw [upd_ne hb]; exact s1 _ _ e) nm0
    rw [flat_rep]
    exact Tups_dpa u1 (noLs_lanes _) (dpa_rep 40 hl)
def sp_limit (T : Ctx K mg) : Sp := fun vs H Q _ => ∃ p la t s, ∃ price want budget : Int, vs = [.ref p, .int price, .int want, .int budget] ∧ PoolAt T H p la t s ∧ t.Ok ∧ s.Ok t ∧ -1000 ≤ want ∧ want ≤ 1000 ∧
  ∀ H', Same H H' → Q (.int (s.lim t price want budget)) H'
theorem ok_limit (T : Ctx K mg) : FnOk P w K mg base CX0 8 T.a_limit T.fd_limit ["pool", "price", "want", "budget"] (sp_limit T) := by
  have G_Pool_after := ok_Pool_after (P := P) (w := w) (base := base) T
  refine T.F_limit.ok sc_limit (fun vs H Q E h => ?_) (fun cdv A outer s H vs Q E hr h => ?_)
  · obtain ⟨p, la, t, s, price, want, budget, rfl, hP, ok, so, w0, w1, k⟩ := h
    rfl
  · obtain ⟨p, la, t, s, price, want, budget, rfl, hP, ok, so, w0, w1, k⟩ := h
    refine ⟨_, PSs.nox (pss_cons (ps_for PassesOwn.never rfl (pi_range3 rfl T.n_range (pa_cons (pv 2) (pa_cons pe_int (pa_cons (pe_un un_neg pe_int) pa_nil)))) (pg_name (i := 4) sc_limit.nd rfl (Or.inl rfl))
      (pss_cons (ps_asg (pe_meth (pv 0) T.cl_Pool T.m_Pool_after G_Pool_after (hr.mono (by decide)) T.b_Pool_after .nil pass0 (pa_cons (pv 1) (pa_cons (pv 4) pa_nil))) (pg_tup rfl (pgs_cons (pg_name (i := 5) sc_limit.nd rfl (Or.inl rfl)) (pgs_cons (pg_name (i := 6) sc_limit.nd rfl (Or.inl rfl)) pgs_nil))))
      (pss_one (ps_if (pt_cmpR op_le (pe_op op_add (pv 5) (pv 6)) (pv 3) (nomark _))
        (pss_one (ps_ret (pv 4)))
        pss_nil))))
    (pss_one (ps_ret pe_int))), ?_⟩
    refine ⟨_, rfl, _, rfl, _, _, _, want.toNat, rfl, ?_, for_rangeC (lo := want) (c := -1) (n := want.toNat) (fun i σ H' => ∃ x4 x5 x6 : Option V, σ = [some (.ref p), some (.int price), some (.int want), some (.int budget), x4, x5, x6] ∧ Same H H' ∧
      s.limN t price budget want.toNat = s.limN t price budget (want.toNat - i)) ⟨none, none, none, rfl, Same.refl H, rfl⟩ ?_ ?_⟩
    · have h := RgC.neg (i := want) (j := 0) (by omega) (by omega) (by omega) (by omega)
      rw [Int.sub_zero] at h
      exact h
    · rintro i σ H1 hi ⟨x4, x5, x6, rfl, s1, hl⟩
      obtain ⟨dx, tv, xs, hp, hT, hx, hxs⟩ := id (hP.same s1)
      refine ⟨_, rfl, p, dx, _, rfl, hp, poolF_no _ _ _ (by decide +kernel) (by decide +kernel) (by decide +kernel), _, rfl, _, rfl, p, la, t, s, price, _, rfl, hP.same s1, ok, so, fun H2 r s2 hr => ?_⟩
      refine ⟨_, _, rfl, hr, rfl, _, _, rfl, _, _, rfl, rfl, ?_⟩
      refine ⟨_, rfl, _, rfl, _, _, rfl, rfl, _, rfl, _, _, rfl, rfl, _, rfl, ?_⟩
      have en : want + (i : Int) * (-1) = (((want.toNat - (i + 1)) + 1 : Nat) : Int) := by omega
      have em : want.toNat - i = (want.toNat - (i + 1)) + 1 := by omega
      have un : s.limN t price budget (want.toNat - i) = if s.fits t price budget (want + (i : Int) * (-1)) = true then (want.toNat - (i + 1)) + 1 else s.limN t price budget (want.toNat - (i + 1)) := by
        rw [em, en]
        rfl
      refine ite2 (fun h => ?_) (fun h => ?_)
      · rw [if_pos (show s.fits t price budget (want + (i : Int) * (-1)) = true from h)] at un
        refine ⟨_, rfl, ?_⟩
        have e : (want + (i : Int) * (-1)) = s.lim t price want budget := by
          unfold PoolS.lim
          rw [hl, un, en]
        show Q (.int (want + (i : Int) * (-1))) _
        rw [e]
        exact k _ (s1.trans s2)
      · rw [if_neg (show ¬ s.fits t price budget (want + (i : Int) * (-1)) = true from h)] at un
        exact ⟨_, _, _, rfl, s1.trans s2, hl.trans un⟩
    · rintro σ H1 ⟨x4, x5, x6, rfl, s1, hl⟩
      have e : s.lim t price want budget = 0 := by
        unfold PoolS.lim
        rw [hl, Nat.sub_self]
        rfl
      rw [e] at k
      exact k _ s1
end
end K65
set_option Elab.async false
set_option linter.all false
set_option maxRecDepth 100000
set_option maxHeartbeats 4000000
namespace K65
open PySem L2
abbrev QRow := Int × Int
def dQ (r : QRow) : PyData := .tuple [.int r.1, .int r.2]
/-- min of Python -/
def minP (i j : Int) : Int := if j < i then j else i
def dueS (lag now : Int) (rows : List QRow) : Int := ((rows.filter fun r => decide (r.1 + lag ≤ now)).map fun r => r.2).sum
def dueQ (lag now came : Int) (rows : List QRow) : Int := (if lag = 0 then came else 0) + dueS lag now rows
def takeQ : Int → List QRow → List QRow
  | _, [] => []
  | m, (a, c) :: r => if minP m c < c then (a, c - minP m c) :: takeQ (m - minP m c) r else takeQ (m - minP m c) r
def dropQ (pat now : Int) (rows : List QRow) : List QRow := rows.filter fun r => !decide (r.1 + pat ≤ now)
def dropN (pat now : Int) (rows : List QRow) : Int := ((rows.filter fun r => decide (r.1 + pat ≤ now)).map fun r => r.2).sum
def comeQ (now came : Int) (rows : List QRow) : List QRow := if 0 < came then rows ++ [(now, came)] else rows
structure QS where
  rows : List QRow
  now : Int
def QS.due (lag : Int) (s : QS) (came : Int) : Int := dueQ lag s.now came s.rows
def QS.run (lag : Int) (s : QS) (came places : Int) : Int := minP (s.due lag came) places
def QS.left (lag : Int) (s : QS) (came places : Int) : List QRow := takeQ (s.run lag came places) (comeQ s.now came s.rows)
def QS.step (lag pat : Int) (s : QS) (came places : Int) : QS := ⟨dropQ pat s.now (s.left lag came places), s.now + 1⟩
def QS.dropped (lag pat : Int) (s : QS) (came places : Int) : Int := dropN pat s.now (s.left lag came places)
theorem takeQ_len : ∀ (m : Int) (rows : List QRow), (takeQ m rows).length ≤ rows.length
  | _, [] => Nat.le_refl _
  | m, (a, c) :: r => by
    unfold takeQ
    have := takeQ_len (m - minP m c) r
    split
    · show _ + 1 ≤ _ + 1
      omega
    · show _ ≤ _ + 1
      omega
theorem comeQ_len (now came : Int) (rows : List QRow) : (comeQ now came rows).length ≤ rows.length + 1 := by
  unfold comeQ
  split
  · simp
  · omega
theorem QS.step_len (lag pat : Int) (s : QS) (came places : Int) : (s.step lag pat came places).rows.length ≤ s.rows.length + 1 := by
  have h1 : (s.step lag pat came places).rows.length ≤ (s.left lag came places).length := List.length_filter_le _ _
  have h2 : (s.left lag came places).length ≤ (comeQ s.now came s.rows).length := takeQ_len _ _
  have h3 := comeQ_len s.now came s.rows
  omega
def queueF (lag pat : Int) (l : V) (now : Int) : List (Str × V) := [("lag", .int lag), ("patience", .int pat), ("waiting", l), ("coming", .int now)]
theorem q_lp : ¬ ("lag" : Str) = "patience" := by decide +kernel
theorem q_lw : ¬ ("lag" : Str) = "waiting" := by decide +kernel
theorem q_lc : ¬ ("lag" : Str) = "coming" := by decide +kernel
theorem q_pw : ¬ ("patience" : Str) = "waiting" := by decide +kernel
theorem q_pc : ¬ ("patience" : Str) = "coming" := by decide +kernel
theorem q_wc : ¬ ("waiting" : Str) = "coming" := by decide +kernel
section
variable (lag pat now : Int) (l : V)
theorem queueF_lag : (queueF lag pat l now).lookup ("lag" : Str) = some (.int lag) := lk_hit
theorem queueF_pat : (queueF lag pat l now).lookup ("patience" : Str) = some (.int pat) := (lk_miss (Ne.symm q_lp)).trans lk_hit
theorem queueF_wait : (queueF lag pat l now).lookup ("waiting" : Str) = some l := (lk_miss (Ne.symm q_lw)).trans ((lk_miss (Ne.symm q_pw)).trans lk_hit)
theorem queueF_now : (queueF lag pat l now).lookup ("coming" : Str) = some (.int now) := (lk_miss (Ne.symm q_lc)).trans ((lk_miss (Ne.symm q_pc)).trans ((lk_miss (Ne.symm q_wc)).trans lk_hit))
theorem queueF_no {m : Str} (h1 : ¬ m = "lag") (h2 : ¬ m = "patience") (h3 : ¬ m = "waiting") (h4 : ¬ m = "coming") : (queueF lag pat l now).lookup m = none :=
  (lk_miss h1).trans ((lk_miss h2).trans ((lk_miss h3).trans ((lk_miss h4).trans rfl)))
theorem queueF_putw (x : V) : putF "waiting" x (queueF lag pat l now) = queueF lag pat x now := (pf_miss q_lw).trans (congrArg (List.cons _) ((pf_miss q_pw).trans (congrArg (List.cons _) pf_hit)))
theorem queueF_putn (x : Int) : putF "coming" (.int x) (queueF lag pat l now) = queueF lag pat l x :=
  (pf_miss q_lc).trans (congrArg (List.cons _) ((pf_miss q_pc).trans (congrArg (List.cons _) ((pf_miss q_wc).trans (congrArg (List.cons _) pf_hit)))))
theorem queueF_1 : putF "patience" (.int pat) (putF "lag" (.int lag) []) = [(("lag" : Str), V.int lag), ("patience", .int pat)] := pf_miss q_lp
theorem queueF_2 : putF "waiting" l [(("lag" : Str), V.int lag), ("patience", .int pat)] = [(("lag" : Str), V.int lag), ("patience", .int pat), ("waiting", l)] := (pf_miss q_lw).trans (congrArg (List.cons _) (pf_miss q_pw))
theorem queueF_3 : putF "coming" (.int now) [(("lag" : Str), V.int lag), ("patience", .int pat), ("waiting", l)] = queueF lag pat l now :=
  (pf_miss q_lc).trans (congrArg (List.cons _) ((pf_miss q_pc).trans (congrArg (List.cons _) (pf_miss q_wc))))
end
section
variable {P : Program} {w : World} {K : PySem.W.Frag} {mg : Str → Option Value} {base : Heap} {H H1 : Hp}
theorem noL_q (r : QRow) : noL (dQ r) = true := rfl
theorem q_inv {r : QRow} {v : V} (h : Dp K H v (dQ r)) : ∃ a, v = .ref a ∧ SqT K H a [.int r.1, .int r.2] := by
  obtain ⟨a, vs, rfl, hs, ha⟩ := dp_tup h
  obtain ⟨x0, _, rfl, h0, ha⟩ := dpa_cons ha
  obtain ⟨x1, _, rfl, h1, ha⟩ := dpa_cons ha
  cases dpa_nil ha
  rw [dp_int h0, dp_int h1] at hs
  exact ⟨a, rfl, hs⟩
theorem q_of {r : QRow} {a : Addr} (h : SqT K H a [.int r.1, .int r.2]) : Dp K H (.ref a) (dQ r) := .tup h (.cons (.int _) (.cons (.int _) .nil))
def QueueAt (T : Ctx K mg) (H : Hp) (q l : Addr) (lag pat : Int) (s : QS) : Prop :=
  ∃ dx vs, H q = some (.ins T.c_Queue dx (queueF lag pat (.ref l) s.now)) ∧ H l = some (.lst vs) ∧ DpAll K H vs (s.rows.map dQ)
theorem QueueAt.same {T : Ctx K mg} {q l : Addr} {lag pat : Int} {s : QS} (h : QueueAt T H q l lag pat s) (e : Same H H1) : QueueAt T H1 q l lag pat s := by
  obtain ⟨dx, vs, h1, h2, h3⟩ := h
  exact ⟨dx, vs, e _ _ h1, e _ _ h2, Same_dpa e h3⟩
/-- all but q and l is as it was -/
def But2 (q l : Addr) (H H' : Hp) : Prop := ∀ b o, H b = some o → b ≠ q → b ≠ l → H' b = some o
theorem But2.tups {q l : Addr} {o o' : HO} (h : H q = some o) (h' : H l = some o') (n : notTup o = true) (n' : notTup o' = true) (e : But2 q l H H1) : Tups H H1 := fun b xs r => by
  have ne : b ≠ q := fun z => by
    subst z
    rcases r with r | ⟨ob, r⟩
    · rw [h] at r; cases r; cases n
    · rw [h] at r; cases r; cases n
  have ne' : b ≠ l := fun z => by
    subst z
    rcases r with r | ⟨ob, r⟩
    · rw [h'] at r; cases r; cases n'
    · rw [h'] at r; cases r; cases n'
  rcases r with r | ⟨ob, r⟩
  · exact .inl (e _ _ r ne ne')
  · exact .inr ⟨ob, e _ _ r ne ne'⟩
theorem QueueAt.two {T : Ctx K mg} {q l : Addr} {lag pat : Int} {s : QS} (h : QueueAt T H q l lag pat s) (e : But2 q l H H1) : Tups H H1 := by
  obtain ⟨dx, vs, h1, h2, h3⟩ := h
  exact But2.tups h1 h2 rfl rfl e
/-- what was there is there -/
def Alive (H H' : Hp) : Prop := ∀ b, H' b = none → H b = none
theorem Alive.trans {H2 : Hp} (a : Alive H H1) (b : Alive H1 H2) : Alive H H2 := fun c n => a c (b c n)
theorem Alive.of1 {p : Addr} {o : HO} (b : But p H H1) (hp : H1 p = some o) : Alive H H1 := fun x n => by
  cases hh : H x with
  | none => rfl
  | some u =>
    have a1 : x ≠ p := fun e => by rw [e, hp] at n; cases n
    rw [b _ _ hh a1] at n
    cases n
theorem Alive.of2 {q l : Addr} {o o' : HO} (b : But2 q l H H1) (hq : H1 q = some o) (hl : H1 l = some o') : Alive H H1 := fun x n => by
  cases hh : H x with
  | none => rfl
  | some u =>
    have a1 : x ≠ q := fun e => by rw [e, hq] at n; cases n
    have a2 : x ≠ l := fun e => by rw [e, hl] at n; cases n
    rw [b _ _ hh a1 a2] at n
    cases n
theorem Same_alive (e : Same H H1) : Alive H H1 := fun _ n => e.free n
def sp_Queue_init (T : Ctx K mg) : Sp := fun vs H Q _ => ∃ p dx, ∃ lag pat : Int, vs = [.ref p, .int lag, .int pat] ∧ H p = some (.ins T.c_Queue dx []) ∧
  ∀ H' l, QueueAt T H' p l lag pat ⟨[], 0⟩ → But p H H' → H l = none → Q .non H'
theorem ok_Queue_init (T : Ctx K mg) : FnOk P w K mg base CX0 1 T.a_Queue_init T.fd_Queue_init ["self", "lag", "patience"] (sp_Queue_init T) := by
  refine T.F_Queue_init.ok sc_Queue_init (fun vs H Q E h => ?_) (fun cdv A outer s H vs Q E hr h => ?_)
  · obtain ⟨p, dx, lag, pat, rfl, hp, k⟩ := h
    rfl
  · obtain ⟨p, dx, lag, pat, rfl, hp, k⟩ := h
    refine ⟨_, PSs.nox (pss_cons (ps_fld (pv 0) (pv 1) rfl)
    (pss_cons (ps_fld (pv 0) (pv 2) rfl)
    (pss_cons (ps_fld (pv 0) (pe_lst pa_nil) rfl)
    (pss_one (ps_fld (pv 0) pe_int rfl))))), ?_⟩
    refine ⟨_, rfl, _, rfl, p, T.c_Queue, dx, [], rfl, hp, T.cl_Queue, T.n_Queue_lag, (by show 0 < 1000; decide), ?_⟩
    refine ⟨_, rfl, _, rfl, p, T.c_Queue, dx, _, rfl, upd_same, T.cl_Queue, T.n_Queue_patience, (by show 1 < 1000; decide), ?_⟩
    rw [upd_upd, queueF_1]
    refine ⟨tl 0 rfl (by decide), fun l nl => ?_⟩
    have np : p ≠ l := ne_of_none upd_same nl
    have nl0 : H l = none := by rw [upd_ne np.symm] at nl; exact nl
    refine ⟨_, rfl, p, T.c_Queue, dx, _, rfl, by rw [upd_ne np]; exact upd_same, T.cl_Queue, T.n_Queue_waiting, (by show 2 < 1000; decide), ?_⟩
    rw [queueF_2]
    refine ⟨_, rfl, p, T.c_Queue, dx, _, rfl, upd_same, T.cl_Queue, T.n_Queue_coming, (by show 3 < 1000; decide), ?_⟩
    rw [queueF_3, upd_upd]
    refine k _ l ⟨dx, [], upd_same, by rw [upd_ne np.symm]; exact upd_same, .nil⟩ (fun b o e hb => ?_) nl0
    rw [upd_ne hb, upd_ne (ne_of_none e nl0), upd_ne hb]
    exact e
theorem dueS_yes {lag now : Int} {rows : List QRow} {i : Nat} {r : QRow} (h : rows[i]? = some r) (y : r.1 + lag ≤ now) : dueS lag now (rows.take (i + 1)) = dueS lag now (rows.take i) + r.2 := by
  unfold dueS
  rw [take_snoc h, List.filter_append, List.filter_cons, if_pos (decide_eq_true y), List.map_append, List.sum_append]
  simp
theorem dueS_no {lag now : Int} {rows : List QRow} {i : Nat} {r : QRow} (h : rows[i]? = some r) (y : ¬ r.1 + lag ≤ now) : dueS lag now (rows.take (i + 1)) = dueS lag now (rows.take i) := by
  unfold dueS
  rw [take_snoc h, List.filter_append, List.filter_cons, if_neg (by rw [decide_eq_false y]; decide), List.map_append, List.sum_append]
  simp
def sp_Queue_due (T : Ctx K mg) : Sp := fun vs H Q _ => ∃ q l, ∃ lag pat came : Int, ∃ s, vs = [.ref q, .int came] ∧ QueueAt T H q l lag pat s ∧ Q (.int (s.due lag came)) H
theorem ok_Queue_due (T : Ctx K mg) : FnOk P w K mg base CX0 1 T.a_Queue_due T.fd_Queue_due ["self", "came"] (sp_Queue_due T) := by
  refine T.F_Queue_due.ok sc_Queue_due (fun vs H Q E h => ?_) (fun cdv A outer s H vs Q E hr h => ?_)
  · obtain ⟨q, l, lag, pat, came, s, rfl, hQ, k⟩ := h
    rfl
  · obtain ⟨q, l, lag, pat, came, s, rfl, hQ, k⟩ := h
    refine ⟨_, PSs.nox (pss_cons (ps_set (i := 2) sc_Queue_due.nd rfl (Or.inl rfl) (pe_ifExp (pt_cmpR op_eq (pe_fld (pv 0) rfl) pe_int (nomark _)) (pv 1) pe_int))
    (pss_cons (ps_for PassesOwn.never rfl (pi_list (pe_fld (pv 0) rfl)) (pg_tup rfl (pgs_cons (pg_name (i := 3) sc_Queue_due.nd rfl (Or.inl rfl)) (pgs_cons (pg_name (i := 4) sc_Queue_due.nd rfl (Or.inl rfl)) pgs_nil)))
      (pss_one (ps_if (pt_cmpR op_le (pe_op op_add (pv 3) (pe_fld (pv 0) rfl)) (pe_fld (pv 0) rfl) (nomark _))
        (pss_one (ps_aug (i := 2) sc_Queue_due.nd rfl (Or.inl rfl) (pv 4) ip_add))
        pss_nil)))
    (pss_one (ps_ret (pv 2))))), ?_⟩
    obtain ⟨dx, xs, hq, hl, hxs⟩ := hQ
    have hlen : xs.length = s.rows.length := by rw [dpa_len hxs, List.length_map]
    refine ⟨_, rfl, q, T.c_Queue, dx, _, _, rfl, hq, T.cl_Queue, T.n_Queue_lag, queueF_lag _ _ _ _, rfl, _, rfl, ?_⟩
    -- many = came if self.lag == 0 else 0
    have loop : ∀ m0 : Int, m0 = (if lag = 0 then came else 0) → (tSeq (tFor (iList K (tFld K (tVar 0) "waiting")) (gTup K 2 (gCons (gName 3) (gCons (gName 4) gNil)))
        (tIfS (tTest (tOp (rI0 fun i j => .bl (decide (i ≤ j))) (tOp (rI0 fun i j => .int (i + j)) (tVar 3) (tFld K (tVar 0) "lag")) (tFld K (tVar 0) "coming"))) (tAug 2 (tVar 4) (ipI fun i j => i + j)) tNext)) (tRet (tVar 2)))
        { nx := fun _ H' => Q .non H', rt := Q } [some (.ref q), some (.int came), some (.int m0), none, none] H := by
      intro m0 hm
      refine ⟨_, rfl, q, T.c_Queue, dx, _, _, rfl, hq, T.cl_Queue, T.n_Queue_waiting, queueF_wait _ _ _ _, l, rfl, ⟨xs, SqL.of hl⟩, for_list (xs := xs) (fun i σ H' => H' = H ∧ ∃ x3 x4 : Option V, σ = [some (.ref q), some (.int came), some (.int (m0 + dueS lag s.now (s.rows.take i))), x3, x4])
        ⟨rfl, none, none, by show _ = [_, _, some (V.int (m0 + 0)), _, _]; rw [Int.add_zero]⟩ (fun i σ H' _ p => by rw [p.1]; exact SqL.of hl) ?_ ?_⟩
      · rintro i x σ H' hi ⟨rfl, x3, x4, rfl⟩
        obtain ⟨r, hr, hd⟩ := dpa_map_at hxs hi
        obtain ⟨a, rfl, ha⟩ := q_inv hd
        refine ⟨_, _, rfl, ha, rfl, _, _, rfl, _, _, rfl, rfl, ?_⟩
        refine ⟨_, rfl, _, rfl, q, T.c_Queue, dx, _, _, rfl, hq, T.cl_Queue, T.n_Queue_lag, queueF_lag _ _ _ _, _, _, rfl, rfl, _, rfl, q, T.c_Queue, dx, _, _, rfl, hq, T.cl_Queue, T.n_Queue_coming, queueF_now _ _ _ _, _, _, rfl, rfl, _, rfl, ?_⟩
        refine ite2 (fun h => ?_) (fun h => ?_)
        · refine ⟨_, rfl, _, rfl, _, _, rfl, rfl, rfl, some (.int r.1), some (.int r.2), ?_⟩
          rw [dueS_yes hr (of_decide_eq_true h), ← Int.add_assoc]
          rfl
        · refine ⟨rfl, some (.int r.1), some (.int r.2), ?_⟩
          rw [dueS_no hr (fun y => h (decide_eq_true y))]
          rfl
      · rintro σ H' ⟨rfl, x3, x4, rfl⟩
        refine ⟨_, rfl, ?_⟩
        have e : m0 + dueS lag s.now (s.rows.take xs.length) = s.due lag came := by
          rw [hlen, List.take_length, hm]
          rfl
        show Q (.int (m0 + dueS lag s.now (s.rows.take xs.length))) _
        rw [e]
        exact k
    by_cases h0 : lag = 0
    · rw [decide_eq_true (show V.int lag = V.int 0 by rw [h0])]
      exact ⟨_, rfl, loop came (by rw [if_pos h0])⟩
    · rw [decide_eq_false (show ¬ V.int lag = V.int 0 from fun q => h0 (by injection q))]
      exact loop 0 (by rw [if_neg h0])
theorem drop_cons {α : Type} {xs : List α} {i : Nat} {x : α} (h : xs[i]? = some x) : xs.drop i = x :: xs.drop (i + 1) := by
  obtain ⟨hi, e⟩ := List.getElem?_eq_some_iff.mp h
  rw [List.drop_eq_getElem_cons hi, e]
theorem noLs_q (rows : List QRow) : noLs (rows.map dQ) = true := noLs_map noL_q rows
def sp_Queue_take (T : Ctx K mg) : Sp := fun vs H Q _ => ∃ q l, ∃ lag pat many : Int, ∃ s, vs = [.ref q, .int many] ∧ QueueAt T H q l lag pat s ∧ s.rows.length ≤ 1000 ∧
  ∀ H' l', QueueAt T H' q l' lag pat ⟨takeQ many s.rows, s.now⟩ → But q H H' → H l' = none → Q .non H'
theorem ok_Queue_take (T : Ctx K mg) : FnOk P w K mg base CX0 1 T.a_Queue_take T.fd_Queue_take ["self", "many"] (sp_Queue_take T) := by
  refine T.F_Queue_take.ok sc_Queue_take (fun vs H Q E h => ?_) (fun cdv A outer s H vs Q E hr h => ?_)
  · obtain ⟨q, l, lag, pat, many, s, rfl, hQ, hz, k⟩ := h
    rfl
  · obtain ⟨q, l, lag, pat, many, s, rfl, hQ, hz, k⟩ := h
    refine ⟨_, PSs.nox (pss_cons (ps_set (i := 2) sc_Queue_take.nd rfl (Or.inl rfl) (pe_lst pa_nil))
    (pss_cons (ps_for PassesOwn.never rfl (pi_list (pe_fld (pv 0) rfl)) (pg_tup rfl (pgs_cons (pg_name (i := 3) sc_Queue_take.nd rfl (Or.inl rfl)) (pgs_cons (pg_name (i := 4) sc_Queue_take.nd rfl (Or.inl rfl)) pgs_nil)))
      (pss_cons (ps_set (i := 5) sc_Queue_take.nd rfl (Or.inl rfl) (pe_callB (call_min2 rfl) (by rfl) T.n_min (by decide +kernel) (pa_cons (pv 1) (pa_cons (pv 4) pa_nil))))
      (pss_cons (ps_aug (i := 1) sc_Queue_take.nd rfl (Or.inl rfl) (pv 5) ip_sub)
      (pss_one (ps_if (pt_cmpR op_lt (pv 5) (pv 4) (nomark _))
        (pss_one (ps_expr (pe_bm PySem.F.plainAttrs_list PySem.F.slot_list_append PySem.F.type_list_append mt_append (pv 2) (pa_cons (pe_tup (pa_cons (pv 3) (pa_cons (pe_op op_sub (pv 4) (pv 5)) pa_nil))) pa_nil))))
        pss_nil)))))
    (pss_one (ps_fld (pv 0) (pv 2) rfl)))), ?_⟩
    obtain ⟨dx, xs, hq, hl, hxs⟩ := hQ
    have hlen : xs.length = s.rows.length := by rw [dpa_len hxs, List.length_map]
    refine ⟨tl 0 rfl (by decide), fun fl nf => ?_⟩
    have s0 := Same_new (o := .lst []) nf
    refine ⟨_, rfl, q, T.c_Queue, dx, _, _, rfl, s0 _ _ hq, T.cl_Queue, T.n_Queue_waiting, queueF_wait _ _ _ _, l, rfl, ⟨xs, SqL.of (s0 _ _ hl)⟩, for_list (xs := xs) (fun i σ H' => ∃ (m : Int) (built : List QRow) (ys : List V) (x3 x4 x5 : Option V), σ = [some (.ref q), some (.int m), some (.ref fl), x3, x4, x5] ∧
      Same H H' ∧ H' fl = some (.lst ys) ∧ DpAll K H' ys (built.map dQ) ∧ built ++ takeQ m (s.rows.drop i) = takeQ many s.rows ∧ built.length ≤ i) ⟨many, [], [], none, none, none, rfl, s0, upd_same, .nil, rfl, Nat.le_refl _⟩
      (fun i σ H' _ ⟨_, _, _, _, _, _, _, e, _⟩ => SqL.of (e _ _ hl)) ?_ ?_⟩
    · rintro i x σ H1 hi ⟨m, built, ys, x3, x4, x5, rfl, e1, hf, hys, hb, hbl⟩
      obtain ⟨r, hr, hd⟩ := dpa_map_at hxs hi
      obtain ⟨a, rfl, ha⟩ := q_inv hd
      have il : i < s.rows.length := (List.getElem?_eq_some_iff.mp hr).1
      refine ⟨_, _, rfl, Same_t e1 ha, rfl, _, _, rfl, _, _, rfl, rfl, ?_⟩
      refine ⟨_, rfl, _, rfl, _, _, rfl, ?_⟩
      refine ⟨_, rfl, _, rfl, _, _, rfl, rfl, ?_⟩
      refine ⟨_, rfl, _, rfl, _, _, rfl, rfl, _, rfl, ?_⟩
      have un : takeQ m (s.rows.drop i) = if minP m r.2 < r.2 then (r.1, r.2 - minP m r.2) :: takeQ (m - minP m r.2) (s.rows.drop (i + 1)) else takeQ (m - minP m r.2) (s.rows.drop (i + 1)) := by
        rw [drop_cons hr]
        rfl
      have yl : ys.length = built.length := by rw [dpa_len hys, List.length_map]
      refine ite2 (fun h => ?_) (fun h => ?_)
      · have h' : minP m r.2 < r.2 := of_decide_eq_true h
        rw [if_pos h'] at un
        refine ⟨_, rfl, .inl ⟨rfl, _, SqL.of hf⟩, _, rfl, _, rfl, _, rfl, _, _, rfl, rfl, tl 2 rfl (by decide), fun p np => ?_⟩
        have e2 := Same_new (o := .tup [.int r.1, .int (r.2 - minP m r.2)]) np
        refine ⟨fl, ys, _, rfl, rfl, e2 _ _ hf, less_of (by omega), ?_⟩
        refine ⟨m - minP m r.2, built ++ [(r.1, r.2 - minP m r.2)], _, _, _, _, rfl, Same_mut (e1.trans e2) nf, upd_same, ?_, ?_, ?_⟩
        · rw [List.map_append]
          exact dpa_push (e2 _ _ hf) (noLs_q _) (noL_q _) (Same_dpa e2 hys) (q_of (r := (r.1, r.2 - minP m r.2)) (SqT.of upd_same)) _
        · rw [List.append_assoc, ← hb, un]
          rfl
        · rw [List.length_append]
          show built.length + 1 ≤ i + 1
          omega
      · have h' : ¬ minP m r.2 < r.2 := fun q => h (decide_eq_true q)
        rw [if_neg h'] at un
        exact ⟨m - minP m r.2, built, ys, _, _, _, rfl, e1, hf, hys, by rw [← hb, un], by omega⟩
    · rintro σ H1 ⟨m, built, ys, x3, x4, x5, rfl, e1, hf, hys, hb, hbl⟩
      have hb' : built = takeQ many s.rows := by
        rw [← hb, hlen, List.drop_length]
        exact (List.append_nil _).symm
      have hq1 := e1 _ _ hq
      refine ⟨_, rfl, _, rfl, q, T.c_Queue, dx, _, rfl, hq1, T.cl_Queue, T.n_Queue_waiting, (by show 4 < 1000; decide), ?_⟩
      rw [queueF_putw]
      have nq : fl ≠ q := (ne_of_none hq nf).symm
      refine k _ fl ⟨dx, ys, upd_same, by rw [upd_ne nq]; exact hf, ?_⟩ (fun b o e hb => by rw [upd_ne hb]; exact e1 _ _ e) nf
      show DpAll K _ ys ((takeQ many s.rows).map dQ)
      rw [← hb']
      exact Tups_dpa (Tups_upd hq1 rfl) (noLs_q _) hys
theorem dropN_yes {pat now : Int} {rows : List QRow} {i : Nat} {r : QRow} (h : rows[i]? = some r) (y : r.1 + pat ≤ now) : dropN pat now (rows.take (i + 1)) = dropN pat now (rows.take i) + r.2 ∧ dropQ pat now (rows.take (i + 1)) = dropQ pat now (rows.take i) := by
  refine ⟨dueS_yes h y, ?_⟩
  unfold dropQ
  rw [take_snoc h, List.filter_append, List.filter_cons, if_neg (by rw [decide_eq_true y]; decide)]
  exact List.append_nil _
theorem dropN_no {pat now : Int} {rows : List QRow} {i : Nat} {r : QRow} (h : rows[i]? = some r) (y : ¬ r.1 + pat ≤ now) : dropN pat now (rows.take (i + 1)) = dropN pat now (rows.take i) ∧ dropQ pat now (rows.take (i + 1)) = dropQ pat now (rows.take i) ++ [r] := by
  refine ⟨dueS_no h y, ?_⟩
  unfold dropQ
  rw [take_snoc h, List.filter_append, List.filter_cons, if_pos (by rw [decide_eq_false y]; rfl)]
  rfl
theorem dropQ_len (pat now : Int) (rows : List QRow) (i : Nat) : (dropQ pat now (rows.take i)).length ≤ i := by
  have h1 : (dropQ pat now (rows.take i)).length ≤ (rows.take i).length := List.length_filter_le _ _
  rw [List.length_take] at h1
  omega
def sp_Queue_drop (T : Ctx K mg) : Sp := fun vs H Q _ => ∃ q l, ∃ lag pat : Int, ∃ s, vs = [.ref q] ∧ QueueAt T H q l lag pat s ∧ s.rows.length ≤ 1001 ∧
  ∀ H' l', QueueAt T H' q l' lag pat ⟨dropQ pat s.now s.rows, s.now⟩ → But q H H' → H l' = none → Q (.int (dropN pat s.now s.rows)) H'
theorem ok_Queue_drop (T : Ctx K mg) : FnOk P w K mg base CX0 1 T.a_Queue_drop T.fd_Queue_drop ["self"] (sp_Queue_drop T) := by
  refine T.F_Queue_drop.ok sc_Queue_drop (fun vs H Q E h => ?_) (fun cdv A outer s H vs Q E hr h => ?_)
  · obtain ⟨q, l, lag, pat, s, rfl, hQ, hz, k⟩ := h
    rfl
  · obtain ⟨q, l, lag, pat, s, rfl, hQ, hz, k⟩ := h
    refine ⟨_, PSs.nox (pss_cons (ps_set (i := 1) sc_Queue_drop.nd rfl (Or.inl rfl) pe_int)
    (pss_cons (ps_set (i := 2) sc_Queue_drop.nd rfl (Or.inl rfl) (pe_lst pa_nil))
    (pss_cons (ps_for PassesOwn.never rfl (pi_list (pe_fld (pv 0) rfl)) (pg_tup rfl (pgs_cons (pg_name (i := 3) sc_Queue_drop.nd rfl (Or.inl rfl)) (pgs_cons (pg_name (i := 4) sc_Queue_drop.nd rfl (Or.inl rfl)) pgs_nil)))
      (pss_one (ps_if (pt_cmpR op_le (pe_op op_add (pv 3) (pe_fld (pv 0) rfl)) (pe_fld (pv 0) rfl) (nomark _))
        (pss_one (ps_aug (i := 1) sc_Queue_drop.nd rfl (Or.inl rfl) (pv 4) ip_add))
        (pss_one (ps_expr (pe_bm PySem.F.plainAttrs_list PySem.F.slot_list_append PySem.F.type_list_append mt_append (pv 2) (pa_cons (pe_tup (pa_cons (pv 3) (pa_cons (pv 4) pa_nil))) pa_nil)))))))
    (pss_cons (ps_fld (pv 0) (pv 2) rfl)
    (pss_one (ps_ret (pv 1))))))), ?_⟩
    obtain ⟨dx, xs, hq, hl, hxs⟩ := hQ
    have hlen : xs.length = s.rows.length := by rw [dpa_len hxs, List.length_map]
    refine ⟨tl 0 rfl (by decide), fun fl nf => ?_⟩
    have s0 := Same_new (o := .lst []) nf
    refine ⟨_, rfl, q, T.c_Queue, dx, _, _, rfl, s0 _ _ hq, T.cl_Queue, T.n_Queue_waiting, queueF_wait _ _ _ _, l, rfl, ⟨xs, SqL.of (s0 _ _ hl)⟩, for_list (xs := xs) (fun i σ H' => ∃ (ys : List V) (x3 x4 : Option V), σ = [some (.ref q), some (.int (dropN pat s.now (s.rows.take i))), some (.ref fl), x3, x4] ∧
      Same H H' ∧ H' fl = some (.lst ys) ∧ DpAll K H' ys ((dropQ pat s.now (s.rows.take i)).map dQ)) ⟨[], none, none, rfl, s0, upd_same, .nil⟩
      (fun i σ H' _ ⟨_, _, _, _, e, _⟩ => SqL.of (e _ _ hl)) ?_ ?_⟩
    · rintro i x σ H1 hi ⟨ys, x3, x4, rfl, e1, hf, hys⟩
      obtain ⟨r, hr, hd⟩ := dpa_map_at hxs hi
      obtain ⟨a, rfl, ha⟩ := q_inv hd
      have il : i < s.rows.length := (List.getElem?_eq_some_iff.mp hr).1
      have yl : ys.length ≤ i := by
        rw [dpa_len hys, List.length_map]
        exact dropQ_len _ _ _ _
      have hq1 := e1 _ _ hq
      refine ⟨_, _, rfl, Same_t e1 ha, rfl, _, _, rfl, _, _, rfl, rfl, ?_⟩
      refine ⟨_, rfl, _, rfl, q, T.c_Queue, dx, _, _, rfl, hq1, T.cl_Queue, T.n_Queue_patience, queueF_pat _ _ _ _, _, _, rfl, rfl, _, rfl, q, T.c_Queue, dx, _, _, rfl, hq1, T.cl_Queue, T.n_Queue_coming, queueF_now _ _ _ _, _, _, rfl, rfl, _, rfl, ?_⟩
      refine ite2 (fun h => ?_) (fun h => ?_)
      · have h' : r.1 + pat ≤ s.now := of_decide_eq_true h
        obtain ⟨d1, d2⟩ := dropN_yes hr h'
        refine ⟨_, rfl, _, rfl, _, _, rfl, rfl, ys, some (.int r.1), some (.int r.2), ?_, e1, hf, by rw [d2]; exact hys⟩
        rw [d1]
        rfl
      · have h' : ¬ r.1 + pat ≤ s.now := fun q => h (decide_eq_true q)
        obtain ⟨d1, d2⟩ := dropN_no hr h'
        refine ⟨_, rfl, .inl ⟨rfl, _, SqL.of hf⟩, _, rfl, _, rfl, tl 2 rfl (by decide), fun p np => ?_⟩
        have e2 := Same_new (o := .tup [.int r.1, .int r.2]) np
        refine ⟨fl, ys, _, rfl, rfl, e2 _ _ hf, less_of (by omega), ys ++ [.ref p], some (.int r.1), some (.int r.2), ?_, Same_mut (e1.trans e2) nf, upd_same, ?_⟩
        · rw [d1]
          rfl
        · rw [d2, List.map_append]
          exact dpa_push (e2 _ _ hf) (noLs_q _) (noL_q _) (Same_dpa e2 hys) (q_of (r := r) (SqT.of upd_same)) _
    · rintro σ H1 ⟨ys, x3, x4, rfl, e1, hf, hys⟩
      rw [hlen, List.take_length] at hys ⊢
      have hq1 := e1 _ _ hq
      refine ⟨_, rfl, _, rfl, q, T.c_Queue, dx, _, rfl, hq1, T.cl_Queue, T.n_Queue_waiting, (by show 4 < 1000; decide), ?_⟩
      rw [queueF_putw]
      have nq : fl ≠ q := (ne_of_none hq nf).symm
      refine ⟨_, rfl, k _ fl ⟨dx, ys, upd_same, by rw [upd_ne nq]; exact hf, ?_⟩ (fun b o e hb => by rw [upd_ne hb]; exact e1 _ _ e) nf⟩
      exact Tups_dpa (Tups_upd hq1 rfl) (noLs_q _) hys
def sp_Queue_step (T : Ctx K mg) : Sp := fun vs H Q _ => ∃ q l, ∃ lag pat came places : Int, ∃ s, vs = [.ref q, .int came, .int places] ∧ QueueAt T H q l lag pat s ∧ s.rows.length < 1000 ∧
  ∀ H' l' r, QueueAt T H' q l' lag pat (s.step lag pat came places) → But2 q l H H' → Alive H H' → H l' = none → H r = none →
    SqT K H' r [.int came, .int (s.due lag came), .int (s.run lag came places), .int (s.dropped lag pat came places)] → Q (.ref r) H'
theorem ok_Queue_step (T : Ctx K mg) : FnOk P w K mg base CX0 2 T.a_Queue_step T.fd_Queue_step ["self", "came", "places"] (sp_Queue_step T) := by
  have G_Queue_due := ok_Queue_due (P := P) (w := w) (base := base) T
  have G_Queue_take := ok_Queue_take (P := P) (w := w) (base := base) T
  have G_Queue_drop := ok_Queue_drop (P := P) (w := w) (base := base) T
  refine T.F_Queue_step.ok sc_Queue_step (fun vs H Q E h => ?_) (fun cdv A outer s H vs Q E hr h => ?_)
  · obtain ⟨q, l, lag, pat, came, places, s, rfl, hQ, hz, k⟩ := h
    rfl
  · obtain ⟨q, l, lag, pat, came, places, s, rfl, hQ, hz, k⟩ := h
    refine ⟨_, PSs.nox (pss_cons (ps_set (i := 3) sc_Queue_step.nd rfl (Or.inl rfl) (pe_meth (pv 0) T.cl_Queue T.m_Queue_due G_Queue_due (hr.mono (by decide)) T.b_Queue_due .nil pass0 (pa_cons (pv 1) pa_nil)))
    (pss_cons (ps_if (pt_cmpR op_gt (pv 1) pe_int (nomark _))
      (pss_one (ps_expr (pe_bm PySem.F.plainAttrs_list PySem.F.slot_list_append PySem.F.type_list_append mt_append (pe_fld (pv 0) rfl) (pa_cons (pe_tup (pa_cons (pe_fld (pv 0) rfl) (pa_cons (pv 1) pa_nil))) pa_nil))))
      pss_nil)
    (pss_cons (ps_set (i := 4) sc_Queue_step.nd rfl (Or.inl rfl) (pe_callB (call_min2 rfl) (by rfl) T.n_min (by decide +kernel) (pa_cons (pv 3) (pa_cons (pv 2) pa_nil))))
    (pss_cons (ps_expr (pe_meth (pv 0) T.cl_Queue T.m_Queue_take G_Queue_take (hr.mono (by decide)) T.b_Queue_take .nil pass0 (pa_cons (pv 4) pa_nil)))
    (pss_cons (ps_set (i := 5) sc_Queue_step.nd rfl (Or.inl rfl) (pe_meth0 (pv 0) T.cl_Queue T.m_Queue_drop G_Queue_drop (hr.mono (by decide)) T.b_Queue_drop .nil pass0))
    (pss_cons (ps_fldaug (pv 0) pe_int in_add)
    (pss_one (ps_ret (pe_tup (pa_cons (pv 1) (pa_cons (pv 3) (pa_cons (pv 4) (pa_cons (pv 5) pa_nil))))))))))))), ?_⟩
    obtain ⟨dx, xs, hq, hl, hxs⟩ := id hQ
    have hlen : xs.length = s.rows.length := by rw [dpa_len hxs, List.length_map]
    refine ⟨_, rfl, q, dx, _, rfl, hq, queueF_no _ _ _ _ (by decide +kernel) (by decide +kernel) (by decide +kernel) (by decide +kernel), _, rfl, q, l, lag, pat, came, s, rfl, hQ, ?_⟩
    -- the rest, behind the jobs that came
    have rest : ∀ H1, QueueAt T H1 q l lag pat ⟨comeQ s.now came s.rows, s.now⟩ → But2 q l H H1 →
        (tSeq (tAsg (tCB (fun xs H Q => ∃ i j, xs = [.int i, .int j] ∧ Q (.int (if j < i then j else i)) H) (tCons (tVar 3) (tCons (tVar 2) tNil))) (gName 4)) (tSeq (tDrop (tMeth T.c_Queue "take" (sp_Queue_take T) [] E0 (tVar 0) (tCons (tVar 4) tNil)))
          (tSeq (tAsg (tMeth T.c_Queue "drop" (sp_Queue_drop T) [] E0 (tVar 0) tNil) (gName 5)) (tSeq (sFldAug K (tVar 0) (tC (.int 1)) rAdd "coming") (tRet (tTup (tCons (tVar 1) (tCons (tVar 3) (tCons (tVar 4) (tCons (tVar 5) tNil)))))))))) { nx := fun _ H' => Q .non H', rt := Q }
          [some (.ref q), some (.int came), some (.int places), some (.int (s.due lag came)), none, none] H1 := by
      intro H1 hQ1 b1
      obtain ⟨dx1, xs1, hq1, hl1, hxs1⟩ := id hQ1
      have z1 : (comeQ s.now came s.rows).length ≤ 1000 := by
        have := comeQ_len s.now came s.rows
        omega
      refine ⟨_, rfl, _, rfl, _, _, rfl, ?_⟩
      refine ⟨_, rfl, q, dx1, _, rfl, hq1, queueF_no _ _ _ _ (by decide +kernel) (by decide +kernel) (by decide +kernel) (by decide +kernel), _, rfl, q, l, lag, pat, _, _, rfl, hQ1, z1, fun H2 l2 hQ2 b2 n2 => ?_⟩
      obtain ⟨dx2, xs2, hq2, hl2, hxs2⟩ := id hQ2
      have z2 : (takeQ (s.run lag came places) (comeQ s.now came s.rows)).length ≤ 1001 := by
        have := takeQ_len (s.run lag came places) (comeQ s.now came s.rows)
        omega
      refine ⟨_, rfl, q, dx2, _, rfl, hq2, queueF_no _ _ _ _ (by decide +kernel) (by decide +kernel) (by decide +kernel) (by decide +kernel), q, l2, lag, pat, _, rfl, hQ2, z2, fun H3 l3 hQ3 b3 n3 => ?_⟩
      obtain ⟨dx3, xs3, hq3, hl3, hxs3⟩ := id hQ3
      refine ⟨_, rfl, q, T.c_Queue, dx3, _, _, rfl, hq3, T.cl_Queue, T.n_Queue_coming, queueF_now _ _ _ _, _, _, rfl, rfl, dx3, _, hq3, (by show 4 < 1000; decide), ?_⟩
      rw [queueF_putn]
      have nq : l3 ≠ q := (ne_of_none hq2 n3).symm
      refine ⟨_, rfl, _, rfl, _, rfl, _, rfl, tl 4 rfl (by decide), fun r nr => ?_⟩
      have e4 := Same_new (o := .tup [.int came, .int (s.due lag came), .int (s.run lag came places), .int (s.dropped lag pat came places)]) nr
      have hQ4 : QueueAt T (upd H3 q (.ins T.c_Queue dx3 (queueF lag pat (.ref l3) (s.now + 1)))) q l3 lag pat (s.step lag pat came places) :=
        ⟨dx3, xs3, upd_same, by rw [upd_ne nq]; exact hl3, Tups_dpa (Tups_upd hq3 rfl) (noLs_q _) hxs3⟩
      have b4 : But2 q l H (upd H3 q (.ins T.c_Queue dx3 (queueF lag pat (.ref l3) (s.now + 1)))) := fun b o e hb hb' => by
        rw [upd_ne hb]
        exact b3 _ _ (b2 _ _ (b1 _ _ e hb hb') hb) hb
      have a1 : Alive H H1 := Alive.of2 b1 hq1 hl1
      have a2 : Alive H H2 := a1.trans (Alive.of1 b2 hq2)
      have a3 : Alive H H3 := a2.trans (Alive.of1 b3 hq3)
      have a4 : Alive H (upd H3 q (.ins T.c_Queue dx3 (queueF lag pat (.ref l3) (s.now + 1)))) := a3.trans (Alive.of1 (But.ins hq3) upd_same)
      exact k _ l3 r (hQ4.same e4) (fun b o e hb hb' => e4 _ _ (b4 _ _ e hb hb')) (a4.trans (Same_alive e4)) (a2 _ n3) (a4 _ nr) (SqT.of upd_same)
    refine ⟨_, rfl, _, _, rfl, rfl, _, rfl, ?_⟩
    refine ite2 (fun h => ?_) (fun h => ?_)
    · have h' : 0 < came := of_decide_eq_true h
      refine ⟨_, rfl, q, T.c_Queue, dx, _, _, rfl, hq, T.cl_Queue, T.n_Queue_waiting, queueF_wait _ _ _ _, .inl ⟨rfl, _, SqL.of hl⟩, _, rfl, q, T.c_Queue, dx, _, _, rfl, hq, T.cl_Queue, T.n_Queue_coming, queueF_now _ _ _ _, _, rfl, tl 2 rfl (by decide), fun p np => ?_⟩
      have e1 := Same_new (o := .tup [.int s.now, .int came]) np
      refine ⟨l, xs, _, rfl, rfl, e1 _ _ hl, less_of (by omega), ?_⟩
      refine rest _ ⟨dx, xs ++ [.ref p], ?_, upd_same, ?_⟩ (fun b o e hb hb' => by rw [upd_ne hb']; exact e1 _ _ e)
      · rw [upd_ne (ne_of hq hl (by intro z; cases z))]
        exact e1 _ _ hq
      · show DpAll K _ _ ((comeQ s.now came s.rows).map dQ)
        unfold comeQ
        rw [if_pos h', List.map_append]
        exact dpa_push (e1 _ _ hl) (noLs_q _) (noL_q _) (Same_dpa e1 hxs) (q_of (r := (s.now, came)) (SqT.of upd_same)) _
    · have h' : ¬ 0 < came := fun q => h (decide_eq_true q)
      refine rest H ⟨dx, xs, hq, hl, ?_⟩ (fun b o e _ _ => e)
      show DpAll K _ _ ((comeQ s.now came s.rows).map dQ)
      unfold comeQ
      rw [if_neg h']
      exact hxs
end
end K65
set_option Elab.async false
set_option linter.all false
set_option maxRecDepth 100000
set_option maxHeartbeats 4000000
namespace K65
open PySem L2
def before (ws gs : List Int) (f s : Nat) : Bool :=
  decide (gs.getD f 0 * ws.getD s 0 < gs.getD s 0 * ws.getD f 0) || (decide (gs.getD f 0 * ws.getD s 0 = gs.getD s 0 * ws.getD f 0) && decide (f < s))
def claims (wants ws gs : List Int) (b : Option Nat) (k : Nat) : Bool :=
  decide (gs.getD k 0 < wants.getD k 0) && (match b with | none => true | some j => before ws gs k j)
def nextN (wants ws gs : List Int) : Nat → Option Nat
  | 0 => none
  | i + 1 => if claims wants ws gs (nextN wants ws gs i) i = true then some i else nextN wants ws gs i
def giveTo (wants ws gs : List Int) : List Int := match nextN wants ws gs wants.length with
  | none => gs
  | some b => gs.set b (gs.getD b 0 + 1)
def sharesN (wants ws : List Int) : Nat → List Int
  | 0 => List.replicate wants.length 0
  | k + 1 => giveTo wants ws (sharesN wants ws k)
theorem nextN_lt (wants ws gs : List Int) : ∀ n b, nextN wants ws gs n = some b → b < n
  | 0, b, h => by cases h
  | n + 1, b, h => by
    unfold nextN at h
    split at h
    · cases h; exact Nat.lt_succ_self _
    · have := nextN_lt wants ws gs n b h
      omega
theorem giveTo_len (wants ws gs : List Int) : (giveTo wants ws gs).length = gs.length := by
  unfold giveTo
  split
  · rfl
  · exact List.length_set
theorem sharesN_len (wants ws : List Int) : ∀ k, (sharesN wants ws k).length = wants.length
  | 0 => List.length_replicate
  | k + 1 => (giveTo_len wants ws _).trans (sharesN_len wants ws k)
theorem sharesN_stay {wants ws : List Int} {i : Nat} (h : nextN wants ws (sharesN wants ws i) wants.length = none) : ∀ j, sharesN wants ws (i + j) = sharesN wants ws i
  | 0 => rfl
  | j + 1 => by
    show giveTo wants ws (sharesN wants ws (i + j)) = _
    rw [sharesN_stay h j]
    unfold giveTo
    rw [h]
def fairB (wants ws gs : List Int) (a b : Nat) : Bool :=
  if a = b ∨ wants.getD a 0 ≤ gs.getD a 0 ∨ gs.getD b 0 < 1 then true else
    decide ((gs.getD b 0 - 1) * ws.getD a 0 < gs.getD a 0 * ws.getD b 0) || (decide ((gs.getD b 0 - 1) * ws.getD a 0 = gs.getD a 0 * ws.getD b 0) && decide (b < a))
def inRange (wants gs : List Int) : Bool := (List.zip gs wants).all fun p => !(decide (p.1 < 0) || decide (p.2 < p.1))
def dL (ns : List Int) : PyData := .list (ns.map PyData.int)
def wrongSum (quota : Int) (wants gs : List Int) : Bool := decide (quota < gs.sum) || (decide (gs.sum < quota) && !PyData.eqv (dL gs) (dL wants))
def allFair (wants ws gs : List Int) : Bool := (List.range wants.length).all fun a => (List.range wants.length).all fun b => fairB wants ws gs a b
def accS (quota : Int) (wants ws gs : List Int) : Bool := inRange wants gs && (!wrongSum quota wants gs && allFair wants ws gs)
structure WsOk (ws : List Int) : Prop where
  small : ∀ w ∈ ws, -(2 ^ 64) < w ∧ w < 2 ^ 64
theorem WsOk.at_ {ws : List Int} (h : WsOk ws) (i : Nat) : -(2 ^ 64) < ws.getD i 0 ∧ ws.getD i 0 < 2 ^ 64 := by
  rw [List.getD_eq_getElem?_getD]
  cases e : ws[i]? with
  | none => decide
  | some w => exact h.small w (List.mem_of_getElem? e)
theorem shaped_ints (ns : List Int) : SeqAt.shaped (dL ns) = true := by
  have h1 : ∀ ns : List Int, PyData.canLayAll0 (ns.map PyData.int) = true := fun ns => by
    induction ns with
    | nil => rfl
    | cons n ns ih => show (true && PyData.canLayAll0 (ns.map PyData.int)) = true; rw [ih]; rfl
  have h2 : ∀ ns : List Int, PyData.depthAll (ns.map PyData.int) = 0 := fun ns => by
    induction ns with
    | nil => rfl
    | cons n ns ih => show max 0 (PyData.depthAll (ns.map PyData.int)) = 0; rw [ih]; rfl
  show (PyData.canLayAll0 (ns.map PyData.int) && decide (PyData.depthAll (ns.map PyData.int) + 1 ≤ 64)) = true
  rw [h1, h2]
  rfl
def optV : Option Nat → V
  | none => .non
  | some k => .int (k : Int)
section
variable {P : Program} {w : World} {K : PySem.W.Frag} {mg : Str → Option Value} {base : Heap} {H H1 : Hp}
def sp_comes_before (T : Ctx K mg) : Sp := fun vs H Q _ => ∃ (f s : Nat) (wa ga : Addr) (ws gs : List Int), vs = [.int (f : Int), .int (s : Int), .ref wa, .ref ga] ∧ SqL K H wa (ws.map V.int) ∧ SqL K H ga (gs.map V.int) ∧ WsOk ws ∧
  f < ws.length ∧ s < ws.length ∧ f < gs.length ∧ s < gs.length ∧ Q (.bl (before ws gs f s)) H
theorem ok_comes_before (T : Ctx K mg) : FnOk P w K mg base CX0 1 T.a_comes_before T.fd_comes_before ["first", "second", "weights", "given"] (sp_comes_before T) := by
  refine T.F_comes_before.ok sc_comes_before (fun vs H Q E h => ?_) (fun cdv A outer s H vs Q E hr h => ?_)
  · obtain ⟨f, s, wa, ga, ws, gs, rfl, hw, hg, ok, f1, s1, f2, s2, k⟩ := h
    rfl
  · obtain ⟨f, s, wa, ga, ws, gs, rfl, hw, hg, ok, f1, s1, f2, s2, k⟩ := h
    refine ⟨_, PSs.nox (pss_cons (ps_set (i := 4) sc_comes_before.nd rfl (Or.inl rfl) (pe_op op_mul (pe_ix ix_list (pv 3) (pv 0) (fun _ _ => rfl)) (pe_ix ix_list (pv 2) (pv 1) (fun _ _ => rfl))))
    (pss_cons (ps_set (i := 5) sc_comes_before.nd rfl (Or.inl rfl) (pe_op op_mul (pe_ix ix_list (pv 3) (pv 1) (fun _ _ => rfl)) (pe_ix ix_list (pv 2) (pv 0) (fun _ _ => rfl))))
    (pss_one (ps_ret (pe_or (pe_cmpR op_lt (pv 4) (pv 5) (nomark _)) (pe_one (pe_and (pe_cmpR op_eq (pv 4) (pv 5) (nomark _)) (pe_one (pe_cmpR op_lt (pv 0) (pv 1) (nomark _)))))))))), ?_⟩
    refine ⟨_, rfl, _, rfl, _, _, _, _, rfl, rfl, hg, atI_nat (getD_at f2), _, rfl, _, rfl, _, _, _, _, rfl, rfl, hw, atI_nat (getD_at s1), _, _, rfl, rfl, .inr (ok.at_ s), ?_⟩
    refine ⟨_, rfl, _, rfl, _, _, _, _, rfl, rfl, hg, atI_nat (getD_at s2), _, rfl, _, rfl, _, _, _, _, rfl, rfl, hw, atI_nat (getD_at f1), _, _, rfl, rfl, .inr (ok.at_ f), ?_⟩
    refine ⟨_, rfl, _, rfl, _, _, rfl, rfl, _, rfl, ?_⟩
    unfold before at k
    refine ite2 (fun h => ?_) (fun h => ?_)
    · rw [show decide (gs.getD f 0 * ws.getD s 0 < gs.getD s 0 * ws.getD f 0) = true from h, Bool.true_or] at k
      exact k
    · rw [show decide (gs.getD f 0 * ws.getD s 0 < gs.getD s 0 * ws.getD f 0) = false from Bool.eq_false_iff.mpr h, Bool.false_or] at k
      refine ⟨_, rfl, _, rfl, rfl, _, rfl, ?_⟩
      by_cases e : gs.getD f 0 * ws.getD s 0 = gs.getD s 0 * ws.getD f 0
      · rw [decide_eq_true e, Bool.true_and] at k
        rw [decide_eq_true (show V.int (gs.getD f 0 * ws.getD s 0) = V.int (gs.getD s 0 * ws.getD f 0) by rw [e])]
        refine ⟨_, rfl, _, rfl, _, _, rfl, rfl, ?_⟩
        have e2 : decide ((f : Int) < (s : Int)) = decide (f < s) := by
          by_cases q : f < s
          · rw [decide_eq_true q, decide_eq_true (show (f : Int) < (s : Int) by omega)]
          · rw [decide_eq_false q, decide_eq_false (show ¬ (f : Int) < (s : Int) by omega)]
        show Q (.bl (decide ((f : Int) < (s : Int)))) H
        rw [e2]
        exact k
      · rw [decide_eq_false e, Bool.false_and] at k
        rw [decide_eq_false (show ¬ V.int (gs.getD f 0 * ws.getD s 0) = V.int (gs.getD s 0 * ws.getD f 0) from fun q => e (by injection q))]
        exact k
def sp_next_service (T : Ctx K mg) : Sp := fun vs H Q _ => ∃ (na wa ga : Addr) (wants ws gs : List Int), vs = [.ref na, .ref wa, .ref ga] ∧ SqL K H na (wants.map V.int) ∧ SqL K H wa (ws.map V.int) ∧ SqL K H ga (gs.map V.int) ∧ WsOk ws ∧
  ws.length = wants.length ∧ gs.length = wants.length ∧ ∀ H', Same H H' → Q (optV (nextN wants ws gs wants.length)) H'
theorem ok_next_service (T : Ctx K mg) : FnOk P w K mg base CX0 2 T.a_next_service T.fd_next_service ["wants", "weights", "given"] (sp_next_service T) := by
  have G_comes_before := ok_comes_before (P := P) (w := w) (base := base) T
  refine T.F_next_service.ok sc_next_service (fun vs H Q E h => ?_) (fun cdv A outer s H vs Q E hr h => ?_)
  · obtain ⟨na, wa, ga, wants, ws, gs, rfl, hn, hw, hg, ok, l1, l2, k⟩ := h
    rfl
  · obtain ⟨na, wa, ga, wants, ws, gs, rfl, hn, hw, hg, ok, l1, l2, k⟩ := h
    refine ⟨_, PSs.nox (pss_cons (ps_set (i := 3) sc_next_service.nd rfl (Or.inl rfl) pe_non)
    (pss_cons (ps_for PassesOwn.never rfl (pi_enum (by rfl) T.n_enumerate (pa_cons (pv 0) pa_nil)) (pg_tup rfl (pgs_cons (pg_name (i := 4) sc_next_service.nd rfl (Or.inl rfl)) (pgs_cons (pg_name (i := 5) sc_next_service.nd rfl (Or.inl rfl)) pgs_nil)))
      (pss_one (ps_if (PW.pt (pw_and (pt_cmpR op_lt (pe_ix ix_list (pv 2) (pv 4) (fun _ _ => rfl)) (pv 5) (nomark _)) (pw_and1 (PW.pt (pw_or (pt_cmpR op_isN (pv 3) pe_non (nomark _)) (pw_or1 (pt_val (pe_call G_comes_before (hr.mono (by decide)) rfl T.g_comes_before T.F_comes_before.kp T.b_comes_before .nil pass0 (pa_cons (pv 4) (pa_cons (pv 3) (pa_cons (pv 1) (pa_cons (pv 2) pa_nil))))))))))))
        (pss_one (ps_set (i := 3) sc_next_service.nd rfl (Or.inl rfl) (pv 4)))
        pss_nil)))
    (pss_one (ps_ret (pv 3))))), ?_⟩
    have hlen : (wants.map V.int).length = wants.length := List.length_map _
    refine ⟨_, rfl, na, _, rfl, hn, for_it (walk_enum (K := K) (a := na) (xs := wants.map V.int)) (fun i σ H' => ∃ x4 x5 : Option V, σ = [some (.ref na), some (.ref wa), some (.ref ga), some (optV (nextN wants ws gs i)), x4, x5] ∧ Same H H')
      ⟨none, none, rfl, Same.refl H⟩ (fun i σ H' _ ⟨_, _, _, s⟩ => Same_l s hn) ?_ ?_⟩
    · rintro i x σ H1 H2 hi ⟨x4, x5, rfl, s1⟩ ⟨tp, _, lx, rfl, ntp, rfl, rfl', hlx⟩
      cases rfl'
      have hi' : i < wants.length := by omega
      have hlx' : (wants.map V.int)[i]? = some lx := hlx
      rw [getD_at hi'] at hlx'
      cases hlx'
      have s2 : Same H (upd H1 tp (.tup [.int (i : Nat), .int (wants.getD i 0)])) := Same_upd s1 ntp
      refine ⟨_, _, rfl, SqT.of upd_same, rfl, _, _, rfl, _, _, rfl, rfl, ?_⟩
      have un : nextN wants ws gs (i + 1) = if claims wants ws gs (nextN wants ws gs i) i = true then some i else nextN wants ws gs i := rfl
      unfold claims at un
      -- given[k] < want
      refine ⟨_, rfl, _, rfl, _, _, _, _, rfl, rfl, Same_l s2 hg, atI_nat (getD_at (by omega)), _, rfl, _, _, rfl, rfl, _, rfl, ?_⟩
      refine ite2 (fun h => ?_) (fun h => ?_)
      · rw [show decide (gs.getD i 0 < wants.getD i 0) = true from h, Bool.true_and] at un
        -- best is None
        refine ⟨_, rfl, rfl, _, rfl, ?_⟩
        cases hb : nextN wants ws gs i with
        | none =>
          rw [hb] at un
          refine iteT (iteT ⟨_, rfl, some (.int (i : Nat)), some (.int (wants.getD i 0)), ?_, s2⟩)
          rw [un]
          rfl
        | some b =>
          rw [hb] at un
          have hbl := nextN_lt wants ws gs i b hb
          refine iteF ⟨_, rfl, _, rfl, _, rfl, _, rfl, i, b, wa, ga, ws, gs, rfl, Same_l s2 hw, Same_l s2 hg, ok, by omega, by omega, by omega, by omega, _, rfl, ?_⟩
          refine ite2 (fun h2 => ?_) (fun h2 => ?_)
          · refine ⟨_, rfl, some (.int (i : Nat)), some (.int (wants.getD i 0)), ?_, s2⟩
            rw [un, if_pos h2]
            rfl
          · refine ⟨some (.int (i : Nat)), some (.int (wants.getD i 0)), ?_, s2⟩
            rw [un, if_neg h2]
            rfl
      · rw [show decide (gs.getD i 0 < wants.getD i 0) = false from Bool.eq_false_iff.mpr h, Bool.false_and] at un
        refine iteF ⟨some (.int (i : Nat)), some (.int (wants.getD i 0)), ?_, s2⟩
        rw [un]
        rfl
    · rintro σ H1 ⟨x4, x5, rfl, s1⟩
      rw [hlen]
      exact ⟨_, rfl, k _ s1⟩
def sp_shares (T : Ctx K mg) : Sp := fun vs H Q _ => ∃ (quota : Int) (na wa : Addr) (wants ws : List Int), vs = [.int quota, .ref na, .ref wa] ∧ 0 ≤ quota ∧ quota ≤ 1000 ∧ SqL K H na (wants.map V.int) ∧ SqL K H wa (ws.map V.int) ∧ WsOk ws ∧
  ws.length = wants.length ∧ wants.length ≤ 1000 ∧ ∀ H' g, Same H H' → H g = none → H' g = some (.lst ((sharesN wants ws quota.toNat).map V.int)) → Q (.ref g) H'
theorem ok_shares (T : Ctx K mg) : FnOk P w K mg base CX0 3 T.a_shares T.fd_shares ["quota", "wants", "weights"] (sp_shares T) := by
  have G_next_service := ok_next_service (P := P) (w := w) (base := base) T
  refine T.F_shares.ok sc_shares (fun vs H Q E h => ?_) (fun cdv A outer s H vs Q E hr h => ?_)
  · obtain ⟨quota, na, wa, wants, ws, rfl, q0, q1, hn, hw, ok, l1, l2, k⟩ := h
    rfl
  · obtain ⟨quota, na, wa, wants, ws, rfl, q0, q1, hn, hw, ok, l1, l2, k⟩ := h
    refine ⟨_, PSs.nox (pss_cons (ps_setLc (i := 3) (own := [("want", 6)]) rfl sc_shares.nd rfl rfl (sw_true rfl rfl rfl (by decide +kernel)) (pi_list (pv 1)) (blkOk_by (N := N_shares) (sc := defScope s_shares) (own := [("want", 6)]) (by decide +kernel)) (fun _ _ _ _ _ => (pg_name (i := 6) sc_shares.nd rfl (Or.inl rfl))) (fun _ _ _ _ _ => pts_nil) (fun _ _ _ _ _ => pe_int))
    (pss_cons (ps_for PassesOwn.never rfl (pi_range1 rfl T.n_range (pa_cons (pv 0) pa_nil)) (pg_name (i := 4) sc_shares.nd rfl (Or.inl rfl))
      (pss_cons (ps_set (i := 5) sc_shares.nd rfl (Or.inl rfl) (pe_call G_next_service (hr.mono (by decide)) rfl T.g_next_service T.F_next_service.kp T.b_next_service .nil pass0 (pa_cons (pv 1) (pa_cons (pv 2) (pa_cons (pv 3) pa_nil)))))
      (pss_cons (ps_if (pt_cmpR op_isN (pv 5) pe_non (nomark _))
        (pss_one ps_break)
        pss_nil)
      (pss_one (ps_augS (pv 3) (pv 5) pgt_list pe_int ip_add set_list)))))
    (pss_one (ps_ret (pv 3))))), ?_⟩
    have hlen : (wants.map V.int).length = wants.length := List.length_map _
    refine ⟨_, rfl, na, rfl, ⟨_, hn⟩, fun D nD => ?_⟩
    refine lc_list (xs := wants.map V.int) (fun i H' => Same H H' ∧ H' D = some (.lst (List.replicate i (.int 0)))) ⟨Same_new nD, upd_same⟩ (fun i H' _ p => Same_l p.1 hn) ?_ ?_
    · rintro i x H' hi ⟨s, hD⟩
      have il : i < wants.length := by
        have := (List.getElem?_eq_some_iff.mp hi).1
        omega
      refine ⟨rfl, _, hD, less_of ?_, Same_mut s nD, ?_⟩
      · rw [List.length_replicate]
        omega
      · rw [List.replicate_succ']
        exact upd_same
    · rintro H1 ⟨s1, hD⟩
      rw [hlen] at hD
      have hD0 : H1 D = some (.lst ((sharesN wants ws 0).map V.int)) := by
        show H1 D = some (.lst ((List.replicate wants.length (0 : Int)).map V.int))
        rw [List.map_replicate]
        exact hD
      refine ⟨_, rfl, quota, rfl, by omega, by omega, for_range (lo := 0) (n := quota.toNat) (fun i σ H' => ∃ x4 x5 x6 : Option V, σ = [some (.int quota), some (.ref na), some (.ref wa), some (.ref D), x4, x5, x6] ∧ Same H H' ∧ H' D = some (.lst ((sharesN wants ws i).map V.int)))
        ⟨none, none, none, rfl, s1, hD0⟩ ?_ ?_⟩
      · rintro i σ H2 hi ⟨x4, x5, x6, rfl, s2, hD2⟩
        refine ⟨_, rfl, _, rfl, _, rfl, na, wa, D, wants, ws, sharesN wants ws i, rfl, Same_l s2 hn, Same_l s2 hw, SqL.of hD2, ok, l1, sharesN_len _ _ _, fun H3 s3 => ?_⟩
        have hD3 := s3 _ _ hD2
        refine ⟨_, rfl, rfl, _, rfl, ?_⟩
        cases hb : nextN wants ws (sharesN wants ws i) wants.length with
        | none =>
          refine iteT ⟨_, rfl, k _ D (s2.trans s3) nD ?_⟩
          have e := sharesN_stay hb (quota.toNat - i)
          rw [show i + (quota.toNat - i) = quota.toNat by omega] at e
          rw [e]
          exact hD3
        | some b =>
          have hbl := nextN_lt wants ws _ _ b hb
          have hl : b < (sharesN wants ws i).length := by rw [sharesN_len]; exact hbl
          refine iteF ⟨_, rfl, _, rfl, D, _, b, _, rfl, rfl, SqL.of hD3, getD_at hl, _, _, rfl, rfl, D, _, _, b, rfl, rfl, hD3, ?_, some (.int (0 + (i : Int))), some (.int (b : Int)), x6, rfl, Same_mut (s2.trans s3) nD, ?_⟩
          · unfold ixN
            rw [if_pos (by omega), if_pos (by rw [List.length_map]; omega), Int.toNat_natCast]
          · have e : sharesN wants ws (i + 1) = (sharesN wants ws i).set b ((sharesN wants ws i).getD b 0 + 1) := by
              show giveTo wants ws (sharesN wants ws i) = _
              unfold giveTo
              rw [hb]
            rw [e, List.map_set]
            exact upd_same
      · rintro σ H2 ⟨x4, x5, x6, rfl, s2, hD2⟩
        exact ⟨_, rfl, k _ D s2 nD hD2⟩
def sp_is_fair (T : Ctx K mg) : Sp := fun vs H Q _ => ∃ (na wa ga : Addr) (wants ws gs : List Int) (a b : Nat), vs = [.ref na, .ref wa, .ref ga, .int (a : Int), .int (b : Int)] ∧ SqL K H na (wants.map V.int) ∧ SqL K H wa (ws.map V.int) ∧ SqL K H ga (gs.map V.int) ∧ WsOk ws ∧
  ws.length = wants.length ∧ gs.length = wants.length ∧ a < wants.length ∧ b < wants.length ∧ Q (.bl (fairB wants ws gs a b)) H
theorem ok_is_fair (T : Ctx K mg) : FnOk P w K mg base CX0 1 T.a_is_fair T.fd_is_fair ["wants", "weights", "given", "a", "b"] (sp_is_fair T) := by
  refine T.F_is_fair.ok sc_is_fair (fun vs H Q E h => ?_) (fun cdv A outer s H vs Q E hr h => ?_)
  · obtain ⟨na, wa, ga, wants, ws, gs, a, b, rfl, hn, hw, hg, ok, l1, l2, ha, hb, k⟩ := h
    rfl
  · obtain ⟨na, wa, ga, wants, ws, gs, a, b, rfl, hn, hw, hg, ok, l1, l2, ha, hb, k⟩ := h
    refine ⟨_, PSs.nox (pss_cons (ps_if (PW.pt (pw_or (pt_cmpR op_eq (pv 3) (pv 4) (nomark _)) (pw_or (pt_cmpR op_ge (pe_ix ix_list (pv 2) (pv 3) (fun _ _ => rfl)) (pe_ix ix_list (pv 0) (pv 3) (fun _ _ => rfl)) (nomark _)) (pw_or1 (pt_cmpR op_lt (pe_ix ix_list (pv 2) (pv 4) (fun _ _ => rfl)) pe_int (nomark _))))))
      (pss_one (ps_ret pe_bl))
      pss_nil)
    (pss_cons (ps_set (i := 5) sc_is_fair.nd rfl (Or.inl rfl) (pe_op op_mul (pe_op op_sub (pe_ix ix_list (pv 2) (pv 4) (fun _ _ => rfl)) pe_int) (pe_ix ix_list (pv 1) (pv 3) (fun _ _ => rfl))))
    (pss_cons (ps_set (i := 6) sc_is_fair.nd rfl (Or.inl rfl) (pe_op op_mul (pe_ix ix_list (pv 2) (pv 3) (fun _ _ => rfl)) (pe_ix ix_list (pv 1) (pv 4) (fun _ _ => rfl))))
    (pss_one (ps_ret (pe_or (pe_cmpR op_lt (pv 5) (pv 6) (nomark _)) (pe_one (pe_and (pe_cmpR op_eq (pv 5) (pv 6) (nomark _)) (pe_one (pe_cmpR op_lt (pv 4) (pv 3) (nomark _))))))))))), ?_⟩
    unfold fairB at k
    refine ⟨_, rfl, _, rfl, rfl, _, rfl, ?_⟩
    by_cases e1 : a = b
    · rw [if_pos (.inl e1)] at k
      rw [decide_eq_true (show V.int (a : Int) = V.int (b : Int) by rw [e1])]
      exact k
    · rw [decide_eq_false (show ¬ V.int (a : Int) = V.int (b : Int) from fun q => e1 (by injection q; omega))]
      refine iteF ⟨_, rfl, _, rfl, _, _, _, _, rfl, rfl, hg, atI_nat (getD_at (by omega)), _, rfl, _, rfl, _, _, _, _, rfl, rfl, hn, atI_nat (getD_at ha), _, _, rfl, rfl, _, rfl, ?_⟩
      by_cases e2 : wants.getD a 0 ≤ gs.getD a 0
      · rw [if_pos (.inr (.inl e2))] at k
        rw [decide_eq_true e2]
        exact k
      · rw [decide_eq_false e2]
        refine iteF ⟨_, rfl, _, rfl, _, _, _, _, rfl, rfl, hg, atI_nat (getD_at (by omega)), _, _, rfl, rfl, _, rfl, ?_⟩
        by_cases e3 : gs.getD b 0 < 1
        · rw [if_pos (.inr (.inr e3))] at k
          rw [decide_eq_true e3]
          exact k
        · rw [decide_eq_false e3]
          rw [if_neg (by rintro (q | q | q) <;> contradiction)] at k
          refine iteF ⟨_, rfl, _, rfl, _, _, _, _, rfl, rfl, hg, atI_nat (getD_at (by omega)), _, _, rfl, rfl, _, rfl, _, rfl, _, _, _, _, rfl, rfl, hw, atI_nat (getD_at (by omega)), _, _, rfl, rfl, .inr (ok.at_ a), ?_⟩
          refine ⟨_, rfl, _, rfl, _, _, _, _, rfl, rfl, hg, atI_nat (getD_at (by omega)), _, rfl, _, rfl, _, _, _, _, rfl, rfl, hw, atI_nat (getD_at (by omega)), _, _, rfl, rfl, .inr (ok.at_ b), ?_⟩
          refine ⟨_, rfl, _, rfl, _, _, rfl, rfl, _, rfl, ?_⟩
          refine ite2 (fun h => ?_) (fun h => ?_)
          · rw [show decide ((gs.getD b 0 - 1) * ws.getD a 0 < gs.getD a 0 * ws.getD b 0) = true from h, Bool.true_or] at k
            exact k
          · rw [show decide ((gs.getD b 0 - 1) * ws.getD a 0 < gs.getD a 0 * ws.getD b 0) = false from Bool.eq_false_iff.mpr h, Bool.false_or] at k
            refine ⟨_, rfl, _, rfl, rfl, _, rfl, ?_⟩
            by_cases e : (gs.getD b 0 - 1) * ws.getD a 0 = gs.getD a 0 * ws.getD b 0
            · rw [decide_eq_true e, Bool.true_and] at k
              rw [decide_eq_true (show V.int ((gs.getD b 0 - 1) * ws.getD a 0) = V.int (gs.getD a 0 * ws.getD b 0) by rw [e])]
              refine ⟨_, rfl, _, rfl, _, _, rfl, rfl, ?_⟩
              have e2 : decide ((b : Int) < (a : Int)) = decide (b < a) := by
                by_cases q : b < a
                · rw [decide_eq_true q, decide_eq_true (show (b : Int) < (a : Int) by omega)]
                · rw [decide_eq_false q, decide_eq_false (show ¬ (b : Int) < (a : Int) by omega)]
              show Q (.bl (decide ((b : Int) < (a : Int)))) H
              rw [e2]
              exact k
            · rw [decide_eq_false e, Bool.false_and] at k
              rw [decide_eq_false (show ¬ V.int ((gs.getD b 0 - 1) * ws.getD a 0) = V.int (gs.getD a 0 * ws.getD b 0) from fun q => e (by injection q))]
              exact k
theorem inRange_no {wants gs : List Int} {i : Nat} {g n : Int} (hg : gs[i]? = some g) (hn : wants[i]? = some n) (h : g < 0 ∨ n < g) : inRange wants gs = false := by
  unfold inRange
  rw [List.all_eq_false]
  refine ⟨(g, n), ?_, ?_⟩
  · refine List.mem_of_getElem? (i := i) ?_
    rw [List.getElem?_zip_eq_some]
    exact ⟨hg, hn⟩
  · rcases h with h | h
    · rw [show decide ((g, n).1 < 0) = true from decide_eq_true h, Bool.true_or]
      decide
    · rw [show decide ((g, n).2 < (g, n).1) = true from decide_eq_true h, Bool.or_true]
      decide
theorem inRange_yes {wants gs : List Int} (h : ∀ (i : Nat) (g n : Int), gs[i]? = some g → wants[i]? = some n → ¬ g < 0 ∧ ¬ n < g) : inRange wants gs = true := by
  unfold inRange
  rw [List.all_eq_true]
  rintro ⟨g, n⟩ hm
  obtain ⟨i, hi⟩ := List.getElem?_of_mem hm
  rw [List.getElem?_zip_eq_some] at hi
  obtain ⟨h1, h2⟩ := h i g n hi.1 hi.2
  rw [decide_eq_false (show ¬ (g, n).1 < 0 from h1), decide_eq_false (show ¬ (g, n).2 < (g, n).1 from h2)]
  rfl
def sp_accepts_shares (T : Ctx K mg) : Sp := fun vs H Q _ => ∃ (quota : Int) (na wa ga : Addr) (wants ws gs : List Int), vs = [.int quota, .ref na, .ref wa, .ref ga] ∧ SqL K H na (wants.map V.int) ∧ SqL K H wa (ws.map V.int) ∧ SqL K H ga (gs.map V.int) ∧ WsOk ws ∧
  ws.length = wants.length ∧ gs.length = wants.length ∧ wants.length ≤ 1000 ∧ ∀ H', Same H H' → Q (.bl (accS quota wants ws gs)) H'
theorem ok_accepts_shares (T : Ctx K mg) : FnOk P w K mg base CX0 2 T.a_accepts_shares T.fd_accepts_shares ["quota", "wants", "weights", "given"] (sp_accepts_shares T) := by
  have G_is_fair := ok_is_fair (P := P) (w := w) (base := base) T
  refine T.F_accepts_shares.ok sc_accepts_shares (fun vs H Q E h => ?_) (fun cdv A outer s H vs Q E hr h => ?_)
  · obtain ⟨quota, na, wa, ga, wants, ws, gs, rfl, hn, hw, hg, ok, l1, l2, l3, k⟩ := h
    rfl
  · obtain ⟨quota, na, wa, ga, wants, ws, gs, rfl, hn, hw, hg, ok, l1, l2, l3, k⟩ := h
    refine ⟨_, PSs.nox (pss_cons (ps_if (pt_cmpR op_ne (pe_callB call_len_seq (by rfl) T.n_len (by decide +kernel) (pa_cons (pv 3) pa_nil)) (pe_callB call_len_seq (by rfl) T.n_len (by decide +kernel) (pa_cons (pv 1) pa_nil)) (nomark _))
      (pss_one (ps_ret pe_bl))
      pss_nil)
    (pss_cons (ps_for PassesOwn.never rfl (pi_zip (by rfl) T.n_zip (pa_cons (pv 3) (pa_cons (pv 1) pa_nil))) (pg_tup rfl (pgs_cons (pg_name (i := 4) sc_accepts_shares.nd rfl (Or.inl rfl)) (pgs_cons (pg_name (i := 5) sc_accepts_shares.nd rfl (Or.inl rfl)) pgs_nil)))
      (pss_one (ps_if (PW.pt (pw_or (pt_cmpR op_lt (pv 4) pe_int (nomark _)) (pw_or1 (pt_cmpR op_gt (pv 4) (pv 5) (nomark _)))))
        (pss_one (ps_ret pe_bl))
        pss_nil)))
    (pss_cons (ps_set (i := 6) sc_accepts_shares.nd rfl (Or.inl rfl) (pe_callB (cr_sum rfl) (by rfl) T.n_sum (by decide +kernel) (pa_cons (pv 3) pa_nil)))
    (pss_cons (ps_if (PW.pt (pw_or (pt_cmpR op_gt (pv 6) (pv 0) (nomark _)) (pw_or1 (PW.pt (pw_and (pt_cmpR op_lt (pv 6) (pv 0) (nomark _)) (pw_and1 (pt_cmpR (op_neD hr.units) (pe_callTy call_list_of (by rfl) T.n_list (by decide +kernel) (pa_cons (pv 3) pa_nil)) (pe_callTy call_list_of (by rfl) T.n_list (by decide +kernel) (pa_cons (pv 1) pa_nil)) (nomark _))))))))
      (pss_one (ps_ret pe_bl))
      pss_nil)
    (pss_cons (ps_for PassesOwn.never rfl (pi_range1 rfl T.n_range (pa_cons (pe_callB call_len_seq (by rfl) T.n_len (by decide +kernel) (pa_cons (pv 1) pa_nil)) pa_nil)) (pg_name (i := 7) sc_accepts_shares.nd rfl (Or.inr rfl))
      (pss_one (ps_if (pt_not (pt_val (pe_callB (cr_all rfl) (by rfl) T.n_all (by decide +kernel) (pa_cons (pe_lc (own := [("b", 8)]) rfl sc_accepts_shares.nd (pi_range1 rfl T.n_range (pa_cons (pe_callB call_len_seq (by rfl) T.n_len (by decide +kernel) (pa_cons (pv 1) pa_nil)) pa_nil)) (blkOk_by (N := N_accepts_shares) (sc := defScope s_accepts_shares) (own := [("b", 8)]) (by decide +kernel)) (fun _ _ _ _ _ => (pg_name (i := 8) sc_accepts_shares.nd rfl (Or.inl rfl))) (fun _ _ _ _ _ => pts_nil) (fun _ _ _ _ _ => (pe_call G_is_fair (hr.mono (by decide)) rfl T.g_is_fair T.F_is_fair.kp T.b_is_fair .nil pass0 (pa_cons (pv 1) (pa_cons (pv 2) (pa_cons (pv 3) (pa_cons (pv 7) (pa_cons (pv 8) pa_nil)))))))) pa_nil))))
        (pss_one (ps_ret pe_bl))
        pss_nil)))
    (pss_one (ps_ret pe_bl))))))), ?_⟩
    have ln : (wants.map V.int).length = wants.length := List.length_map _
    have lg : (gs.map V.int).length = gs.length := List.length_map _
    unfold accS at k
    refine ⟨_, rfl, _, _, rfl, .inl hg, _, rfl, _, _, rfl, .inl hn, rfl, _, rfl, ?_⟩
    rw [show (!decide (V.int ((gs.map V.int).length : Int) = V.int ((wants.map V.int).length : Int))) = false by rw [ln, lg, l2, decide_eq_true rfl]; rfl]
    -- for number, want in zip(given, wants)
    refine iteF ⟨_, rfl, _, rfl, ga, na, _, _, rfl, hg, hn, for_it (walk_zip (K := K) (a := ga) (b := na) (xs := gs.map V.int) (ys := wants.map V.int) (n := wants.length) (by rw [ln, lg, l2, Nat.min_self])) (fun i σ H' => ∃ x4 x5 : Option V, σ = [some (.int quota), some (.ref na), some (.ref wa), some (.ref ga), x4, x5, none, none, none] ∧ Same H H' ∧
      ∀ (j : Nat) (g n : Int), j < i → gs[j]? = some g → wants[j]? = some n → ¬ g < 0 ∧ ¬ n < g) ⟨none, none, rfl, Same.refl H, fun j g n h => absurd h (Nat.not_lt_zero j)⟩ (fun i σ H' _ ⟨_, _, _, s, _⟩ => ⟨Same_l s hg, Same_l s hn⟩) ?_ ?_⟩
    · rintro i x σ H1 H2 hi ⟨x4, x5, rfl, s1, hall⟩ ⟨tp, gx, nx, rfl, ntp, rfl, hgx, hnx⟩
      have hgx' : (gs.map V.int)[i]? = some gx := hgx
      have hnx' : (wants.map V.int)[i]? = some nx := hnx
      obtain ⟨g, hg1, rfl⟩ : ∃ g, gs[i]? = some g ∧ gx = V.int g := by
        rw [List.getElem?_map] at hgx'
        cases q : gs[i]? with
        | none => rw [q] at hgx'; cases hgx'
        | some g => rw [q] at hgx'; exact ⟨g, rfl, (Option.some.inj hgx').symm⟩
      obtain ⟨n, hn1, rfl⟩ : ∃ n, wants[i]? = some n ∧ nx = V.int n := by
        rw [List.getElem?_map] at hnx'
        cases q : wants[i]? with
        | none => rw [q] at hnx'; cases hnx'
        | some n => rw [q] at hnx'; exact ⟨n, rfl, (Option.some.inj hnx').symm⟩
      have s2 : Same H (upd H1 tp (.tup [.int g, .int n])) := Same_upd s1 ntp
      refine ⟨_, _, rfl, SqT.of upd_same, rfl, _, _, rfl, _, _, rfl, rfl, ?_⟩
      refine ⟨_, rfl, _, _, rfl, rfl, _, rfl, ?_⟩
      refine ite2 (fun h => ?_) (fun h => ?_)
      · rw [inRange_no hg1 hn1 (.inl (of_decide_eq_true h)), Bool.false_and] at k
        exact iteT (k _ s2)
      · refine ⟨_, rfl, _, rfl, _, _, rfl, rfl, _, rfl, ?_⟩
        refine ite2 (fun h2 => ?_) (fun h2 => ?_)
        · rw [inRange_no hg1 hn1 (.inr (of_decide_eq_true h2)), Bool.false_and] at k
          exact k _ s2
        · refine ⟨some (.int g), some (.int n), rfl, s2, fun j g' n' hj e1 e2 => ?_⟩
          by_cases q : j < i
          · exact hall j g' n' q e1 e2
          · have : j = i := by omega
            subst this
            rw [hg1] at e1
            rw [hn1] at e2
            cases e1
            cases e2
            exact ⟨fun z => h (decide_eq_true z), fun z => h2 (decide_eq_true z)⟩
    · rintro σ H1 ⟨x4, x5, rfl, s1, hall⟩
      have hr : inRange wants gs = true := inRange_yes fun i g n e1 e2 => hall i g n (by have := (List.getElem?_eq_some_iff.mp e2).1; exact this) e1 e2
      rw [hr, Bool.true_and] at k
      -- together = sum(given)
      refine ⟨_, rfl, ga, gs, rfl, Same_l s1 hg, ?_⟩
      -- the last loop
      have loop : ∀ H2, Same H H2 → wrongSum quota wants gs = false →
          (tSeq (tFor (iRng1 (tCons (tCB (rLenK K) (tCons (tVar 1) tNil)) tNil)) (gName 7)
            (tIfS (tNot (tB (tCB (rAll K) (tCons (tLc (iRng1 (tCons (tCB (rLenK K) (tCons (tVar 1) tNil)) tNil)) (gName 8) tYes (tCall (sp_is_fair T) [] E0 (tCons (tVar 1) (tCons (tVar 2) (tCons (tVar 3) (tCons (tVar 7) (tCons (tVar 8) tNil)))))) [8]) tNil)))) (tRet (tC (.bl false))) tNext)) (tRet (tC (.bl true))))
            { nx := fun _ H' => Q .non H', rt := Q } [some (.int quota), some (.ref na), some (.ref wa), some (.ref ga), x4, x5, some (.int gs.sum), none, none] H2 := by
        intro H2 s2 hw0
        rw [hw0, Bool.not_false, Bool.true_and] at k
        refine ⟨_, rfl, _, _, rfl, .inl (Same_l s2 hn), _, rfl, by omega, by rw [ln]; omega, for_range (lo := 0) (n := ((wants.map V.int).length : Int).toNat) (fun i σ H' => ∃ x7 x8 : Option V, σ = [some (.int quota), some (.ref na), some (.ref wa), some (.ref ga), x4, x5, some (.int gs.sum), x7, x8] ∧ Same H H' ∧
          ((List.range i).all fun a => (List.range wants.length).all fun b => fairB wants ws gs a b) = true) ⟨none, none, rfl, s2, rfl⟩ ?_ ?_⟩
        · rintro i σ H3 hi ⟨x7, x8, rfl, s3, hall2⟩
          have hi' : i < wants.length := by
            rw [ln, Int.toNat_natCast] at hi
            exact hi
          refine ⟨_, rfl, _, _, rfl, .inl (Same_l s3 hn), _, rfl, by omega, by rw [ln]; omega, fun D nD => ?_⟩
          refine lc_range (lo := 0) (n := ((wants.map V.int).length : Int).toNat) (fun j H' => Same H H' ∧ H' D = some (.lst ((((List.range j).map fun b => fairB wants ws gs i b)).map V.bl))) ⟨(s3.trans (Same_new nD)), upd_same⟩ ?_ ?_
          · rintro j H4 hj ⟨s4, hD⟩
            have hj' : j < wants.length := by
              rw [ln, Int.toNat_natCast] at hj
              exact hj
            refine ⟨rfl, _, rfl, _, rfl, _, rfl, _, rfl, _, rfl, na, wa, ga, wants, ws, gs, i, j, ?_, Same_l s4 hn, Same_l s4 hw, Same_l s4 hg, ok, l1, l2, hi', hj', _, hD, less_of ?_, Same_mut s4 (s3.free nD), ?_⟩
            · show [V.ref na, V.ref wa, V.ref ga, V.int (0 + (i : Int)), V.int (0 + (j : Int))] = _
              rw [Int.zero_add, Int.zero_add]
            · rw [List.length_map, List.length_map, List.length_range]
              omega
            · rw [List.range_succ, List.map_append, List.map_append]
              exact upd_same
          · rintro H4 ⟨s4, hD⟩
            refine ⟨D, _, rfl, SqL.of hD, _, rfl, ?_⟩
            have e : ((List.range ((wants.map V.int).length : Int).toNat).map fun b => fairB wants ws gs i b).all id = (List.range wants.length).all fun b => fairB wants ws gs i b := by
              rw [ln, Int.toNat_natCast, List.all_map]
              rfl
            rw [e]
            cases hf : ((List.range wants.length).all fun b => fairB wants ws gs i b) with
            | false =>
              have ef : allFair wants ws gs = false := by
                unfold allFair
                rw [List.all_eq_false]
                exact ⟨i, List.mem_range.mpr hi', by rw [hf]; decide⟩
              rw [ef] at k
              exact iteT (k _ s4)
            | true =>
              refine iteF ⟨some (.int (0 + (i : Int))), x8, rfl, s4, ?_⟩
              rw [List.range_succ, List.all_append, hall2, Bool.true_and]
              show (((List.range wants.length).all fun b => fairB wants ws gs i b) && true) = true
              rw [hf]
              rfl
        · rintro σ H3 ⟨x7, x8, rfl, s3, hall2⟩
          have ef : allFair wants ws gs = true := by
            rw [ln, Int.toNat_natCast] at hall2
            exact hall2
          rw [ef] at k
          exact k _ s3
      -- if together > quota or together < quota and list(given) != list(wants)
      refine ⟨_, rfl, _, rfl, _, _, rfl, rfl, _, rfl, ?_⟩
      refine ite2 (fun h => ?_) (fun h => ?_)
      · have e : wrongSum quota wants gs = true := by
          unfold wrongSum
          rw [show decide (quota < gs.sum) = true from h]
          rfl
        rw [e, Bool.not_true, Bool.false_and] at k
        exact iteT (k _ s1)
      · refine ⟨_, rfl, _, rfl, _, _, rfl, rfl, _, rfl, ?_⟩
        refine ite2 (fun h2 => ?_) (fun h2 => ?_)
        · refine ⟨_, rfl, ga, _, rfl, .inl (Same_l s1 hg), fun p np => ⟨_, rfl, na, _, rfl, .inl (Same_l (s1.trans (Same_new np)) hn), fun r nr => ?_⟩⟩
          have s2 := (s1.trans (Same_new (o := .lst (gs.map V.int)) np)).trans (Same_new (o := .lst (wants.map V.int)) nr)
          refine ⟨dL gs, dL wants, .lst (Same_l (Same_new nr) (SqL.of upd_same)) (dpa_ints gs), .lst (SqL.of upd_same) (dpa_ints wants), shaped_ints gs, shaped_ints wants, _, rfl, ?_⟩
          have e : wrongSum quota wants gs = !PyData.eqv (dL gs) (dL wants) := by
            unfold wrongSum
            rw [show decide (quota < gs.sum) = false from Bool.eq_false_iff.mpr h, show decide (gs.sum < quota) = true from h2]
            rfl
          cases hq : PyData.eqv (dL gs) (dL wants) with
          | false =>
            rw [hq] at e
            rw [e, Bool.not_false, Bool.not_true, Bool.false_and] at k
            exact iteT (k _ s2)
          | true =>
            rw [hq] at e
            exact iteF (loop _ s2 e)
        · have e : wrongSum quota wants gs = false := by
            unfold wrongSum
            rw [show decide (quota < gs.sum) = false from Bool.eq_false_iff.mpr h, show decide (gs.sum < quota) = false from Bool.eq_false_iff.mpr h2]
            rfl
          exact iteF (loop _ s1 e)
/-- max of Python -/
def maxP (i j : Int) : Int := if j > i then j else i
def holds (k : Keep) (name : Str) (now : Int) : Bool := decide (k.name = name) && (decide (k.begin_ ≤ now % k.period) && decide (now % k.period < k.end_))
def keptF (keeps : List Keep) (name : Str) (now : Int) : Int := keeps.foldl (fun l k => if holds k name now = true then maxP l k.least else l) 0
def sp_kept (T : Ctx K mg) : Sp := fun vs H Q _ => ∃ (v : V) (s : Sett) (name : Str) (now : Int), vs = [v, .str name, .int now] ∧ Dp K H v (dSett s) ∧ (∀ k ∈ s.keeps, 0 < k.period) ∧ Q (.int (keptF s.keeps name now)) H
theorem ok_kept (T : Ctx K mg) : FnOk P w K mg base CX0 1 T.a_kept T.fd_kept ["setting", "name", "moment"] (sp_kept T) := by
  refine T.F_kept.ok sc_kept (fun vs H Q E h => ?_) (fun cdv A outer s H vs Q E hr h => ?_)
  · obtain ⟨v, s, name, now, rfl, hS, hp, k⟩ := h
    rfl
  · obtain ⟨v, s, name, now, rfl, hS, hp, k⟩ := h
    refine ⟨_, PSs.nox (pss_cons (ps_set (i := 3) sc_kept.nd rfl (Or.inl rfl) pe_int)
    (pss_cons (ps_for PassesOwn.never rfl (pi_tup (pe_ix ix_tup (pv 0) pe_int (fun _ _ => rfl))) (pg_tup rfl (pgs_cons (pg_name (i := 4) sc_kept.nd rfl (Or.inl rfl)) (pgs_cons (pg_name (i := 5) sc_kept.nd rfl (Or.inl rfl)) (pgs_cons (pg_name (i := 6) sc_kept.nd rfl (Or.inl rfl)) (pgs_cons (pg_name (i := 7) sc_kept.nd rfl (Or.inl rfl)) (pgs_cons (pg_name (i := 8) sc_kept.nd rfl (Or.inl rfl)) pgs_nil))))))
      (pss_one (ps_if (PW.pt (pw_and (pt_cmpR op_eq (pv 4) (pv 1) (nomark _)) (pw_and1 (pt_chain op_le op_lt (pv 6) (pe_op op_mod (pv 2) (pv 8)) (pv 7)))))
        (pss_one (ps_set (i := 3) sc_kept.nd rfl (Or.inl rfl) (pe_callB (call_max2 rfl) (by rfl) T.n_max (by decide +kernel) (pa_cons (pv 3) (pa_cons (pv 5) pa_nil)))))
        pss_nil)))
    (pss_one (ps_ret (pv 3))))), ?_⟩
    obtain ⟨a, sa, ka, ss, ks, rfl, h1, h2, h3, h4, h5⟩ := sett_inv hS
    have hlen : ks.length = s.keeps.length := by rw [dpa_len h5, List.length_map]
    refine ⟨_, rfl, _, _, _, _, rfl, rfl, h1, rfl, ka, rfl, ⟨ks, h4⟩, for_tup (xs := ks) (fun i σ H' => H' = H ∧ ∃ x4 x5 x6 x7 x8 : Option V, σ = [some (.ref a), some (.str name), some (.int now), some (.int (keptF (s.keeps.take i) name now)), x4, x5, x6, x7, x8])
      ⟨rfl, none, none, none, none, none, rfl⟩ (fun i σ H' _ p => by rw [p.1]; exact h4) ?_ ?_⟩
    · rintro i x σ H' hi ⟨rfl, x4, x5, x6, x7, x8, rfl⟩
      obtain ⟨e, he, hd⟩ := dpa_map_at h5 hi
      obtain ⟨b, rfl, hb⟩ := keep_inv hd
      have hper : 0 < e.period := hp e (List.mem_of_getElem? he)
      have un : keptF (s.keeps.take (i + 1)) name now = if holds e name now = true then maxP (keptF (s.keeps.take i) name now) e.least else keptF (s.keeps.take i) name now := by
        unfold keptF
        rw [take_snoc he, List.foldl_append]
        rfl
      refine ⟨_, _, rfl, hb, rfl, _, _, rfl, _, _, rfl, _, _, rfl, _, _, rfl, _, _, rfl, rfl, ?_⟩
      have no : holds e name now = false → (H' = H' ∧ ∃ y4 y5 y6 y7 y8 : Option V, [some (.ref a), some (.str name), some (.int now), some (.int (keptF (s.keeps.take i) name now)), some (.str e.name), some (.int e.least), some (.int e.begin_), some (.int e.end_), some (.int e.period)] =
          [some (.ref a), some (.str name), some (.int now), some (.int (keptF (s.keeps.take (i + 1)) name now)), y4, y5, y6, y7, y8]) := fun hh => by
        rw [un, hh]
        exact ⟨rfl, _, _, _, _, _, rfl⟩
      refine ⟨_, rfl, _, rfl, rfl, _, rfl, ?_⟩
      by_cases e1 : e.name = name
      · rw [decide_eq_true (show V.str e.name = V.str name by rw [e1])]
        refine iteT ⟨_, rfl, _, rfl, _, rfl, _, _, rfl, rfl, hper, _, _, rfl, rfl, _, rfl, ?_⟩
        refine ite2 (fun h => ?_) (fun h => ?_)
        · refine ⟨_, rfl, _, _, rfl, rfl, _, rfl, ?_⟩
          refine ite2 (fun h' => ?_) (fun h' => ?_)
          · have hh : holds e name now = true := by
              unfold holds
              rw [decide_eq_true e1, show decide (e.begin_ ≤ now % e.period) = true from h, show decide (now % e.period < e.end_) = true from h']
              rfl
            refine ⟨_, rfl, _, rfl, _, _, rfl, rfl, some (.str e.name), some (.int e.least), some (.int e.begin_), some (.int e.end_), some (.int e.period), ?_⟩
            rw [un, hh]
            rfl
          · exact no (by
              unfold holds
              rw [show decide (now % e.period < e.end_) = false from Bool.eq_false_iff.mpr h', Bool.and_false, Bool.and_false])
        · refine ⟨_, rfl, ?_⟩
          exact iteF (no (by
            unfold holds
            rw [show decide (e.begin_ ≤ now % e.period) = false from Bool.eq_false_iff.mpr h, Bool.false_and, Bool.and_false]))
      · rw [decide_eq_false (show ¬ V.str e.name = V.str name from fun q => e1 (by injection q))]
        exact iteF (iteF (no (by
          unfold holds
          rw [decide_eq_false e1, Bool.false_and])))
    · rintro σ H' ⟨rfl, x4, x5, x6, x7, x8, rfl⟩
      rw [hlen, List.take_length]
      exact ⟨_, rfl, k⟩
def wantedI (due room most : Int) : Int := minP most ((due + room - 1) / room)
def reasonS (due run want bound given : Int) : Str := if run = due then "all" else if given < bound then "quota" else if bound < want then "budget" else "most"
def sp_wanted (T : Ctx K mg) : Sp := fun vs H Q _ => ∃ due room most : Int, vs = [.int due, .int room, .int most] ∧ 0 < room ∧ room < 1073741824 ∧ Q (.int (wantedI due room most)) H
theorem ok_wanted (T : Ctx K mg) : FnOk P w K mg base CX0 1 T.a_wanted T.fd_wanted ["due", "room", "most"] (sp_wanted T) := by
  refine T.F_wanted.ok sc_wanted (fun vs H Q E h => ?_) (fun cdv A outer s H vs Q E hr h => ?_)
  · obtain ⟨due, room, most, rfl, r0, r1, k⟩ := h
    rfl
  · obtain ⟨due, room, most, rfl, r0, r1, k⟩ := h
    refine ⟨_, PSs.nox (pss_one (ps_ret (pe_callB (call_min2 rfl) (by rfl) T.n_min (by decide +kernel) (pa_cons (pv 2) (pa_cons (pe_op op_fdiv (pe_op op_sub (pe_op op_add (pv 0) (pv 1)) pe_int) (pv 1)) pa_nil))))), ?_⟩
    exact ⟨_, rfl, _, rfl, _, rfl, _, _, rfl, rfl, _, _, rfl, rfl, _, rfl, _, _, rfl, rfl, ⟨r0, r1⟩, _, _, rfl, k⟩
def sp_reason (T : Ctx K mg) : Sp := fun vs H Q _ => ∃ due run want bound given : Int, vs = [.int due, .int run, .int want, .int bound, .int given] ∧ Q (.str (reasonS due run want bound given)) H
theorem ok_reason (T : Ctx K mg) : FnOk P w K mg base CX0 1 T.a_reason T.fd_reason ["due", "run", "want", "bound", "given"] (sp_reason T) := by
  refine T.F_reason.ok sc_reason (fun vs H Q E h => ?_) (fun cdv A outer s H vs Q E hr h => ?_)
  · obtain ⟨due, run, want, bound, given, rfl, k⟩ := h
    rfl
  · obtain ⟨due, run, want, bound, given, rfl, k⟩ := h
    refine ⟨_, PSs.nox (pss_cons (ps_if (pt_cmpR op_eq (pv 1) (pv 0) (nomark _))
      (pss_one (ps_ret pe_str))
      pss_nil)
    (pss_cons (ps_if (pt_cmpR op_lt (pv 4) (pv 3) (nomark _))
      (pss_one (ps_ret pe_str))
      pss_nil)
    (pss_one (ps_ret (pe_ifExp (pt_cmpR op_lt (pv 3) (pv 2) (nomark _)) pe_str pe_str))))), ?_⟩
    unfold reasonS at k
    refine ⟨_, rfl, _, rfl, rfl, _, rfl, ?_⟩
    by_cases e1 : run = due
    · rw [if_pos e1] at k
      rw [decide_eq_true (show V.int run = V.int due by rw [e1])]
      exact k
    · rw [if_neg e1] at k
      rw [decide_eq_false (show ¬ V.int run = V.int due from fun q => e1 (by injection q))]
      refine iteF ⟨_, rfl, _, rfl, _, _, rfl, rfl, _, rfl, ?_⟩
      refine ite2 (fun h => ?_) (fun h => ?_)
      · rw [if_pos (of_decide_eq_true h)] at k
        exact k
      · rw [if_neg (fun q => h (decide_eq_true q))] at k
        refine ⟨_, rfl, _, rfl, _, _, rfl, rfl, _, rfl, ?_⟩
        refine ite2 (fun h2 => ?_) (fun h2 => ?_)
        · rw [if_pos (of_decide_eq_true h2)] at k
          exact k
        · rw [if_neg (fun q => h2 (decide_eq_true q))] at k
          exact k
end
end K65
set_option Elab.async false
set_option linter.all false
set_option maxRecDepth 100000
set_option maxHeartbeats 4000000
namespace K65
open PySem L2
instance : Inhabited Row := ⟨⟨0, 0, false⟩⟩
instance : Inhabited Deed := ⟨⟨0, 0, false, 0, 0, 0, 0, 0, 0, "", 0, [], 0⟩⟩
def pNeed (s : Serv) (least : Int) (p : PoolS) (r : Row) (given : Int) : Int := maxP given (p.lim s.tar r.price least s.budget)
def deedOf (s : Serv) (least : Int) (q : QS) (p : PoolS) (r : Row) (given : Int) : Deed :=
  { price := r.price, came := r.came, brk := r.brk, due := q.due s.lag r.came, want := wantedI (q.due s.lag r.came) s.room s.most,
    limit := p.lim s.tar r.price (wantedI (q.due s.lag r.came) s.room s.most) s.budget, given := given,
    run := q.run s.lag r.came (given * s.room), dropped := q.dropped s.lag s.patience r.came (given * s.room),
    why := reasonS (q.due s.lag r.came) (q.run s.lag r.came (given * s.room)) (wantedI (q.due s.lag r.came) s.room s.most) (p.lim s.tar r.price (wantedI (q.due s.lag r.came) s.room s.most) s.budget) given,
    need := pNeed s least p r given, states := (p.step s.tar r.price (pNeed s least p r given)).states, cost := p.cost s.tar r.price (pNeed s least p r given) }
def nextQ (s : Serv) (q : QS) (r : Row) (given : Int) : QS := q.step s.lag s.patience r.came (given * s.room)
def nextP (s : Serv) (least : Int) (p : PoolS) (r : Row) (given : Int) : PoolS :=
  if r.brk = true then (p.step s.tar r.price (pNeed s least p r given)).brk s.tar else p.step s.tar r.price (pNeed s least p r given)
def head6 (d : Deed) : PyData := .tuple [.int d.price, .int d.came, .bool d.brk, .int d.due, .int d.want, .int d.limit]
def tail6 (d : Deed) : PyData := .tuple [.int d.run, .int d.dropped, .str d.why, .int d.need, dInts d.states, .int d.cost]
def isDeedB (s : Serv) (least : Int) (q : QS) (p : PoolS) (r : Row) (d : Deed) : Bool :=
  PyData.eqv (head6 d) (head6 (deedOf s least q p r d.given)) && (!decide (d.given < 0) && (!decide ((deedOf s least q p r d.given).limit < d.given) && PyData.eqv (tail6 d) (tail6 (deedOf s least q p r d.given))))
structure Serv.Ok (s : Serv) : Prop where
  room : 0 < s.room ∧ s.room ≤ 64
  tar : s.tar.Ok
  most : 0 ≤ s.most ∧ s.most ≤ 1000
  weight : 1 ≤ s.weight ∧ s.weight ≤ 9
def QS.Ok (q : QS) : Prop := ∀ r ∈ q.rows, 0 < r.2
theorem sum_pos : ∀ {rows : List QRow}, (∀ r ∈ rows, 0 < r.2) → 0 ≤ (rows.map fun r => r.2).sum
  | [], _ => Int.le_refl _
  | r :: rs, h => by
    have h1 := h r List.mem_cons_self
    have h2 := sum_pos (rows := rs) fun x hx => h x (List.mem_cons_of_mem _ hx)
    show 0 ≤ (r.2 :: rs.map fun r => r.2).sum
    rw [List.sum_cons]
    omega
theorem QS.due_nn {q : QS} (h : q.Ok) (lag came : Int) (hc : 0 ≤ came) : 0 ≤ q.due lag came := by
  unfold QS.due dueQ dueS
  have h1 := sum_pos (rows := q.rows.filter fun r => decide (r.1 + lag ≤ q.now)) fun r hr => h r (List.mem_filter.mp hr).1
  split <;> omega
theorem takeQ_pos : ∀ (m : Int) (rows : List QRow), (∀ r ∈ rows, 0 < r.2) → ∀ r ∈ takeQ m rows, 0 < r.2
  | _, [], _, r, hr => by cases hr
  | m, (a, c) :: rs, h, r, hr => by
    unfold takeQ at hr
    have ih := takeQ_pos (m - minP m c) rs fun x hx => h x (List.mem_cons_of_mem _ hx)
    split at hr
    · rename_i hlt
      rcases List.mem_cons.mp hr with e | hr
      · rw [e]
        show 0 < c - minP m c
        omega
      · exact ih r hr
    · exact ih r hr
theorem QS.step_ok {q : QS} (h : q.Ok) (lag pat came places : Int) : (q.step lag pat came places).Ok := by
  intro r hr
  have hr' : r ∈ takeQ (q.run lag came places) (comeQ q.now came q.rows) := (List.mem_filter.mp hr).1
  refine takeQ_pos _ _ (fun x hx => ?_) r hr'
  unfold comeQ at hx
  split at hx
  · rcases List.mem_append.mp hx with hx | hx
    · exact h x hx
    · rw [List.mem_singleton.mp hx]
      assumption
  · exact h x hx
theorem wanted_nn {due room most : Int} (h : 0 ≤ due) (r : 0 < room) (m : 0 ≤ most) : 0 ≤ wantedI due room most := by
  unfold wantedI minP
  have h1 : 0 ≤ (due + room - 1) / room := Int.ediv_nonneg (by omega) (by omega)
  split <;> omega
theorem wanted_le (due room most : Int) : wantedI due room most ≤ most := by
  unfold wantedI minP
  split <;> omega
theorem PoolS.lim_nn (t : Tar) (p : PoolS) (price want budget : Int) : 0 ≤ p.lim t price want budget := Int.natCast_nonneg _
theorem PoolS.lim_le (t : Tar) (p : PoolS) (price want budget : Int) (h : 0 ≤ want) : p.lim t price want budget ≤ want := by
  unfold PoolS.lim
  have := p.limN_le t price budget want.toNat
  omega
theorem keptF_ok (name : Str) (now : Int) : ∀ {keeps : List Keep}, (∀ k ∈ keeps, 0 ≤ k.least ∧ k.least ≤ 1000) → 0 ≤ keptF keeps name now ∧ keptF keeps name now ≤ 1000 := by
  have gen : ∀ (keeps : List Keep) (l : Int), 0 ≤ l ∧ l ≤ 1000 → (∀ k ∈ keeps, 0 ≤ k.least ∧ k.least ≤ 1000) →
      0 ≤ keeps.foldl (fun l k => if holds k name now = true then maxP l k.least else l) l ∧ keeps.foldl (fun l k => if holds k name now = true then maxP l k.least else l) l ≤ 1000 := by
    intro keeps
    induction keeps with
    | nil => intro l h _; exact h
    | cons k ks ih =>
      intro l h hk
      refine ih _ ?_ fun x hx => hk x (List.mem_cons_of_mem _ hx)
      have h1 := hk k List.mem_cons_self
      show 0 ≤ (if holds k name now = true then maxP l k.least else l) ∧ (if holds k name now = true then maxP l k.least else l) ≤ 1000
      unfold maxP
      split
      · split <;> omega
      · exact h
  exact fun {keeps} h => gen keeps 0 ⟨by decide, by decide⟩ h
theorem nextP_ok {s : Serv} {p : PoolS} (h : p.Ok s.tar) (least : Int) (r : Row) (given : Int) : (nextP s least p r given).Ok s.tar := by
  unfold nextP
  split
  · exact PoolS.brk_ok
  · exact PoolS.step_ok h _ _
def strOk (x : Str) : Bool := PyData.strOk x
theorem reason_ok (due run want bound given : Int) : PyData.strOk (reasonS due run want bound given) = true := by
  unfold reasonS
  split
  · decide +kernel
  · split
    · decide +kernel
    · split
      · decide +kernel
      · decide +kernel
theorem head6_shaped (d : Deed) : SeqAt.shaped (head6 d) = true := rfl
theorem dInts_lay (ns : List Int) : PyData.canLay0 (dInts ns) = true ∧ PyData.depth (dInts ns) = 1 := by
  have h1 : ∀ ns : List Int, PyData.canLayAll0 (ns.map PyData.int) = true := fun ns => by
    induction ns with
    | nil => rfl
    | cons n ns ih => show (true && PyData.canLayAll0 (ns.map PyData.int)) = true; rw [ih]; rfl
  have h2 : ∀ ns : List Int, PyData.depthAll (ns.map PyData.int) = 0 := fun ns => by
    induction ns with
    | nil => rfl
    | cons n ns ih => show max 0 (PyData.depthAll (ns.map PyData.int)) = 0; rw [ih]; rfl
  refine ⟨h1 ns, ?_⟩
  show PyData.depthAll (ns.map PyData.int) + 1 = 1
  rw [h2]
theorem tail6_shaped (d : Deed) (h : PyData.strOk d.why = true) : SeqAt.shaped (tail6 d) = true := by
  obtain ⟨h1, h2⟩ := dInts_lay d.states
  show ((true && (true && (PyData.strOk d.why && (true && (PyData.canLay0 (dInts d.states) && (true && true)))))) && decide ((max 0 (max 0 (max 0 (max 0 (max (PyData.depth (dInts d.states)) (max 0 0)))))) + 1 ≤ 64)) = true
  rw [h, h1, h2]
  rfl
section
variable {P : Program} {w : World} {K : PySem.W.Frag} {mg : Str → Option Value} {base : Heap} {H H1 : Hp}
theorem queue_ne_pool {C C' dx dx' : Addr} {a b n sp : Int} {l tv lv : V} : HO.ins C dx (queueF a b l n) ≠ HO.ins C' dx' (poolF tv lv sp) := fun z => by
  injection z with _ _ z
  exact absurd (congrArg List.length z) (by show ¬ (4 : Nat) = 3; decide)
/-- all but q, l, p is as it was -/
def But3 (q l p : Addr) (H H' : Hp) : Prop := ∀ b o, H b = some o → b ≠ q → b ≠ l → b ≠ p → H' b = some o
theorem QueueAt.keep {T : Ctx K mg} {q l : Addr} {lag pat : Int} {s : QS} (h : QueueAt T H q l lag pat s) (u : Tups H H1) (hq : ∀ o, H q = some o → H1 q = some o) (hl : ∀ o, H l = some o → H1 l = some o) : QueueAt T H1 q l lag pat s := by
  obtain ⟨dx, vs, h1, h2, h3⟩ := h
  exact ⟨dx, vs, hq _ h1, hl _ h2, Tups_dpa u (noLs_q _) h3⟩
def sp_is_deed (T : Ctx K mg) : Sp := fun vs H Q _ => ∃ (sv rv dv : V) (s : Serv) (least : Int) (q l p la : Addr) (qs : QS) (ps : PoolS) (r : Row) (d : Deed), vs = [sv, .int least, .ref q, .ref p, rv, dv] ∧
  Dp K H sv (dServ s) ∧ s.Ok ∧ (0 ≤ least ∧ least ≤ 1000) ∧ QueueAt T H q l s.lag s.patience qs ∧ qs.Ok ∧ qs.rows.length < 1000 ∧ PoolAt T H p la s.tar ps ∧ ps.Ok s.tar ∧ l ≠ la ∧ Dp K H rv (dRow r) ∧ 0 ≤ r.came ∧ Dp K H dv (dDeed d) ∧ PyData.strOk d.why = true ∧
  (isDeedB s least qs ps r d = false → ∀ H', But3 q l p H H' → Alive H H' → Q (.bl false) H') ∧
  (isDeedB s least qs ps r d = true → ∀ H' l' la', QueueAt T H' q l' s.lag s.patience (nextQ s qs r d.given) → PoolAt T H' p la' s.tar (nextP s least ps r d.given) → l' ≠ la' → But3 q l p H H' → Alive H H' → H l' = none → H la' = none → Q (.bl true) H')
theorem ok_is_deed (T : Ctx K mg) : FnOk P w K mg base CX0 9 T.a_is_deed T.fd_is_deed ["service", "least", "queue", "pool", "row", "deed"] (sp_is_deed T) := by
  have G_Queue_due := ok_Queue_due (P := P) (w := w) (base := base) T
  have G_wanted := ok_wanted (P := P) (w := w) (base := base) T
  have G_limit := ok_limit (P := P) (w := w) (base := base) T
  have G_Queue_step := ok_Queue_step (P := P) (w := w) (base := base) T
  have G_Pool_step := ok_Pool_step (P := P) (w := w) (base := base) T
  have G_Pool_end_break := ok_Pool_end_break (P := P) (w := w) (base := base) T
  have G_reason := ok_reason (P := P) (w := w) (base := base) T
  refine T.F_is_deed.ok sc_is_deed (fun vs H Q E h => ?_) (fun cdv A outer s H vs Q E hr h => ?_)
  · obtain ⟨sv, rv, dv, s, least, q, l, p, la, qs, ps, r, d, rfl, hS, ok, ⟨le0, le1⟩, hQ, qok, qz, hP, pok, nla, hR, rc, hD, hwhy, kf, kt⟩ := h
    rfl
  · obtain ⟨sv, rv, dv, s, least, q, l, p, la, qs, ps, r, d, rfl, hS, ok, ⟨le0, le1⟩, hQ, qok, qz, hP, pok, nla, hR, rc, hD, hwhy, kf, kt⟩ := h
    refine ⟨_, PSs.nox (pss_cons (ps_asg (pv 4) (pg_tup rfl (pgs_cons (pg_name (i := 6) sc_is_deed.nd rfl (Or.inl rfl)) (pgs_cons (pg_name (i := 7) sc_is_deed.nd rfl (Or.inl rfl)) (pgs_cons (pg_name (i := 8) sc_is_deed.nd rfl (Or.inl rfl)) pgs_nil)))))
    (pss_cons (ps_set (i := 9) sc_is_deed.nd rfl (Or.inl rfl) (pe_meth (pv 2) T.cl_Queue T.m_Queue_due G_Queue_due (hr.mono (by decide)) T.b_Queue_due .nil pass0 (pa_cons (pv 7) pa_nil)))
    (pss_cons (ps_set (i := 10) sc_is_deed.nd rfl (Or.inl rfl) (pe_call G_wanted (hr.mono (by decide)) rfl T.g_wanted T.F_wanted.kp T.b_wanted .nil pass0 (pa_cons (pv 9) (pa_cons (pe_ix ix_tup (pv 0) pe_int (fun _ _ => rfl)) (pa_cons (pe_ix ix_tup (pv 0) pe_int (fun _ _ => rfl)) pa_nil)))))
    (pss_cons (ps_set (i := 11) sc_is_deed.nd rfl (Or.inl rfl) (pe_call G_limit (hr.mono (by decide)) rfl T.g_limit T.F_limit.kp T.b_limit .nil pass0 (pa_cons (pv 3) (pa_cons (pv 6) (pa_cons (pv 10) (pa_cons (pe_ix ix_tup (pv 0) pe_int (fun _ _ => rfl)) pa_nil))))))
    (pss_cons (ps_set (i := 12) sc_is_deed.nd rfl (Or.inl rfl) (pe_ix ix_tup (pv 5) pe_int (fun _ _ => rfl)))
    (pss_cons (ps_if (PW.pt (pw_or (pt_cmpR (op_neD hr.units) (pe_slice sl_tupA (pv 5) po_none (po_some pe_int)) (pe_tup (pa_cons (pv 6) (pa_cons (pv 7) (pa_cons (pv 8) (pa_cons (pv 9) (pa_cons (pv 10) (pa_cons (pv 11) pa_nil))))))) (nomark _)) (pw_or (pt_cmpR op_lt (pv 12) pe_int (nomark _)) (pw_or1 (pt_cmpR op_gt (pv 12) (pv 11) (nomark _))))))
      (pss_one (ps_ret pe_bl))
      pss_nil)
    (pss_cons (ps_set (i := 13) sc_is_deed.nd rfl (Or.inl rfl) (pe_meth (pv 2) T.cl_Queue T.m_Queue_step G_Queue_step (hr.mono (by decide)) T.b_Queue_step .nil pass0 (pa_cons (pv 7) (pa_cons (pe_op op_mul (pv 12) (pe_ix ix_tup (pv 0) pe_int (fun _ _ => rfl))) pa_nil))))
    (pss_cons (ps_set (i := 14) sc_is_deed.nd rfl (Or.inl rfl) (pe_ix ix_tup (pv 13) pe_int (fun _ _ => rfl)))
    (pss_cons (ps_set (i := 15) sc_is_deed.nd rfl (Or.inl rfl) (pe_callB (call_max2 rfl) (by rfl) T.n_max (by decide +kernel) (pa_cons (pv 12) (pa_cons (pe_call G_limit (hr.mono (by decide)) rfl T.g_limit T.F_limit.kp T.b_limit .nil pass0 (pa_cons (pv 3) (pa_cons (pv 6) (pa_cons (pv 1) (pa_cons (pe_ix ix_tup (pv 0) pe_int (fun _ _ => rfl)) pa_nil))))) pa_nil))))
    (pss_cons (ps_asg (pe_meth (pv 3) T.cl_Pool T.m_Pool_step G_Pool_step (hr.mono (by decide)) T.b_Pool_step .nil pass0 (pa_cons (pv 6) (pa_cons (pv 15) pa_nil))) (pg_tup rfl (pgs_cons (pg_name (i := 16) sc_is_deed.nd rfl (Or.inl rfl)) (pgs_cons (pg_name (i := 17) sc_is_deed.nd rfl (Or.inl rfl)) pgs_nil))))
    (pss_cutK (ps_if (pt_val (pv 8))
      (pss_one (ps_expr (pe_meth0 (pv 3) T.cl_Pool T.m_Pool_end_break G_Pool_end_break (hr.mono (by decide)) T.b_Pool_end_break .nil pass0)))
      pss_nil)
    (pss_cons (ps_set (i := 18) sc_is_deed.nd rfl (Or.inl rfl) (pe_call G_reason (hr.mono (by decide)) rfl T.g_reason T.F_reason.kp T.b_reason .nil pass0 (pa_cons (pv 9) (pa_cons (pv 14) (pa_cons (pv 10) (pa_cons (pv 11) (pa_cons (pv 12) pa_nil)))))))
    (pss_one (ps_ret (pe_cmpR (op_eqD hr.units) (pe_slice sl_tupA (pv 5) (po_some pe_int) po_none) (pe_tup (pa_cons (pv 14) (pa_cons (pe_ix ix_tup (pv 13) pe_int (fun _ _ => rfl)) (pa_cons (pv 18) (pa_cons (pv 15) (pa_cons (pv 16) (pa_cons (pv 17) pa_nil))))))) (nomark _)))))))))))))))), ?_⟩
    obtain ⟨sa, ra, wa, rfl, hsa, hra, hwa⟩ := serv_inv hS
    obtain ⟨rr, rfl, hrr⟩ := row_inv hR
    obtain ⟨da, dsa, rfl, hda, hdsa⟩ := deed_inv hD
    obtain ⟨dx, xs, hq, hl, hxs⟩ := id hQ
    obtain ⟨px, tv, ys, hp, hT, hla, hys⟩ := id hP
    have npq : p ≠ q := (ne_of hq hp queue_ne_pool).symm
    have npl : p ≠ l := ne_of hp hl (by intro z; cases z)
    have nlaq : la ≠ q := ne_of hla hq (by intro z; cases z)
    have nql : q ≠ l := ne_of hq hl (by intro z; cases z)
    have due_nn := QS.due_nn qok s.lag r.came rc
    have w0 := wanted_nn due_nn ok.room.1 ok.most.1
    have w1 := wanted_le (qs.due s.lag r.came) s.room s.most
    have most := ok.most.2
    -- price, came, is_break = row; due; want
    refine ⟨_, rfl, _, _, rfl, hrr, rfl, _, _, rfl, _, _, rfl, _, _, rfl, rfl, ?_⟩
    refine ⟨_, rfl, q, dx, _, rfl, hq, queueF_no _ _ _ _ (by decide +kernel) (by decide +kernel) (by decide +kernel) (by decide +kernel), _, rfl, q, l, s.lag, s.patience, r.came, qs, rfl, hQ, ?_⟩
    refine ⟨_, rfl, _, rfl, _, _, _, _, rfl, rfl, hsa, rfl, _, rfl, _, _, _, _, rfl, rfl, hsa, rfl, _, _, _, rfl, ok.room.1, by have := ok.room.2; omega, ?_⟩
    -- bound = limit(pool, price, want, budget)
    refine ⟨_, rfl, _, rfl, _, rfl, _, rfl, _, _, _, _, rfl, rfl, hsa, rfl, p, la, s.tar, ps, _, _, _, rfl, hP, ok.tar, pok, by omega, by omega, fun H1 s1 => ?_⟩
    -- given = deed[6]
    refine ⟨_, rfl, _, _, _, _, rfl, rfl, Same_t s1 hda, rfl, ?_⟩
    -- if deed[:6] != (..) or given < 0 or given > bound
    refine ⟨_, rfl, _, rfl, da, _, rfl, Same_t s1 hda, fun z => absurd z (by show ¬ (HT.sIx 13 0 none = 0 ∧ HT.sIx 13 13 (some 6) = 13); decide), fun _ p1 np1 => ?_⟩
    have s2 := s1.trans (Same_new (o := .tup (cutV [.int d.price, .int d.came, .bl d.brk, .int d.due, .int d.want, .int d.limit, .int d.given, .int d.run, .int d.dropped, .str d.why, .int d.need, .ref dsa, .int d.cost] none (some 6))) np1)
    refine ⟨_, rfl, _, rfl, _, rfl, _, rfl, _, rfl, _, rfl, tl 6 rfl (by decide), fun p2 np2 => ?_⟩
    have s3 := Same_new (o := .tup [.int r.price, .int r.came, .bl r.brk, .int (qs.due s.lag r.came), .int (wantedI (qs.due s.lag r.came) s.room s.most), .int (ps.lim s.tar r.price (wantedI (qs.due s.lag r.came) s.room s.most) s.budget)]) np2
    have s03 := s2.trans s3
    have hd6 : Dp K (upd (upd H1 p1 (.tup (cutV [.int d.price, .int d.came, .bl d.brk, .int d.due, .int d.want, .int d.limit, .int d.given, .int d.run, .int d.dropped, .str d.why, .int d.need, .ref dsa, .int d.cost] none (some 6)))) p2 (.tup [.int r.price, .int r.came, .bl r.brk, .int (qs.due s.lag r.came), .int (wantedI (qs.due s.lag r.came) s.room s.most), .int (ps.lim s.tar r.price (wantedI (qs.due s.lag r.came) s.room s.most) s.budget)])) (.ref p1) (head6 d) :=
      .tup (xs := [.int d.price, .int d.came, .bl d.brk, .int d.due, .int d.want, .int d.limit]) (Same_t s3 (SqT.of upd_same)) (.cons (.int _) (.cons (.int _) (.cons (.bl _) (.cons (.int _) (.cons (.int _) (.cons (.int _) .nil))))))
    refine ⟨head6 d, head6 (deedOf s least qs ps r d.given), hd6, .tup (SqT.of upd_same) (.cons (.int _) (.cons (.int _) (.cons (.bl _) (.cons (.int _) (.cons (.int _) (.cons (.int _) .nil)))))), head6_shaped _, head6_shaped _, _, rfl, ?_⟩
    generalize hH3 : upd (upd H1 p1 (.tup (cutV [.int d.price, .int d.came, .bl d.brk, .int d.due, .int d.want, .int d.limit, .int d.given, .int d.run, .int d.dropped, .str d.why, .int d.need, .ref dsa, .int d.cost] none (some 6)))) p2 (.tup [.int r.price, .int r.came, .bl r.brk, .int (qs.due s.lag r.came), .int (wantedI (qs.due s.lag r.came) s.room s.most), .int (ps.lim s.tar r.price (wantedI (qs.due s.lag r.came) s.room s.most) s.budget)]) = H3 at s03 ⊢
    unfold isDeedB at kf kt
    have b03 : ∀ {H'}, Same H H' → But3 q l p H H' := fun e b o h _ _ _ => e _ _ h
    cases he : PyData.eqv (head6 d) (head6 (deedOf s least qs ps r d.given)) with
    | false =>
      rw [he, Bool.false_and] at kf
      exact iteT (iteT (kf rfl _ (b03 s03) (Same_alive s03)))
    | true =>
      rw [he, Bool.true_and] at kf kt
      refine iteF ⟨_, rfl, _, _, rfl, rfl, _, rfl, ?_⟩
      refine ite2 (fun h => ?_) (fun h => ?_)
      · rw [show decide (d.given < 0) = true from h, Bool.not_true, Bool.false_and] at kf
        exact iteT (kf rfl _ (b03 s03) (Same_alive s03))
      · rw [show decide (d.given < 0) = false from Bool.eq_false_iff.mpr h, Bool.not_false, Bool.true_and] at kf kt
        refine ⟨_, rfl, _, rfl, _, _, rfl, rfl, _, rfl, ?_⟩
        refine ite2 (fun h2 => ?_) (fun h2 => ?_)
        · rw [show decide ((deedOf s least qs ps r d.given).limit < d.given) = true from h2, Bool.not_true, Bool.false_and] at kf
          exact kf rfl _ (b03 s03) (Same_alive s03)
        · rw [show decide ((deedOf s least qs ps r d.given).limit < d.given) = false from Bool.eq_false_iff.mpr h2, Bool.not_false, Bool.true_and] at kf kt
          -- moment = queue.step(came, given * service[1]); run = moment[2]
          have hQ3 := hQ.same s03
          refine ⟨_, rfl, q, dx, _, rfl, s03 _ _ hq, queueF_no _ _ _ _ (by decide +kernel) (by decide +kernel) (by decide +kernel) (by decide +kernel), _, rfl, _, rfl, _, rfl, _, _, _, _, rfl, rfl, Same_t s03 hsa, rfl, _, _, rfl, rfl, .inr (by have := ok.room; omega), ?_⟩
          refine ⟨q, l, s.lag, s.patience, r.came, _, qs, rfl, hQ3, qz, fun H4 l4 r4 hQ4 b4 al4 nl4 nr4 hr4 => ?_⟩
          have u4 : Tups H3 H4 := QueueAt.two hQ3 b4
          have hP4 : PoolAt T H4 p la s.tar ps := PoolAt.keep (hP.same s03) u4 (fun o h => b4 _ _ h npq npl) (fun o h => b4 _ _ h nlaq nla.symm)
          obtain ⟨dx4, xs4, hq4, hl4, hxs4⟩ := id hQ4
          have nl4p : l4 ≠ p := fun z => by rw [z, s03 _ _ hp] at nl4; cases nl4
          refine ⟨_, rfl, _, _, _, _, rfl, rfl, hr4, rfl, ?_⟩
          -- need = max(given, limit(pool, price, least, budget))
          have u04 : Tups H H4 := (Same.tups s03).trans u4
          refine ⟨_, rfl, _, rfl, _, rfl, _, rfl, _, rfl, _, _, _, _, rfl, rfl, Tups_t u04 hsa, rfl, p, la, s.tar, ps, _, _, _, rfl, hP4, ok.tar, pok, by omega, by omega, fun H5 s5 => ⟨_, _, rfl, ?_⟩⟩
          -- states, cost = pool.step(price, need)
          have hP5 := hP4.same s5
          obtain ⟨px5, tv5, ys5, hp5, hT5, hla5, hys5⟩ := id hP5
          refine ⟨_, rfl, p, px5, _, rfl, hp5, poolF_no _ _ _ (by decide +kernel) (by decide +kernel) (by decide +kernel), _, rfl, _, rfl, p, la, s.tar, ps, _, _, rfl, hP5, ok.tar, pok, fun H6 r6 t6 la6 hP6 b6 nla6 nr6 hr6 ht6 => ?_⟩
          have u6 : Tups H5 H6 := But.tups hp5 rfl b6
          refine ⟨_, _, rfl, hr6, rfl, _, _, rfl, _, _, rfl, rfl, ?_⟩
          have hQ6 : QueueAt T H6 q l4 s.lag s.patience (nextQ s qs r d.given) := QueueAt.keep (hQ4.same s5) u6 (fun o h => b6 _ _ h npq.symm) (fun o h => b6 _ _ h nl4p)
          have al5 : Alive H H5 := (Same_alive s03).trans (al4.trans (Same_alive s5))
          obtain ⟨px6, tv6, ys6, hp6, hT6, hla6, hys6⟩ := id hP6
          have al6 : Alive H H6 := al5.trans (Alive.of1 b6 hp6)
          have bb6 : But3 q l p H H6 := fun b o e h1 h2 h3 => b6 _ _ (s5 _ _ (b4 _ _ (s03 _ _ e) h1 h2)) h3
          have nl46 : l4 ≠ la6 := fun z => by
            rw [← z, s5 _ _ hl4] at nla6
            cases nla6
          -- if is_break: pool.end_break()
          refine ⟨fun σ' H7 => ∃ la7, σ' = [some (.ref sa), some (.int least), some (.ref q), some (.ref p), some (.ref rr), some (.ref da), some (.int r.price), some (.int r.came), some (.bl r.brk), some (.int (deedOf s least qs ps r d.given).due), some (.int (deedOf s least qs ps r d.given).want), some (.int (deedOf s least qs ps r d.given).limit), some (.int d.given),
            some (.ref r4), some (.int (deedOf s least qs ps r d.given).run), some (.int (deedOf s least qs ps r d.given).need), some (.ref t6), some (.int (deedOf s least qs ps r d.given).cost), none] ∧
            QueueAt T H7 q l4 s.lag s.patience (nextQ s qs r d.given) ∧ PoolAt T H7 p la7 s.tar (nextP s least ps r d.given) ∧ l4 ≠ la7 ∧ But3 q l p H H7 ∧ Alive H H7 ∧ H la7 = none ∧ Tups H6 H7, ?_, ?_⟩
          · refine ⟨_, rfl, _, rfl, ?_⟩
            cases hb : r.brk with
            | true =>
              refine iteT ⟨_, rfl, p, px6, _, rfl, hp6, poolF_no _ _ _ (by decide +kernel) (by decide +kernel) (by decide +kernel), p, la6, s.tar, _, rfl, hP6, fun H7 la7 hP7 b7 nla7 => ?_⟩
              have u7 : Tups H6 H7 := But.tups hp6 rfl b7
              obtain ⟨dx6, xs6, hq6, hl6, hxs6⟩ := id hQ6
              obtain ⟨px7, tv7, ys7, hp7, hT7, hla7, hys7⟩ := id hP7
              refine ⟨la7, rfl, QueueAt.keep hQ6 u7 (fun o h => b7 _ _ h npq.symm) (fun o h => b7 _ _ h nl4p), ?_, ?_, fun b o e h1 h2 h3 => b7 _ _ (bb6 _ _ e h1 h2 h3) h3, al6.trans (Alive.of1 b7 hp7), al6 _ nla7, u7⟩
              · unfold nextP
                rw [if_pos hb]
                exact hP7
              · intro z
                rw [← z, hl6] at nla7
                cases nla7
            | false =>
              refine iteF ⟨la6, rfl, hQ6, ?_, nl46, bb6, al6, al5 _ nla6, Tups.refl _⟩
              unfold nextP
              rw [if_neg (by rw [hb]; decide)]
              exact hP6
          · rintro σ' H7 ⟨la7, rfl, hQ7, hP7, nl47, bb7, al7, nla7, u7⟩
            -- why = reason(..); return deed[7:] == (..)
            have u47 : Tups H4 H7 := (Same.tups s5).trans (u6.trans u7)
            have u07 : Tups H H7 := u04.trans u47
            refine ⟨_, rfl, _, rfl, _, rfl, _, rfl, _, rfl, _, _, _, _, _, rfl, ?_⟩
            refine ⟨_, rfl, _, rfl, da, _, rfl, Tups_t u07 hda, fun z => absurd z (by show ¬ (HT.sIx 13 0 (some 7) = 0 ∧ HT.sIx 13 13 none = 13); decide), fun _ p3 np3 => ?_⟩
            have s8 := Same_new (o := .tup (cutV [.int d.price, .int d.came, .bl d.brk, .int d.due, .int d.want, .int d.limit, .int d.given, .int d.run, .int d.dropped, .str d.why, .int d.need, .ref dsa, .int d.cost] (some 7) none)) np3
            refine ⟨_, rfl, _, rfl, _, _, _, _, rfl, rfl, Same_t s8 (Tups_t u47 hr4), rfl, _, rfl, _, rfl, _, rfl, _, rfl, tl 6 rfl (by decide), fun p4 np4 => ?_⟩
            have s9 := Same_new (o := .tup [.int (deedOf s least qs ps r d.given).run, .int (deedOf s least qs ps r d.given).dropped, .str (deedOf s least qs ps r d.given).why, .int (deedOf s least qs ps r d.given).need, .ref t6, .int (deedOf s least qs ps r d.given).cost]) np4
            have s79 := s8.trans s9
            refine ⟨tail6 d, tail6 (deedOf s least qs ps r d.given), ?_, ?_, tail6_shaped _ hwhy, tail6_shaped _ (reason_ok _ _ _ _ _), ?_⟩
            · exact .tup (xs := [.int d.run, .int d.dropped, .str d.why, .int d.need, .ref dsa, .int d.cost]) (Same_t s9 (SqT.of upd_same)) (.cons (.int _) (.cons (.int _) (.cons (.str _) (.cons (.int _) (.cons (ints_of (Same_t s79 (Tups_t u07 hdsa))) (.cons (.int _) .nil))))))
            · exact .tup (SqT.of upd_same) (.cons (.int _) (.cons (.int _) (.cons (.str _) (.cons (.int _) (.cons (ints_of (Same_t s79 (Tups_t u7 ht6))) (.cons (.int _) .nil))))))
            · cases ht : PyData.eqv (tail6 d) (tail6 (deedOf s least qs ps r d.given)) with
              | true => exact kt ht _ l4 la7 (hQ7.same s79) (hP7.same s79) nl47 (fun b o e h1 h2 h3 => s79 _ _ (bb7 _ _ e h1 h2 h3)) (al7.trans (Same_alive s79)) ((Same_alive s03) _ nl4) nla7
              | false => exact kf ht _ (fun b o e h1 h2 h3 => s79 _ _ (bb7 _ _ e h1 h2 h3)) (al7.trans (Same_alive s79))
end
end K65
set_option Elab.async false
set_option linter.all false
set_option maxRecDepth 100000
set_option maxHeartbeats 4000000
namespace K65
open PySem L2
abbrev Led := List (List Row)
abbrev Recd := List (List Deed)
def shapeB (n : Nat) (led : Led) (rec : Recd) : Bool := decide (rec.length = led.length) && rec.all fun m => decide (m.length = n)
def shareB (S : Sett) (m : List Deed) : Bool := accS S.quota (m.map fun d => d.limit) (S.servs.map fun s => s.weight) (m.map fun d => d.given)
def deedsF (S : Sett) (s : Serv) (k : Nat) : Nat → QS → PoolS → Led → Recd → Bool
  | now, q, p, e :: es, m :: ms =>
    isDeedB s (keptF S.keeps s.name (now : Int)) q p (e.getD k default) (m.getD k default) &&
      deedsF S s k (now + 1) (nextQ s q (e.getD k default) (m.getD k default).given) (nextP s (keptF S.keeps s.name (now : Int)) p (e.getD k default) (m.getD k default).given) es ms
  | _, _, _, _, _ => true
def servAt (S : Sett) (k : Nat) : Serv := S.servs.getD k ⟨"", 1, 0, 0, 1, 0, 0, ⟨[], [0]⟩⟩
def deedsB (S : Sett) (led : Led) (rec : Recd) (k : Nat) : Bool := deedsF S (servAt S k) k 0 ⟨[], 0⟩ (PoolS.new (servAt S k).tar) led rec
def accB (S : Sett) (led : Led) (rec : Recd) : Bool :=
  shapeB S.servs.length led rec && (rec.all (shareB S) && (List.range S.servs.length).all (deedsB S led rec))
structure Sett.Ok (S : Sett) : Prop where
  quota : 0 ≤ S.quota ∧ S.quota ≤ 1000
  servs : ∀ s ∈ S.servs, s.Ok
  few : S.servs.length ≤ 10
  keeps : ∀ k ∈ S.keeps, 0 < k.period ∧ 0 ≤ k.least ∧ k.least ≤ 1000
structure LedOk (n : Nat) (led : Led) : Prop where
  len : led.length ≤ 500
  each : ∀ e ∈ led, e.length = n ∧ ∀ r ∈ e, (1 ≤ r.price ∧ r.price ≤ 100) ∧ 0 ≤ r.came ∧ r.came ≤ 1000
structure RecOk (rec : Recd) : Prop where
  len : rec.length ≤ 500
  each : ∀ m ∈ rec, m.length ≤ 1000 ∧ ∀ d ∈ m, PyData.strOk d.why = true
theorem servAt_eq {S : Sett} {k : Nat} {s : Serv} (h : S.servs[k]? = some s) : servAt S k = s := by
  unfold servAt
  rw [List.getD_eq_getElem?_getD, h]
  rfl
theorem getD_some {α : Type} {xs : List α} {i : Nat} {x d : α} (h : xs[i]? = some x) : xs.getD i d = x := by
  rw [List.getD_eq_getElem?_getD, h]
  rfl
theorem at_of_lt {α : Type} {xs : List α} {i : Nat} (h : i < xs.length) : ∃ x, xs[i]? = some x := ⟨xs[i], List.getElem?_eq_getElem h⟩
section
variable {P : Program} {w : World} {K : PySem.W.Frag} {mg : Str → Option Value} {base : Heap} {H H1 : Hp}
def sp_has_shape (T : Ctx K mg) : Sp := fun vs H Q _ => ∃ sv lv rv S led rec, vs = [sv, lv, rv] ∧ Dp K H sv (dSett S) ∧ Dp K H lv (dLed led) ∧ Dp K H rv (dRec rec) ∧ rec.length ≤ 1000 ∧
  ∀ H', Same H H' → Q (.bl (shapeB S.servs.length led rec)) H'
theorem ok_has_shape (T : Ctx K mg) : FnOk P w K mg base CX0 1 T.a_has_shape T.fd_has_shape ["setting", "ledger", "record"] (sp_has_shape T) := by
  refine T.F_has_shape.ok sc_has_shape (fun vs H Q E h => ?_) (fun cdv A outer s H vs Q E hr h => ?_)
  · obtain ⟨sv, lv, rv, S, led, rec, rfl, hS, hL, hR, hz, k⟩ := h
    rfl
  · obtain ⟨sv, lv, rv, S, led, rec, rfl, hS, hL, hR, hz, k⟩ := h
    refine ⟨_, PSs.nox (pss_cons (ps_if (pt_cmpR op_ne (pe_callB call_len_seq (by rfl) T.n_len (by decide +kernel) (pa_cons (pv 2) pa_nil)) (pe_callB call_len_seq (by rfl) T.n_len (by decide +kernel) (pa_cons (pv 1) pa_nil)) (nomark _))
      (pss_one (ps_ret pe_bl))
      pss_nil)
    (pss_one (ps_ret (pe_callB (cr_all rfl) (by rfl) T.n_all (by decide +kernel) (pa_cons (pe_lc (own := [("moment", 3)]) rfl sc_has_shape.nd (pi_list (pv 2)) (blkOk_by (N := N_has_shape) (sc := defScope s_has_shape) (own := [("moment", 3)]) (by decide +kernel)) (fun _ _ _ _ _ => (pg_name (i := 3) sc_has_shape.nd rfl (Or.inl rfl))) (fun _ _ _ _ _ => pts_nil) (fun _ _ _ _ _ => (pe_cmpR op_eq (pe_callB (call_len_seqK (K := K) rfl) (by rfl) T.n_len (by decide +kernel) (pa_cons (pv 3) pa_nil)) (pe_callB (call_len_seqK (K := K) rfl) (by rfl) T.n_len (by decide +kernel) (pa_cons (pe_ix (ix_tupK (K := K) rfl) (pv 0) pe_int (fun _ _ => rfl)) pa_nil)) (nomark _)))) pa_nil))))), ?_⟩
    obtain ⟨a, sa, ka, ss, ks, rfl, h1, h2, h3, h4, h5⟩ := sett_inv hS
    obtain ⟨la, ls, rfl, hl, hls⟩ := dp_lst hL
    obtain ⟨ra, rs, rfl, hr, hrs⟩ := dp_lst hR
    have e1 : ls.length = led.length := by rw [dpa_len hls, List.length_map]
    have e2 : rs.length = rec.length := by rw [dpa_len hrs, List.length_map]
    have e3 : ss.length = S.servs.length := by rw [dpa_len h3, List.length_map]
    unfold shapeB at k
    refine ⟨_, rfl, _, _, rfl, .inl hr, _, rfl, _, _, rfl, .inl hl, rfl, _, rfl, ?_⟩
    by_cases e : rec.length = led.length
    · rw [decide_eq_true (show V.int (rs.length : Int) = V.int (ls.length : Int) by rw [e1, e2, e])]
      rw [decide_eq_true e, Bool.true_and] at k
      refine iteF ⟨_, rfl, ra, rfl, ⟨rs, hr⟩, fun D nD => ?_⟩
      refine lc_list (xs := rs) (fun i H' => Same H H' ∧ H' D = some (.lst (((rec.take i).map fun m => decide (m.length = S.servs.length)).map V.bl))) ⟨Same_new nD, upd_same⟩ (fun i H' _ p => Same_l p.1 hr) ?_ ?_
      · rintro i x H' hi ⟨s, hD⟩
        obtain ⟨m, hm, hd⟩ := dpa_map_at hrs hi
        obtain ⟨ma, ms, rfl, q1, q2⟩ := dp_lst hd
        have e4 : ms.length = m.length := by rw [dpa_len q2, List.length_map]
        have il : i < rec.length := (List.getElem?_eq_some_iff.mp hm).1
        refine ⟨rfl, _, rfl, _, _, rfl, .inl (Same_l s q1), _, rfl, _, _, _, _, rfl, rfl, Same_t s h1, rfl, _, _, rfl, .inr (Same_t s h2), rfl, _, hD, less_of ?_, Same_mut s nD, ?_⟩
        · rw [List.length_map, List.length_map, List.length_take]
          omega
        · rw [take_snoc hm, List.map_append, List.map_append]
          have e5 : decide (V.int (ms.length : Int) = V.int (ss.length : Int)) = decide (m.length = S.servs.length) := by
            rw [e3, e4]
            by_cases q : m.length = S.servs.length
            · rw [decide_eq_true q, decide_eq_true (by rw [q])]
            · rw [decide_eq_false q, decide_eq_false (fun z => q (by injection z; omega))]
          rw [e5]
          exact upd_same
      · rintro H' ⟨s, hD⟩
        rw [e2, List.take_length] at hD
        refine ⟨D, _, rfl, SqL.of hD, ?_⟩
        rw [List.all_map]
        exact k _ s
    · rw [decide_eq_false (show ¬ V.int (rs.length : Int) = V.int (ls.length : Int) from fun z => e (by injection z; omega))]
      rw [decide_eq_false e, Bool.false_and] at k
      exact iteT (k _ (Same.refl H))
def sp_are_shares (T : Ctx K mg) : Sp := fun vs H Q _ => ∃ sv mv S m, vs = [sv, mv] ∧ Dp K H sv (dSett S) ∧ S.Ok ∧ Dp K H mv (dMom m) ∧ m.length = S.servs.length ∧
  ∀ H', Same H H' → Q (.bl (shareB S m)) H'
theorem ok_are_shares (T : Ctx K mg) : FnOk P w K mg base CX0 3 T.a_are_shares T.fd_are_shares ["setting", "moment"] (sp_are_shares T) := by
  have G_accepts_shares := ok_accepts_shares (P := P) (w := w) (base := base) T
  refine T.F_are_shares.ok sc_are_shares (fun vs H Q E h => ?_) (fun cdv A outer s H vs Q E hr h => ?_)
  · obtain ⟨sv, mv, S, m, rfl, hS, ok, hM, hlen, k⟩ := h
    rfl
  · obtain ⟨sv, mv, S, m, rfl, hS, ok, hM, hlen, k⟩ := h
    refine ⟨_, PSs.nox (pss_cons (ps_setLc (i := 2) (own := [("service", 3)]) rfl sc_are_shares.nd rfl rfl (sw_true rfl rfl rfl (by decide +kernel)) (pi_tup (pe_ix ix_tup (pv 0) pe_int (fun _ _ => rfl))) (blkOk_by (N := N_are_shares) (sc := defScope s_are_shares) (own := [("service", 3)]) (by decide +kernel)) (fun _ _ _ _ _ => (pg_name (i := 3) sc_are_shares.nd rfl (Or.inl rfl))) (fun _ _ _ _ _ => pts_nil) (fun _ _ _ _ _ => (pe_ix (ix_tupK (K := K) rfl) (pv 3) pe_int (fun _ _ => rfl))))
    (pss_one (ps_ret (pe_call G_accepts_shares (hr.mono (by decide)) rfl T.g_accepts_shares T.F_accepts_shares.kp T.b_accepts_shares .nil pass0 (pa_cons (pe_ix ix_tup (pv 0) pe_int (fun _ _ => rfl)) (pa_cons (pe_lc (own := [("deed", 4)]) rfl sc_are_shares.nd (pi_list (pv 1)) (blkOk_by (N := N_are_shares) (sc := defScope s_are_shares) (own := [("deed", 4)]) (by decide +kernel)) (fun _ _ _ _ _ => (pg_name (i := 4) sc_are_shares.nd rfl (Or.inl rfl))) (fun _ _ _ _ _ => pts_nil) (fun _ _ _ _ _ => (pe_ix (ix_tupK (K := K) rfl) (pv 4) pe_int (fun _ _ => rfl)))) (pa_cons (pv 2) (pa_cons (pe_lc (own := [("deed", 4)]) rfl sc_are_shares.nd (pi_list (pv 1)) (blkOk_by (N := N_are_shares) (sc := defScope s_are_shares) (own := [("deed", 4)]) (by decide +kernel)) (fun _ _ _ _ _ => (pg_name (i := 4) sc_are_shares.nd rfl (Or.inl rfl))) (fun _ _ _ _ _ => pts_nil) (fun _ _ _ _ _ => (pe_ix (ix_tupK (K := K) rfl) (pv 4) pe_int (fun _ _ => rfl)))) pa_nil)))))))), ?_⟩
    obtain ⟨a, sa, ka, ss, ks, rfl, h1, h2, h3, h4, h5⟩ := sett_inv hS
    obtain ⟨ma, ms, rfl, hm, hms⟩ := dp_lst hM
    have e3 : ss.length = S.servs.length := by rw [dpa_len h3, List.length_map]
    have e4 : ms.length = m.length := by rw [dpa_len hms, List.length_map]
    have few := ok.few
    -- weights
    refine ⟨_, rfl, _, _, _, _, rfl, rfl, h1, rfl, sa, rfl, ⟨ss, h2⟩, fun D nD => ?_⟩
    refine lc_tup (xs := ss) (fun i H' => Same H H' ∧ H' D = some (.lst (((S.servs.map fun s => s.weight).take i).map V.int))) ⟨Same_new nD, upd_same⟩ (fun i H' _ p => Same_t p.1 h2) ?_ ?_
    · rintro i x H' hi ⟨s, hD⟩
      obtain ⟨v, hv, hd⟩ := dpa_map_at h3 hi
      obtain ⟨va, ra, wa, rfl, q1, q2, q3⟩ := serv_inv hd
      have il : i < S.servs.length := (List.getElem?_eq_some_iff.mp hv).1
      refine ⟨rfl, _, rfl, _, _, _, _, rfl, rfl, Same_t s q1, rfl, _, hD, less_of ?_, Same_mut s nD, ?_⟩
      · rw [List.length_map, List.length_take]
        omega
      · rw [take_snoc (x := v.weight) (by rw [List.getElem?_map, hv]; rfl), List.map_append]
        exact upd_same
    · rintro H1 ⟨s1, hD⟩
      have eD : (S.servs.map fun s => s.weight).take ss.length = S.servs.map fun s => s.weight := List.take_of_length_le (by rw [List.length_map, e3]; exact Nat.le_refl _)
      rw [eD] at hD
      refine ⟨_, rfl, _, _, _, _, rfl, rfl, Same_t s1 h1, rfl, ?_⟩
      -- [deed[5] for deed in moment]
      refine ⟨_, rfl, ma, rfl, ⟨ms, Same_l s1 hm⟩, fun E nE => ?_⟩
      refine lc_list (xs := ms) (fun i H' => Same H1 H' ∧ H' E = some (.lst (((m.map fun d => d.limit).take i).map V.int))) ⟨Same_new nE, upd_same⟩ (fun i H' _ p => Same_l (s1.trans p.1) hm) ?_ ?_
      · rintro i x H' hi ⟨s, hE⟩
        obtain ⟨d, hd0, hd⟩ := dpa_map_at hms hi
        obtain ⟨da, dsa, rfl, q1, q2⟩ := deed_inv hd
        have il : i < m.length := (List.getElem?_eq_some_iff.mp hd0).1
        refine ⟨rfl, _, rfl, _, _, _, _, rfl, rfl, Same_t (s1.trans s) q1, rfl, _, hE, less_of ?_, Same_mut s nE, ?_⟩
        · rw [List.length_map, List.length_take]
          omega
        · rw [take_snoc (x := d.limit) (by rw [List.getElem?_map, hd0]; rfl), List.map_append]
          exact upd_same
      · rintro H2 ⟨s2, hE⟩
        have eE : (m.map fun d => d.limit).take ms.length = m.map fun d => d.limit := List.take_of_length_le (by rw [List.length_map, e4]; exact Nat.le_refl _)
        rw [eE] at hE
        refine ⟨_, rfl, ?_⟩
        -- [deed[6] for deed in moment]
        refine ⟨_, rfl, ma, rfl, ⟨ms, Same_l (s1.trans s2) hm⟩, fun G nG => ?_⟩
        refine lc_list (xs := ms) (fun i H' => Same H2 H' ∧ H' G = some (.lst (((m.map fun d => d.given).take i).map V.int))) ⟨Same_new nG, upd_same⟩ (fun i H' _ p => Same_l ((s1.trans s2).trans p.1) hm) ?_ ?_
        · rintro i x H' hi ⟨s, hG⟩
          obtain ⟨d, hd0, hd⟩ := dpa_map_at hms hi
          obtain ⟨da, dsa, rfl, q1, q2⟩ := deed_inv hd
          have il : i < m.length := (List.getElem?_eq_some_iff.mp hd0).1
          refine ⟨rfl, _, rfl, _, _, _, _, rfl, rfl, Same_t ((s1.trans s2).trans s) q1, rfl, _, hG, less_of ?_, Same_mut s nG, ?_⟩
          · rw [List.length_map, List.length_take]
            omega
          · rw [take_snoc (x := d.given) (by rw [List.getElem?_map, hd0]; rfl), List.map_append]
            exact upd_same
        · rintro H3 ⟨s3, hG⟩
          have eG : (m.map fun d => d.given).take ms.length = m.map fun d => d.given := List.take_of_length_le (by rw [List.length_map, e4]; exact Nat.le_refl _)
          rw [eG] at hG
          refine ⟨S.quota, E, D, G, List.map (fun d : Deed => d.limit) m, List.map (fun s : Serv => s.weight) S.servs, List.map (fun d : Deed => d.given) m, rfl, SqL.of (s3 _ _ hE), SqL.of (s3 _ _ (s2 _ _ hD)), SqL.of hG, ⟨fun w hw => ?_⟩, ?_, ?_, ?_, fun H4 s4 => k _ (((s1.trans s2).trans s3).trans s4)⟩
          · obtain ⟨v, hv, rfl⟩ := List.mem_map.mp hw
            have := (ok.servs v hv).weight
            omega
          · rw [List.length_map, List.length_map, hlen]
          · rw [List.length_map, List.length_map]
          · rw [List.length_map]
            omega
theorem Same_but3 {H0 : Hp} {q l p : Addr} (e : Same H0 H) (b : But3 q l p H H1) (nq : H0 q = none) (nl : H0 l = none) (np : H0 p = none) : Same H0 H1 := fun c o h =>
  b c o (e _ _ h) (ne_of_none h nq) (ne_of_none h nl) (ne_of_none h np)
def sp_are_deeds (T : Ctx K mg) : Sp := fun vs H Q _ => ∃ sv lv rv S led rec, ∃ k : Nat, vs = [sv, lv, rv, .int (k : Int)] ∧ Dp K H sv (dSett S) ∧ S.Ok ∧ Dp K H lv (dLed led) ∧ LedOk S.servs.length led ∧ Dp K H rv (dRec rec) ∧ RecOk rec ∧
  rec.length = led.length ∧ (∀ m ∈ rec, m.length = S.servs.length) ∧ k < S.servs.length ∧ ∀ H', Same H H' → Q (.bl (deedsB S led rec k)) H'
theorem ok_are_deeds (T : Ctx K mg) : FnOk P w K mg base CX0 10 T.a_are_deeds T.fd_are_deeds ["setting", "ledger", "record", "k"] (sp_are_deeds T) := by
  have G_Queue_init := ok_Queue_init (P := P) (w := w) (base := base) T
  have G_Pool_init := ok_Pool_init (P := P) (w := w) (base := base) T
  have G_kept := ok_kept (P := P) (w := w) (base := base) T
  have G_is_deed := ok_is_deed (P := P) (w := w) (base := base) T
  refine T.F_are_deeds.ok sc_are_deeds (fun vs H Q E h => ?_) (fun cdv A outer s H vs Q E hr h => ?_)
  · obtain ⟨sv, lv, rv, S, led, rec, k, rfl, hS, ok, hL, lok, hR, rok, hlen, hall, hk, kk⟩ := h
    rfl
  · obtain ⟨sv, lv, rv, S, led, rec, k, rfl, hS, ok, hL, lok, hR, rok, hlen, hall, hk, kk⟩ := h
    refine ⟨_, PSs.nox (pss_cons (ps_set (i := 4) sc_are_deeds.nd rfl (Or.inl rfl) (pe_ix ix_tup (pe_ix ix_tup (pv 0) pe_int (fun _ _ => rfl)) (pv 3) (fun _ _ => rfl)))
    (pss_cons (ps_set (i := 5) sc_are_deeds.nd rfl (Or.inl rfl) (pe_make T.mk_Queue G_Queue_init (hr.mono (by decide)) rfl T.g_Queue T.b_Queue_init .nil pass0 (pa_cons (pe_ix ix_tup (pv 4) pe_int (fun _ _ => rfl)) (pa_cons (pe_ix ix_tup (pv 4) pe_int (fun _ _ => rfl)) pa_nil))))
    (pss_cons (ps_set (i := 6) sc_are_deeds.nd rfl (Or.inl rfl) (pe_make T.mk_Pool G_Pool_init (hr.mono (by decide)) rfl T.g_Pool T.b_Pool_init .nil pass0 (pa_cons (pe_tup (pa_cons (pe_ix ix_tup (pv 4) pe_int (fun _ _ => rfl)) (pa_cons (pe_ix ix_tup (pv 4) pe_int (fun _ _ => rfl)) pa_nil))) pa_nil)))
    (pss_cons (ps_for PassesOwn.never rfl (pi_enumZip rfl T.n_enumerate rfl T.n_zip (pa_cons (pv 1) (pa_cons (pv 2) pa_nil))) (pg_tup rfl (pgs_cons (pg_name (i := 7) sc_are_deeds.nd rfl (Or.inl rfl)) (pgs_cons (pg_tup rfl (pgs_cons (pg_name (i := 8) sc_are_deeds.nd rfl (Or.inl rfl)) (pgs_cons (pg_name (i := 9) sc_are_deeds.nd rfl (Or.inl rfl)) pgs_nil))) pgs_nil)))
      (pss_cons (ps_set (i := 10) sc_are_deeds.nd rfl (Or.inl rfl) (pe_call G_kept (hr.mono (by decide)) rfl T.g_kept T.F_kept.kp T.b_kept .nil pass0 (pa_cons (pv 0) (pa_cons (pe_ix ix_tup (pv 4) pe_int (fun _ _ => rfl)) (pa_cons (pv 7) pa_nil)))))
      (pss_one (ps_if (pt_not (pt_val (pe_call G_is_deed (hr.mono (by decide)) rfl T.g_is_deed T.F_is_deed.kp T.b_is_deed .nil pass0 (pa_cons (pv 4) (pa_cons (pv 10) (pa_cons (pv 5) (pa_cons (pv 6) (pa_cons (pe_ix ix_list (pv 8) (pv 3) (fun _ _ => rfl)) (pa_cons (pe_ix ix_list (pv 9) (pv 3) (fun _ _ => rfl)) pa_nil)))))))))
        (pss_one (ps_ret pe_bl))
        pss_nil))))
    (pss_one (ps_ret pe_bl)))))), ?_⟩
    obtain ⟨a, sa, ka, ss, ks, rfl, h1, h2, h3, h4, h5⟩ := sett_inv hS
    obtain ⟨la, ls, rfl, hl, hls⟩ := dp_lst hL
    obtain ⟨ra, rs, rfl, hr, hrs⟩ := dp_lst hR
    have e1 : ls.length = led.length := by rw [dpa_len hls, List.length_map]
    have e2 : rs.length = rec.length := by rw [dpa_len hrs, List.length_map]
    obtain ⟨s, hs⟩ := at_of_lt hk
    have sok : s.Ok := ok.servs s (List.mem_of_getElem? hs)
    have hB : deedsB S led rec k = deedsF S s k 0 ⟨[], 0⟩ (PoolS.new s.tar) led rec := by
      unfold deedsB
      rw [servAt_eq hs]
    obtain ⟨v, hv, hdv⟩ := dpa_get (d := dServ s) h3 (by rw [List.getElem?_map, hs]; rfl)
    obtain ⟨va, tra, twa, rfl, q1, q2, q3⟩ := serv_inv hdv
    -- service = setting[1][k]
    refine ⟨_, rfl, _, _, _, _, rfl, rfl, h1, rfl, _, rfl, _, _, _, _, rfl, rfl, h2, atI_nat hv, ?_⟩
    -- queue = Queue(service[2], service[3])
    refine ⟨_, rfl, _, _, _, _, rfl, rfl, q1, rfl, _, rfl, _, _, _, _, rfl, rfl, q1, rfl, fun q dq nq ndq ndqq => ?_⟩
    refine ⟨q, dq, s.lag, s.patience, rfl, upd_same, fun H1 l hQ1 b1 nl1 => ⟨rfl, ?_⟩⟩
    have s1 : Same H H1 := Same.made nq ndq b1
    have nl : H l = none := by
      have e : Same H (upd (upd H dq (.own q)) q (.ins T.c_Queue dq [])) := fun b o h => by
        rw [upd_ne (ne_of_none h nq), upd_ne (ne_of_none h ndq)]
        exact h
      exact e.free nl1
    -- pool = Pool((service[7], service[8]))
    refine ⟨_, rfl, _, _, _, _, rfl, rfl, Same_t s1 q1, rfl, _, rfl, _, _, _, _, rfl, rfl, Same_t s1 q1, rfl, tl 2 rfl (by decide), fun tp ntp => ?_⟩
    have s2 := Same_new (o := .tup [.ref tra, .ref twa]) ntp
    have s02 := s1.trans s2
    intro p dp np ndp ndpp
    have s3 : Same (upd H1 tp (.tup [.ref tra, .ref twa])) (upd (upd (upd H1 tp (.tup [.ref tra, .ref twa])) dp (.own p)) p (.ins T.c_Pool dp [])) := fun b o h => by
      rw [upd_ne (ne_of_none h np), upd_ne (ne_of_none h ndp)]
      exact h
    refine ⟨p, dp, .ref tp, s.tar, rfl, upd_same, ⟨tp, tra, twa, rfl, Same_t s3 (SqT.of upd_same), Same_t (s02.trans s3) q2, Same_t (s02.trans s3) q3⟩, fun H2 pa hP2 b2 npa => ⟨rfl, ?_⟩⟩
    have s4 : Same (upd H1 tp (.tup [.ref tra, .ref twa])) H2 := Same.made np ndp b2
    have s14 : Same H1 H2 := s2.trans s4
    have s04 : Same H H2 := s1.trans s14
    have np0 : H p = none := s02.free np
    have npa1 : H1 pa = none := (s2.trans s3).free npa
    obtain ⟨dx1, xs1, hq1, hl1, hxs1⟩ := id hQ1
    have nlpa : l ≠ pa := ne_of_none hl1 npa1
    -- for now, (entry, moment) in enumerate(zip(ledger, record))
    refine ⟨_, rfl, _, rfl, la, ra, ls, rs, rfl, Same_l s04 hl, Same_l s04 hr, for_it (walk_ez (K := K) (a := la) (b := ra) (xs := ls) (ys := rs) (by rw [e1, e2, hlen])) (fun i σ H' => ∃ (l' pa' : Addr) (qs : QS) (ps : PoolS) (x7 x8 x9 x10 : Option V),
      σ = [some (.ref a), some (.ref la), some (.ref ra), some (.int (k : Int)), some (.ref va), some (.ref q), some (.ref p), x7, x8, x9, x10] ∧ Same H H' ∧ QueueAt T H' q l' s.lag s.patience qs ∧ PoolAt T H' p pa' s.tar ps ∧ l' ≠ pa' ∧ H l' = none ∧
      qs.Ok ∧ ps.Ok s.tar ∧ qs.rows.length ≤ i ∧ deedsF S s k i qs ps (led.drop i) (rec.drop i) = deedsB S led rec k)
      ⟨l, pa, _, _, none, none, none, none, rfl, s04, hQ1.same s14, hP2, nlpa, nl, (fun r hr => by cases hr), PoolS.new_ok _, Nat.le_refl _, hB.symm⟩
      (fun i σ H' _ ⟨_, _, _, _, _, _, _, _, _, e, _⟩ => ⟨Same_l e hl, Same_l e hr⟩) ?_ ?_⟩
    · rintro i x σ H3 H4 hi ⟨l', pa', qs, ps, x7, x8, x9, x10, rfl, s3', hQ3, hP3, nlp, nl', qok, pok, qlen, hF⟩ ⟨tT, tU, ex, mx, rfl, nU, nT, nUT, rfl, hex, hmx⟩
      have il : i < led.length := by omega
      obtain ⟨e, he, hde⟩ := dpa_map_at hls hex
      obtain ⟨m, hm, hdm⟩ := dpa_map_at hrs hmx
      obtain ⟨ea, es, rfl, he1, he2⟩ := dp_lst hde
      obtain ⟨ma, ms, rfl, hm1, hm2⟩ := dp_lst hdm
      have leni : e.length = S.servs.length := (lok.each e (List.mem_of_getElem? he)).1
      have lenm : m.length = S.servs.length := hall m (List.mem_of_getElem? hm)
      obtain ⟨r, hrk⟩ := at_of_lt (xs := e) (i := k) (by omega)
      obtain ⟨d, hdk⟩ := at_of_lt (xs := m) (i := k) (by omega)
      obtain ⟨rv, hrv, hdr⟩ := dpa_get (d := dRow r) he2 (by rw [List.getElem?_map, hrk]; rfl)
      obtain ⟨dv, hdv', hdd⟩ := dpa_get (d := dDeed d) hm2 (by rw [List.getElem?_map, hdk]; rfl)
      have r0 : 0 ≤ r.came := ((lok.each e (List.mem_of_getElem? he)).2 r (List.mem_of_getElem? hrk)).2.1
      have why : PyData.strOk d.why = true := (rok.each m (List.mem_of_getElem? hm)).2 d (List.mem_of_getElem? hdk)
      -- the two new pairs
      have sA : Same H3 (upd H3 tU (.tup [.ref ea, .ref ma])) := Same_new nU
      have sB : Same (upd H3 tU (.tup [.ref ea, .ref ma])) (upd (upd H3 tU (.tup [.ref ea, .ref ma])) tT (.tup [.int (i : Nat), .ref tU])) := Same_new (by rw [upd_ne nUT.symm]; exact nT)
      have sAB := sA.trans sB
      have s5 := s3'.trans sAB
      refine ⟨_, _, rfl, SqT.of upd_same, rfl, _, _, rfl, _, _, rfl, ⟨_, _, rfl, Same_t sB (SqT.of upd_same), rfl, _, _, rfl, _, _, rfl, rfl, rfl, ?_⟩⟩
      -- least = kept(setting, service[0], now)
      refine ⟨_, rfl, _, rfl, _, _, _, _, rfl, rfl, Same_t s5 q1, rfl, _, rfl, .ref a, S, s.name, (i : Int), rfl, Same_dp s5 hS, fun x hx => (ok.keeps x hx).1, ?_⟩
      have lk := keptF_ok s.name (i : Int) fun x hx => (ok.keeps x hx).2
      -- if not is_deed(..): return False
      refine ⟨_, rfl, _, rfl, _, rfl, _, rfl, _, rfl, _, rfl, _, _, _, _, rfl, rfl, Same_l s5 he1, atI_nat hrv, _, rfl, _, rfl, _, _, _, _, rfl, rfl, Same_l s5 hm1, atI_nat hdv', ?_⟩
      have un : deedsF S s k i qs ps (led.drop i) (rec.drop i) = (isDeedB s (keptF S.keeps s.name (i : Int)) qs ps r d &&
          deedsF S s k (i + 1) (nextQ s qs r d.given) (nextP s (keptF S.keeps s.name (i : Int)) ps r d.given) (led.drop (i + 1)) (rec.drop (i + 1))) := by
        rw [drop_cons he, drop_cons hm]
        show (isDeedB s (keptF S.keeps s.name (i : Int)) qs ps (e.getD k default) (m.getD k default) && _) = _
        rw [getD_some hrk, getD_some hdk]
      refine ⟨.ref va, rv, dv, s, _, q, l', p, pa', qs, ps, r, d, rfl, Same_dp s5 hdv, sok, lk, hQ3.same sAB, qok, by have := lok.len; omega, hP3.same sAB, pok, nlp, Same_dp s5 hdr, r0, Same_dp s5 hdd, why, fun hb H6 b6 al6 => ?_, fun hb H6 l6 pa6 hQ6 hP6 nlp6 b6 al6 nl6 npa6 => ?_⟩
      · refine ⟨_, rfl, ?_⟩
        rw [un, hb, Bool.false_and] at hF
        have s6 : Same H H6 := Same_but3 s5 b6 nq nl' np0
        refine iteT ?_
        show Q (.bl false) H6
        rw [hF]
        exact kk _ s6
      · refine ⟨_, rfl, ?_⟩
        rw [un, hb, Bool.true_and] at hF
        have s6 : Same H H6 := Same_but3 s5 b6 nq nl' np0
        refine iteF ⟨l6, pa6, _, _, some (.int (i : Int)), some (.ref ea), some (.ref ma), some (.int (keptF S.keeps s.name (i : Int))), rfl, s6, hQ6, hP6, nlp6, s5.free nl6, QS.step_ok qok _ _ _ _, nextP_ok pok _ _ _, ?_, hF⟩
        have := QS.step_len s.lag s.patience qs r.came (d.given * s.room)
        show (qs.step s.lag s.patience r.came (d.given * s.room)).rows.length ≤ i + 1
        omega
    · rintro σ H3 ⟨l', pa', qs, ps, x7, x8, x9, x10, rfl, s3', hQ3, hP3, nlp, nl', qok, pok, qlen, hF⟩
      rw [e1, List.drop_length, ← hlen, List.drop_length] at hF
      have hF' : true = deedsB S led rec k := hF
      show Q (.bl true) H3
      rw [hF']
      exact kk _ s3'
def sp_accepts_record (T : Ctx K mg) : Sp := fun vs H Q _ => ∃ sv lv rv S led rec, vs = [sv, lv, rv] ∧ Dp K H sv (dSett S) ∧ S.Ok ∧ Dp K H lv (dLed led) ∧ LedOk S.servs.length led ∧ Dp K H rv (dRec rec) ∧ RecOk rec ∧
  ∀ H', Same H H' → Q (.bl (accB S led rec)) H'
theorem ok_accepts_record (T : Ctx K mg) : FnOk P w K mg base CX0 11 T.a_accepts_record T.fd_accepts_record ["setting", "ledger", "record"] (sp_accepts_record T) := by
  have G_has_shape := ok_has_shape (P := P) (w := w) (base := base) T
  have G_are_shares := ok_are_shares (P := P) (w := w) (base := base) T
  have G_are_deeds := ok_are_deeds (P := P) (w := w) (base := base) T
  refine T.F_accepts_record.ok sc_accepts_record (fun vs H Q E h => ?_) (fun cdv A outer s H vs Q E hr h => ?_)
  · obtain ⟨sv, lv, rv, S, led, rec, rfl, hS, ok, hL, lok, hR, rok, k⟩ := h
    rfl
  · obtain ⟨sv, lv, rv, S, led, rec, rfl, hS, ok, hL, lok, hR, rok, k⟩ := h
    refine ⟨_, PSs.nox (pss_cons (ps_if (pt_not (pt_val (pe_call G_has_shape (hr.mono (by decide)) rfl T.g_has_shape T.F_has_shape.kp T.b_has_shape .nil pass0 (pa_cons (pv 0) (pa_cons (pv 1) (pa_cons (pv 2) pa_nil))))))
      (pss_one (ps_ret pe_bl))
      pss_nil)
    (pss_cons (ps_if (pt_not (pt_val (pe_callB (cr_all rfl) (by rfl) T.n_all (by decide +kernel) (pa_cons (pe_lc (own := [("moment", 3)]) rfl sc_accepts_record.nd (pi_list (pv 2)) (blkOk_by (N := N_accepts_record) (sc := defScope s_accepts_record) (own := [("moment", 3)]) (by decide +kernel)) (fun _ _ _ _ _ => (pg_name (i := 3) sc_accepts_record.nd rfl (Or.inl rfl))) (fun _ _ _ _ _ => pts_nil) (fun _ _ _ _ _ => (pe_call G_are_shares (hr.mono (by decide)) rfl T.g_are_shares T.F_are_shares.kp T.b_are_shares .nil pass0 (pa_cons (pv 0) (pa_cons (pv 3) pa_nil))))) pa_nil))))
      (pss_one (ps_ret pe_bl))
      pss_nil)
    (pss_one (ps_ret (pe_callB (cr_all rfl) (by rfl) T.n_all (by decide +kernel) (pa_cons (pe_lc (own := [("k", 4)]) rfl sc_accepts_record.nd (pi_range1 rfl T.n_range (pa_cons (pe_callB call_len_seq (by rfl) T.n_len (by decide +kernel) (pa_cons (pe_ix ix_tup (pv 0) pe_int (fun _ _ => rfl)) pa_nil)) pa_nil)) (blkOk_by (N := N_accepts_record) (sc := defScope s_accepts_record) (own := [("k", 4)]) (by decide +kernel)) (fun _ _ _ _ _ => (pg_name (i := 4) sc_accepts_record.nd rfl (Or.inl rfl))) (fun _ _ _ _ _ => pts_nil) (fun _ _ _ _ _ => (pe_call G_are_deeds (hr.mono (by decide)) rfl T.g_are_deeds T.F_are_deeds.kp T.b_are_deeds .nil pass0 (pa_cons (pv 0) (pa_cons (pv 1) (pa_cons (pv 2) (pa_cons (pv 4) pa_nil))))))) pa_nil)))))), ?_⟩
    obtain ⟨a, sa, ka, ss, ks, rfl, h1, h2, h3, h4, h5⟩ := sett_inv hS
    obtain ⟨ra, rs, rfl, hr, hrs⟩ := dp_lst hR
    have e2 : rs.length = rec.length := by rw [dpa_len hrs, List.length_map]
    have e3 : ss.length = S.servs.length := by rw [dpa_len h3, List.length_map]
    have few := ok.few
    have rl := rok.len
    unfold accB at k
    refine ⟨_, rfl, _, rfl, _, rfl, .ref a, lv, .ref ra, S, led, rec, rfl, hS, hL, hR, by omega, fun H1 s1 => ⟨_, rfl, ?_⟩⟩
    cases hsh : shapeB S.servs.length led rec with
    | false =>
      rw [hsh, Bool.false_and] at k
      exact iteT (k _ s1)
    | true =>
      rw [hsh, Bool.true_and] at k
      have hsh' : decide (rec.length = led.length) = true ∧ (rec.all fun m => decide (m.length = S.servs.length)) = true := Bool.and_eq_true_iff.mp hsh
      have hlen : rec.length = led.length := of_decide_eq_true hsh'.1
      have hall : ∀ m ∈ rec, m.length = S.servs.length := fun m hm => of_decide_eq_true (List.all_eq_true.mp hsh'.2 m hm)
      -- if not all([are_shares(setting, moment) for moment in record])
      refine iteF ⟨_, rfl, ra, rfl, ⟨rs, Same_l s1 hr⟩, fun D nD => ?_⟩
      refine lc_list (xs := rs) (fun i H' => Same H1 H' ∧ H' D = some (.lst (((rec.take i).map (shareB S)).map V.bl))) ⟨Same_new nD, upd_same⟩ (fun i H' _ p => Same_l (s1.trans p.1) hr) ?_ ?_
      · rintro i x H' hi ⟨s, hD⟩
        obtain ⟨m, hm, hd⟩ := dpa_map_at hrs hi
        have il : i < rec.length := (List.getElem?_eq_some_iff.mp hm).1
        refine ⟨rfl, _, rfl, _, rfl, .ref a, x, S, m, rfl, Same_dp (s1.trans s) hS, ok, Same_dp (s1.trans s) hd, hall m (List.mem_of_getElem? hm), fun H2 s2 => ⟨_, s2 _ _ hD, less_of ?_, Same_mut (s.trans s2) nD, ?_⟩⟩
        · rw [List.length_map, List.length_map, List.length_take]
          omega
        · rw [take_snoc hm, List.map_append, List.map_append]
          exact upd_same
      · rintro H2 ⟨s2, hD⟩
        rw [e2, List.take_length] at hD
        refine ⟨D, _, rfl, SqL.of hD, _, rfl, ?_⟩
        rw [show (rec.map (shareB S)).all id = rec.all (shareB S) by rw [List.all_map]; rfl]
        cases hsb : rec.all (shareB S) with
        | false =>
          rw [hsb, Bool.false_and] at k
          exact iteT (k _ (s1.trans s2))
        | true =>
          rw [hsb, Bool.true_and] at k
          have s02 := s1.trans s2
          -- return all([are_deeds(..) for k in range(len(setting[1]))])
          refine iteF ⟨_, rfl, _, _, _, _, rfl, rfl, Same_t s02 h1, rfl, _, _, rfl, .inr (Same_t s02 h2), _, rfl, by omega, by rw [e3]; omega, fun E nE => ?_⟩
          refine lc_range (lo := 0) (n := ((ss.length : Nat) : Int).toNat) (fun i H' => Same H2 H' ∧ H' E = some (.lst (((List.range i).map (deedsB S led rec)).map V.bl))) ⟨Same_new nE, upd_same⟩ ?_ ?_
          · rintro i H' hi ⟨s, hE⟩
            have il : i < S.servs.length := by
              rw [e3, Int.toNat_natCast] at hi
              exact hi
            refine ⟨rfl, _, rfl, _, rfl, _, rfl, _, rfl, .ref a, lv, .ref ra, S, led, rec, i, ?_, Same_dp (s02.trans s) hS, ok, Same_dp (s02.trans s) hL, lok, Same_dp (s02.trans s) hR, rok, hlen, hall, il, fun H3 s3 => ⟨_, s3 _ _ hE, less_of ?_, Same_mut (s.trans s3) nE, ?_⟩⟩
            · show [V.ref a, lv, V.ref ra, V.int (0 + (i : Int))] = _
              rw [Int.zero_add]
            · rw [List.length_map, List.length_map, List.length_range]
              omega
            · rw [List.range_succ, List.map_append, List.map_append]
              exact upd_same
          · rintro H3 ⟨s3, hE⟩
            rw [e3, Int.toNat_natCast] at hE
            refine ⟨E, _, rfl, SqL.of hE, ?_⟩
            rw [List.all_map]
            exact k _ (s02.trans s3)
end
end K65
set_option Elab.async false
set_option linter.all false
set_option maxRecDepth 100000
set_option maxHeartbeats 4000000
namespace K65
open PySem L2
theorem iteDF {c A B : Prop} [Decidable c] (h : ¬ c) (b : B) : if decide c = true then A else B := by
  rw [decide_eq_false h]
  exact iteF b
theorem iteNF {c A B : Prop} [Decidable c] (h : c) (b : B) : if (!decide c) = true then A else B := by
  rw [decide_eq_true h]
  exact iteF b
structure Tar.Valid (t : Tar) : Prop where
  many : 1 ≤ t.rates.length ∧ t.rates.length ≤ 4
  len : t.wakes.length = t.rates.length + 1
  zero : t.wakes.getD 0 0 = 0
  rate : ∀ r ∈ t.rates, 1 ≤ r ∧ r ≤ 10000
  wake : ∀ w ∈ t.wakes.drop 1, 1 ≤ w ∧ w ≤ 10000
  down : ∀ i : Nat, i + 1 < t.rates.length → t.rates.getD (i + 1) 0 < t.rates.getD i 0
  up : ∀ i : Nat, i < t.rates.length → t.wakes.getD i 0 < t.wakes.getD (i + 1) 0
def IsWord (z : Str) : Prop := 1 ≤ z.length ∧ z.length ≤ 12 ∧ ∀ c ∈ z.cps.toList, c ∈ ("abcdefghijklmnopqrstuvwxyz" : Str).cps.toList
structure Serv.Valid (s : Serv) : Prop where
  name : IsWord s.name
  room : 1 ≤ s.room ∧ s.room ≤ 64
  lag : 0 ≤ s.lag ∧ s.lag ≤ 20
  patience : s.lag ≤ s.patience ∧ s.patience ≤ 20
  weight : 1 ≤ s.weight ∧ s.weight ≤ 9
  most : 0 ≤ s.most ∧ s.most ≤ 40
  budget : 0 ≤ s.budget ∧ s.budget ≤ 1000000
  tar : s.tar.Valid
structure Keep.Valid (names : List Str) (k : Keep) : Prop where
  name : k.name ∈ names
  least : 1 ≤ k.least ∧ k.least ≤ 40
  when_ : 0 ≤ k.begin_ ∧ k.begin_ < k.end_ ∧ k.end_ ≤ k.period ∧ k.period ≤ 100
structure Sett.Valid (S : Sett) : Prop where
  quota : 0 ≤ S.quota ∧ S.quota ≤ 200
  many : 1 ≤ S.servs.length ∧ S.servs.length ≤ 6
  servs : ∀ s ∈ S.servs, s.Valid
  names : (S.servs.map fun s => s.name).Nodup
  keepsN : S.keeps.length ≤ 12
  keeps : ∀ k ∈ S.keeps, k.Valid (S.servs.map fun s => s.name)
theorem Tar.Valid.ok {t : Tar} (h : t.Valid) : t.Ok := ⟨h.len, h.many.2, fun r hr => by have := h.rate r hr; omega⟩
theorem Serv.Valid.ok {s : Serv} (h : s.Valid) : s.Ok := ⟨⟨by have := h.room; omega, h.room.2⟩, h.tar.ok, ⟨h.most.1, by have := h.most; omega⟩, h.weight⟩
theorem Sett.Valid.ok {S : Sett} (h : S.Valid) : S.Ok := ⟨⟨h.quota.1, by have := h.quota; omega⟩, fun s hs => (h.servs s hs).ok, by have := h.many; omega, fun k hk => by have := (h.keeps k hk).when_; have := (h.keeps k hk).least; omega⟩
section
variable {P : Program} {w : World} {K : PySem.W.Frag} {mg : Str → Option Value} {base : Heap} {H H1 : Hp}
def sp_check_tariff (T : Ctx K mg) : Sp := fun vs H Q _ => ∃ v t, vs = [v] ∧ TarAt K H v t ∧ t.Valid ∧ ∀ H', Same H H' → Q .non H'
theorem ok_check_tariff (T : Ctx K mg) : FnOk P w K mg base CX0 1 T.a_check_tariff T.fd_check_tariff ["tariff"] (sp_check_tariff T) := by
  refine T.F_check_tariff.ok sc_check_tariff (fun vs H Q E h => ?_) (fun cdv A outer s H vs Q E hr h => ?_)
  · obtain ⟨v, t, rfl, hT, ok, k⟩ := h
    rfl
  · obtain ⟨v, t, rfl, hT, ok, k⟩ := h
    refine ⟨_, PSs.nox (pss_cons (ps_asg (pv 0) (pg_tup rfl (pgs_cons (pg_name (i := 1) sc_check_tariff.nd rfl (Or.inl rfl)) (pgs_cons (pg_name (i := 2) sc_check_tariff.nd rfl (Or.inl rfl)) pgs_nil))))
    (pss_cons (ps_if (PW.pt (pw_or (pt_cmpR op_lt (pe_callB call_len_seq (by rfl) T.n_len (by decide +kernel) (pa_cons (pv 1) pa_nil)) pe_int (nomark _)) (pw_or (pt_cmpR op_gt (pe_callB call_len_seq (by rfl) T.n_len (by decide +kernel) (pa_cons (pv 1) pa_nil)) (pe_glob (v := .int 4) rfl T.i_MOST_RATES ⟨_, rfl⟩) (nomark _)) (pw_or (pt_cmpR op_ne (pe_callB call_len_seq (by rfl) T.n_len (by decide +kernel) (pa_cons (pv 2) pa_nil)) (pe_op op_add (pe_callB call_len_seq (by rfl) T.n_len (by decide +kernel) (pa_cons (pv 1) pa_nil)) pe_int) (nomark _)) (pw_or1 (pt_cmpR op_ne (pe_ix ix_tup (pv 2) pe_int (fun _ _ => rfl)) pe_int (nomark _)))))))
      (pss_one ps_never)
      pss_nil)
    (pss_cons (ps_for PassesOwn.never rfl (pi_tup (pe_op op_catA (pv 1) (pe_slice sl_tupA (pv 2) (po_some pe_int) po_none))) (pg_name (i := 3) sc_check_tariff.nd rfl (Or.inl rfl))
      (pss_one (ps_if (PW.pt (pw_or (pt_cmpR op_lt (pv 3) pe_int (nomark _)) (pw_or1 (pt_cmpR op_gt (pv 3) (pe_glob (v := .int 10000) rfl T.i_GREATEST ⟨_, rfl⟩) (nomark _)))))
        (pss_one ps_never)
        pss_nil)))
    (pss_one (ps_for PassesOwn.never rfl (pi_range1 rfl T.n_range (pa_cons (pe_callB call_len_seq (by rfl) T.n_len (by decide +kernel) (pa_cons (pv 1) pa_nil)) pa_nil)) (pg_name (i := 4) sc_check_tariff.nd rfl (Or.inl rfl))
      (pss_cons (ps_if (PW.pt (pw_and (pt_cmpR op_gt (pv 4) pe_int (nomark _)) (pw_and1 (pt_cmpR op_ge (pe_ix ix_tup (pv 1) (pv 4) (fun _ _ => rfl)) (pe_ix ix_tup (pv 1) (pe_op op_sub (pv 4) pe_int) (fun _ _ => rfl)) (nomark _)))))
        (pss_one ps_never)
        pss_nil)
      (pss_one (ps_if (pt_cmpR op_le (pe_ix ix_tup (pv 2) (pe_op op_add (pv 4) pe_int) (fun _ _ => rfl)) (pe_ix ix_tup (pv 2) (pv 4) (fun _ _ => rfl)) (nomark _))
        (pss_one ps_never)
        pss_nil)))))))), ?_⟩
    obtain ⟨a, ra, wa, rfl, h1, h2, h3⟩ := hT
    have lr : (t.rates.map V.int).length = t.rates.length := List.length_map _
    have lw : (t.wakes.map V.int).length = t.wakes.length := List.length_map _
    have many := ok.many
    have len := ok.len
    refine ⟨_, rfl, _, _, rfl, h1, rfl, _, _, rfl, _, _, rfl, rfl, ?_⟩
    -- the lengths
    refine ⟨_, rfl, _, _, rfl, .inr h2, _, _, rfl, rfl, _, rfl, iteDF (by rw [lr]; omega) ?_⟩
    refine ⟨_, rfl, _, _, rfl, .inr h2, _, _, rfl, rfl, _, rfl, iteDF (by rw [lr]; omega) ?_⟩
    refine ⟨_, rfl, _, _, rfl, .inr h3, _, rfl, _, _, rfl, .inr h2, _, _, rfl, rfl, rfl, _, rfl, iteNF (by show V.int ((t.wakes.map V.int).length : Int) = V.int (((t.rates.map V.int).length : Int) + 1); rw [lr, lw, len]; rfl) ?_⟩
    refine ⟨_, rfl, _, _, _, _, rfl, rfl, h3, atI_nat (j := 0) (getD_at (by omega)), rfl, _, rfl, iteNF (by rw [ok.zero]) ?_⟩
    -- for value in rates + wakes[1:]
    refine ⟨_, rfl, _, rfl, _, rfl, wa, _, rfl, h3, fun z => absurd z ?_, fun _ p np => ?_⟩
    · intro z
      have z1 : HT.sIx (t.wakes.map V.int).length 0 (some 1) = 1 := by
        have h : 1 ≤ (t.wakes.map V.int).length := by omega
        show HT.sIx (t.wakes.map V.int).length 0 (some 1) = 1
        unfold HT.sIx
        simp
        omega
      rw [z1] at z
      exact absurd z.1 (by decide)
    have ecut : cutV (t.wakes.map V.int) (some 1) none = (t.wakes.drop 1).map V.int := by
      unfold cutV
      have z1 : HT.sIx (t.wakes.map V.int).length 0 (some 1) = 1 := by
        unfold HT.sIx
        simp
        omega
      rw [z1, List.map_drop]
      refine List.take_of_length_le ?_
      rw [List.length_drop]
      exact Nat.le_refl _
    rw [ecut]
    have s1 := Same_new (o := .tup ((t.wakes.drop 1).map V.int)) np
    refine ⟨ra, p, _, _, rfl, rfl, Same_t s1 h2, SqT.of upd_same, ?_, ?_, ?_, ?_⟩
    · rw [lr, List.length_map, List.length_drop]
      exact small_of (by omega)
    · intro z
      rw [z] at lr
      exact absurd lr (by show ¬ (0 : Nat) = t.rates.length; omega)
    · intro _ z
      have := congrArg List.length z
      rw [List.length_map, List.length_drop] at this
      exact absurd this (by show ¬ t.wakes.length - 1 = 0; omega)
    · intro _ _ q nq
      have s2 := Same_new (o := .tup (t.rates.map V.int ++ (t.wakes.drop 1).map V.int)) nq
      have s12 := s1.trans s2
      refine ⟨q, rfl, ⟨_, SqT.of upd_same⟩, for_tup (xs := t.rates.map V.int ++ (t.wakes.drop 1).map V.int) (fun i σ H' => H' = _ ∧ ∃ x3 : Option V, σ = [some (.ref a), some (.ref ra), some (.ref wa), x3, none]) ⟨rfl, none, rfl⟩ (fun i σ H' _ p => by rw [p.1]; exact SqT.of upd_same) ?_ ?_⟩
      · rintro i x σ H' hi ⟨rfl, x3, rfl⟩
        rw [← List.map_append, List.getElem?_map] at hi
        cases hz : (t.rates ++ t.wakes.drop 1)[i]? with
        | none => rw [hz] at hi; cases hi
        | some z =>
          rw [hz] at hi
          cases hi
          have hb : 1 ≤ z ∧ z ≤ 10000 := by
            rcases List.mem_append.mp (List.mem_of_getElem? hz) with hm | hm
            · exact ok.rate z hm
            · exact ok.wake z hm
          refine ⟨_, rfl, _, _, rfl, rfl, _, rfl, iteDF (by omega) ?_⟩
          exact ⟨_, rfl, _, _, rfl, rfl, _, rfl, iteDF (by omega) ⟨rfl, _, rfl⟩⟩
      · rintro σ H' ⟨rfl, x3, rfl⟩
        -- for index in range(len(rates))
        refine ⟨_, rfl, _, _, rfl, .inr (Same_t s12 h2), _, rfl, by omega, by rw [lr]; omega, for_range (lo := 0) (n := ((t.rates.map V.int).length : Int).toNat) (fun i σ H' => H' = _ ∧ ∃ x4 : Option V, σ = [some (.ref a), some (.ref ra), some (.ref wa), x3, x4]) ⟨rfl, none, rfl⟩ ?_ ?_⟩
        · rintro i σ H' hi ⟨rfl, x4, rfl⟩
          have il : i < t.rates.length := by
            rw [lr, Int.toNat_natCast] at hi
            exact hi
          refine ⟨_, rfl, _, _, rfl, rfl, _, rfl, ?_⟩
          have fin : tIfS (tTest (tOp (rI0 fun i j => .bl (decide (i ≤ j))) (tOp (rIxT K) (tVar 2) (tOp (rI0 fun i j => .int (i + j)) (tVar 4) (tC (.int 1)))) (tOp (rIxT K) (tVar 2) (tVar 4)))) tNever tNext
              { nx := fun σ H' => H' = _ ∧ ∃ x4 : Option V, σ = [some (.ref a), some (.ref ra), some (.ref wa), x3, x4], rt := fun v H' => Q v H', bk := fun _ _ => False, ct := fun _ _ => False } [some (.ref a), some (.ref ra), some (.ref wa), x3, some (.int (0 + (i : Int)))] _ :=
            ⟨_, rfl, _, rfl, _, _, rfl, rfl, _, _, _, _, rfl, rfl, Same_t s12 h3, at_of (j := i + 1) (by show (0 : Int) + (i : Int) + 1 = _; omega) (getD_at (by omega)), _, rfl, _, rfl, _, _, _, _, rfl, rfl, Same_t s12 h3, at_of (j := i) (by omega) (getD_at (by omega)), _, _, rfl, rfl, _, rfl, iteDF (by have := ok.up i il; omega) ⟨rfl, _, rfl⟩⟩
          refine ite2 (fun h => ?_) (fun h => ?_)
          · have h0 : 0 < 0 + (i : Int) := of_decide_eq_true h
            refine ⟨_, rfl, _, rfl, _, _, _, _, rfl, rfl, Same_t s12 h2, at_of (j := i) (by omega) (getD_at il), _, rfl, _, rfl, _, _, rfl, rfl, _, _, _, _, rfl, rfl, Same_t s12 h2, at_of (j := i - 1) (by show (0 : Int) + (i : Int) - 1 = _; omega) (getD_at (by omega)), _, _, rfl, rfl, _, rfl, iteDF ?_ fin⟩
            have := ok.down (i - 1) (by omega)
            rw [show i - 1 + 1 = i by omega] at this
            omega
          · exact iteF fin
        · rintro σ H' ⟨rfl, x4, rfl⟩
          exact k _ s12
def sp_is_word (T : Ctx K mg) : Sp := fun vs H Q _ => ∃ z, vs = [.str z] ∧ IsWord z ∧ ∀ H', Same H H' → Q (.bl true) H'
theorem ok_is_word (T : Ctx K mg) : FnOk P w K mg base CX0 1 T.a_is_word T.fd_is_word ["text"] (sp_is_word T) := by
  refine T.F_is_word.ok sc_is_word (fun vs H Q E h => ?_) (fun cdv A outer s H vs Q E hr h => ?_)
  · obtain ⟨z, rfl, ⟨w1, w2, w3⟩, k⟩ := h
    rfl
  · obtain ⟨z, rfl, ⟨w1, w2, w3⟩, k⟩ := h
    refine ⟨_, PSs.nox (pss_cons (ps_if (PW.pt (pw_or (pt_cmpR op_lt (pe_callB call_len_str (by rfl) T.n_len (by decide +kernel) (pa_cons (pv 0) pa_nil)) pe_int (nomark _)) (pw_or1 (pt_cmpR op_gt (pe_callB call_len_str (by rfl) T.n_len (by decide +kernel) (pa_cons (pv 0) pa_nil)) (pe_glob (v := .int 12) rfl T.i_MAX_LETTERS ⟨_, rfl⟩) (nomark _)))))
      (pss_one (ps_ret pe_bl))
      pss_nil)
    (pss_one (ps_ret (pe_callB (cr_all rfl) (by rfl) T.n_all (by decide +kernel) (pa_cons (pe_lc (own := [("char", 1)]) rfl sc_is_word.nd (pi_str (pv 0)) (blkOk_by (N := N_is_word) (sc := defScope s_is_word) (own := [("char", 1)]) (by decide +kernel)) (fun _ _ _ _ _ => (pg_name (i := 1) sc_is_word.nd rfl (Or.inl rfl))) (fun _ _ _ _ _ => pts_nil) (fun _ _ _ _ _ => (pe_cmpR op_in_sign (pv 1) (pe_glob (v := .str "abcdefghijklmnopqrstuvwxyz") rfl T.i_LETTERS ⟨_, rfl⟩) rfl))) pa_nil))))), ?_⟩
    have hz : z.cps.size = z.length := rfl
    refine ⟨_, rfl, _, rfl, small_of (by omega), _, _, rfl, rfl, _, rfl, iteDF (by omega) ?_⟩
    refine ⟨_, rfl, _, rfl, small_of (by omega), _, _, rfl, rfl, _, rfl, iteDF (by omega) ?_⟩
    refine ⟨_, rfl, z, rfl, fun D nD => ?_⟩
    refine lc_it (walk_str (z := z)) (fun i H' => Same H H' ∧ H' D = some (.lst ((List.replicate i true).map V.bl))) ⟨Same_new nD, upd_same⟩ (fun _ _ _ _ => True.intro) ?_ ?_
    · rintro i x H1 H2 hi ⟨s, hD⟩ ⟨rfl, c, hc, rfl⟩
      refine ⟨rfl, _, rfl, c, _, rfl, rfl, _, hD, less_of ?_, Same_mut s nD, ?_⟩
      · rw [List.length_map, List.length_replicate]
        omega
      · have hm : c ∈ z.cps.toList := by
          have := Array.mem_of_getElem? hc
          simpa using this
        rw [decide_eq_true (w3 c hm), List.replicate_succ', List.map_append]
        exact upd_same
    · rintro H1 ⟨s, hD⟩
      refine ⟨D, _, rfl, SqL.of hD, ?_⟩
      have e : (List.replicate z.cps.size true).all id = true := List.all_eq_true.mpr fun b hb => by rw [List.eq_of_mem_replicate hb]; rfl
      show Q (.bl ((List.replicate z.cps.size true).all id)) H1
      rw [e]
      exact k _ s
theorem dServ_six {s : Serv} (ok : s.Valid) {T : Ctx K mg} {H : Hp} {ra wa : Addr} : ∀ (i : Nat) (x : V), ([.ref T.r_RANGES0, .ref T.r_RANGES1, .ref T.r_RANGES2, .ref T.r_RANGES3, .ref T.r_RANGES4, .ref T.r_RANGES5] : List V)[i]? = some x →
    ∃ (r : Addr) (lo hi z : Int), x = .ref r ∧ SqT K H r [.int lo, .int hi] ∧
      ([.str s.name, .int s.room, .int s.lag, .int s.patience, .int s.weight, .int s.most, .int s.budget, .ref ra, .ref wa] : List V)[i + 1]? = some (.int z) ∧ lo ≤ z ∧ z ≤ hi
  | 0, _, h => by cases h; exact ⟨_, _, _, s.room, rfl, T.q_RANGES0 H, rfl, ok.room.1, ok.room.2⟩
  | 1, _, h => by cases h; exact ⟨_, _, _, s.lag, rfl, T.q_RANGES1 H, rfl, ok.lag.1, ok.lag.2⟩
  | 2, _, h => by cases h; exact ⟨_, _, _, s.patience, rfl, T.q_RANGES2 H, rfl, by have := ok.lag; have := ok.patience; omega, ok.patience.2⟩
  | 3, _, h => by cases h; exact ⟨_, _, _, s.weight, rfl, T.q_RANGES3 H, rfl, ok.weight.1, ok.weight.2⟩
  | 4, _, h => by cases h; exact ⟨_, _, _, s.most, rfl, T.q_RANGES4 H, rfl, ok.most.1, ok.most.2⟩
  | 5, _, h => by cases h; exact ⟨_, _, _, s.budget, rfl, T.q_RANGES5 H, rfl, ok.budget.1, ok.budget.2⟩
  | i + 6, _, h => by simp at h
def sp_check_service (T : Ctx K mg) : Sp := fun vs H Q _ => ∃ v s, vs = [v] ∧ Dp K H v (dServ s) ∧ s.Valid ∧ ∀ H', Same H H' → Q .non H'
theorem ok_check_service (T : Ctx K mg) : FnOk P w K mg base CX0 2 T.a_check_service T.fd_check_service ["setting"] (sp_check_service T) := by
  have G_is_word := ok_is_word (P := P) (w := w) (base := base) T
  have G_check_tariff := ok_check_tariff (P := P) (w := w) (base := base) T
  refine T.F_check_service.ok sc_check_service (fun vs H Q E h => ?_) (fun cdv A outer s H vs Q E hr h => ?_)
  · obtain ⟨v, s, rfl, hS, ok, k⟩ := h
    rfl
  · obtain ⟨v, s, rfl, hS, ok, k⟩ := h
    refine ⟨_, PSs.nox (pss_cons (ps_if (pt_not (pt_val (pe_call G_is_word (hr.mono (by decide)) rfl T.g_is_word T.F_is_word.kp T.b_is_word .nil pass0 (pa_cons (pe_ix ix_tup (pv 0) pe_int (fun _ _ => rfl)) pa_nil))))
      (pss_one ps_never)
      pss_nil)
    (pss_cons (ps_for PassesOwn.never rfl (pi_enumT (by rfl) T.n_enumerate (pa_cons (pe_glob (v := .ref T.r_RANGES) rfl T.i_RANGES rfl) pa_nil)) (pg_tup rfl (pgs_cons (pg_name (i := 1) sc_check_service.nd rfl (Or.inl rfl)) (pgs_cons (pg_tup rfl (pgs_cons (pg_name (i := 2) sc_check_service.nd rfl (Or.inl rfl)) (pgs_cons (pg_name (i := 3) sc_check_service.nd rfl (Or.inl rfl)) pgs_nil))) pgs_nil)))
      (pss_one (ps_if (PW.pt (pw_or (pt_cmpR op_lt (pe_ix ix_tup (pv 0) (pe_op op_add (pv 1) pe_int) (fun _ _ => rfl)) (pv 2) (nomark _)) (pw_or1 (pt_cmpR op_gt (pe_ix ix_tup (pv 0) (pe_op op_add (pv 1) pe_int) (fun _ _ => rfl)) (pv 3) (nomark _)))))
        (pss_one ps_never)
        pss_nil)))
    (pss_cons (ps_if (pt_cmpR op_gt (pe_ix ix_tup (pv 0) pe_int (fun _ _ => rfl)) (pe_ix ix_tup (pv 0) pe_int (fun _ _ => rfl)) (nomark _))
      (pss_one ps_never)
      pss_nil)
    (pss_one (ps_tryOk (pss_one (ps_expr (pe_call G_check_tariff (hr.mono (by decide)) rfl T.g_check_tariff T.F_check_tariff.kp T.b_check_tariff .nil pass0 (pa_cons (pe_tup (pa_cons (pe_ix ix_tup (pv 0) pe_int (fun _ _ => rfl)) (pa_cons (pe_ix ix_tup (pv 0) pe_int (fun _ _ => rfl)) pa_nil))) pa_nil))))))))), ?_⟩
    obtain ⟨a, ra, wa, rfl, h1, h2, h3⟩ := serv_inv hS
    refine ⟨_, rfl, _, _, _, _, rfl, rfl, h1, rfl, s.name, rfl, ok.name, fun H1 s1 => ⟨_, rfl, iteF ?_⟩⟩
    -- for k, (low, high) in enumerate(RANGES)
    refine ⟨T.r_RANGES, _, rfl, T.q_RANGES H1, for_it (walk_enumT (K := K) (a := T.r_RANGES) (xs := [.ref T.r_RANGES0, .ref T.r_RANGES1, .ref T.r_RANGES2, .ref T.r_RANGES3, .ref T.r_RANGES4, .ref T.r_RANGES5])) (fun i σ H' => Same H H' ∧ ∃ x1 x2 x3 : Option V, σ = [some (.ref a), x1, x2, x3])
      ⟨s1, none, none, none, rfl⟩ (fun i σ H' _ _ => T.q_RANGES H') ?_ ?_⟩
    · rintro i x σ H2 H3 hi ⟨s2, x1, x2, x3, rfl⟩ ⟨tp, _, lx, rfl, ntp, rfl, rfl', hlx⟩
      cases rfl'
      obtain ⟨r, lo, hi', z, rfl, hr, hz, z0, z1⟩ := dServ_six (T := T) (H := upd H2 tp (.tup [.int (i : Nat), lx])) (ra := ra) (wa := wa) ok i lx hlx
      have s3 : Same H (upd H2 tp (.tup [.int (i : Nat), .ref r])) := Same_upd s2 ntp
      refine ⟨_, _, rfl, SqT.of upd_same, rfl, _, _, rfl, _, _, rfl, ⟨_, _, rfl, hr, rfl, _, _, rfl, _, _, rfl, rfl, rfl, ?_⟩⟩
      refine ⟨_, rfl, _, rfl, _, _, rfl, rfl, _, _, _, _, rfl, rfl, Same_t s3 h1, at_of (j := i + 1) (by rfl) hz, _, rfl, _, _, rfl, rfl, _, rfl, iteDF (by omega) ?_⟩
      exact ⟨_, rfl, _, rfl, _, _, rfl, rfl, _, _, _, _, rfl, rfl, Same_t s3 h1, at_of (j := i + 1) (by rfl) hz, _, rfl, _, _, rfl, rfl, _, rfl, iteDF (by omega) ⟨s3, _, _, _, rfl⟩⟩
    · rintro σ H2 ⟨s2, x1, x2, x3, rfl⟩
      refine ⟨_, rfl, _, _, _, _, rfl, rfl, Same_t s2 h1, rfl, _, rfl, _, _, _, _, rfl, rfl, Same_t s2 h1, rfl, _, _, rfl, rfl, _, rfl, iteDF (by have := ok.patience; omega) ?_⟩
      refine ⟨_, rfl, _, _, _, _, rfl, rfl, Same_t s2 h1, rfl, _, rfl, _, _, _, _, rfl, rfl, Same_t s2 h1, rfl, tl 2 rfl (by decide), fun p np => ?_⟩
      have s3 := Same_new (o := .tup [.ref ra, .ref wa]) np
      exact ⟨.ref p, s.tar, rfl, ⟨p, ra, wa, rfl, SqT.of upd_same, Same_t (s2.trans s3) h2, Same_t (s2.trans s3) h3⟩, ok.tar, fun H4 s4 => k _ ((s2.trans s3).trans s4)⟩
theorem inV_str {x : Str} {ns : List Str} : inV (.str x) (ns.map V.str) = decide (x ∈ ns) := by
  unfold inV
  rw [List.any_map]
  by_cases h : x ∈ ns
  · rw [decide_eq_true h]
    refine List.any_eq_true.mpr ⟨x, h, ?_⟩
    show (x == x) = true
    exact beq_self_eq_true x
  · rw [decide_eq_false h]
    refine List.any_eq_false.mpr fun y hy e => h ?_
    have e' : (y == x) = true := e
    rw [← eq_of_beq e']
    exact hy
theorem flat_strs (ns : List Str) : (ns.map V.str).all flatV = true := List.all_eq_true.mpr fun v hv => by
  obtain ⟨n, _, rfl⟩ := List.mem_map.mp hv
  rfl
def sp_check_keep (T : Ctx K mg) : Sp := fun vs H Q _ => ∃ v na kp ns, vs = [v, .ref na] ∧ Dp K H v (dKeep kp) ∧ SqL K H na (ns.map V.str) ∧ kp.Valid ns ∧ Q .non H
theorem ok_check_keep (T : Ctx K mg) : FnOk P w K mg base CX0 1 T.a_check_keep T.fd_check_keep ["keep", "names"] (sp_check_keep T) := by
  refine T.F_check_keep.ok sc_check_keep (fun vs H Q E h => ?_) (fun cdv A outer s H vs Q E hr h => ?_)
  · obtain ⟨v, na, kp, ns, rfl, hK, hn, ok, k⟩ := h
    rfl
  · obtain ⟨v, na, kp, ns, rfl, hK, hn, ok, k⟩ := h
    refine ⟨_, PSs.nox (pss_cons (ps_asg (pv 0) (pg_tup rfl (pgs_cons (pg_name (i := 2) sc_check_keep.nd rfl (Or.inl rfl)) (pgs_cons (pg_name (i := 3) sc_check_keep.nd rfl (Or.inl rfl)) (pgs_cons (pg_name (i := 4) sc_check_keep.nd rfl (Or.inl rfl)) (pgs_cons (pg_name (i := 5) sc_check_keep.nd rfl (Or.inl rfl)) (pgs_cons (pg_name (i := 6) sc_check_keep.nd rfl (Or.inl rfl)) pgs_nil)))))))
    (pss_cons (ps_if (PW.pt (pw_or (pt_cmpR op_notIn_seq (pv 2) (pv 1) (by rfl)) (pw_or (pt_cmpR op_lt (pv 3) pe_int (nomark _)) (pw_or1 (pt_cmpR op_gt (pv 3) (pe_glob (v := .int 40) rfl T.i_MAX_MOST ⟨_, rfl⟩) (nomark _))))))
      (pss_one ps_never)
      pss_nil)
    (pss_one (ps_if (PW.pt (pw_or (pt_cmpR op_lt (pv 4) pe_int (nomark _)) (pw_or (pt_cmpR op_ge (pv 4) (pv 5) (nomark _)) (pw_or (pt_cmpR op_gt (pv 5) (pv 6) (nomark _)) (pw_or1 (pt_cmpR op_gt (pv 6) (pe_glob (v := .int 100) rfl T.i_MAX_PERIOD ⟨_, rfl⟩) (nomark _)))))))
      (pss_one ps_never)
      pss_nil)))), ?_⟩
    obtain ⟨a, rfl, ha⟩ := keep_inv hK
    have least := ok.least
    have when_ := ok.when_
    refine ⟨_, rfl, _, _, rfl, ha, rfl, _, _, rfl, _, _, rfl, _, _, rfl, _, _, rfl, _, _, rfl, rfl, ?_⟩
    refine ⟨_, rfl, _, rfl, na, _, rfl, .inl hn, rfl, flat_strs ns, _, rfl, ?_⟩
    rw [show (if true = true then !inV (.str kp.name) (ns.map V.str) else inV (.str kp.name) (ns.map V.str)) = false by rw [inV_str, decide_eq_true ok.name]; rfl]
    refine iteF ⟨_, rfl, _, _, rfl, rfl, _, rfl, iteDF (by omega) ?_⟩
    refine ⟨_, rfl, _, _, rfl, rfl, _, rfl, iteDF (by omega) ?_⟩
    refine ⟨_, rfl, _, _, rfl, rfl, _, rfl, iteDF (by omega) ?_⟩
    refine ⟨_, rfl, _, rfl, _, _, rfl, rfl, _, rfl, iteDF (by omega) ?_⟩
    refine ⟨_, rfl, _, rfl, _, _, rfl, rfl, _, rfl, iteDF (by omega) ?_⟩
    exact ⟨_, rfl, _, _, rfl, rfl, _, rfl, iteDF (by omega) k⟩
def sp_check_house (T : Ctx K mg) : Sp := fun vs H Q _ => ∃ v S, vs = [v] ∧ Dp K H v (dSett S) ∧ S.Valid ∧ ∀ H', Same H H' → Q .non H'
theorem ok_check_house (T : Ctx K mg) : FnOk P w K mg base CX0 3 T.a_check_house T.fd_check_house ["setting"] (sp_check_house T) := by
  have G_check_service := ok_check_service (P := P) (w := w) (base := base) T
  have G_check_keep := ok_check_keep (P := P) (w := w) (base := base) T
  refine T.F_check_house.ok sc_check_house (fun vs H Q E h => ?_) (fun cdv A outer s H vs Q E hr h => ?_)
  · obtain ⟨v, S, rfl, hS, ok, k⟩ := h
    rfl
  · obtain ⟨v, S, rfl, hS, ok, k⟩ := h
    refine ⟨_, PSs.nox (pss_cons (ps_asg (pv 0) (pg_tup rfl (pgs_cons (pg_name (i := 1) sc_check_house.nd rfl (Or.inl rfl)) (pgs_cons (pg_name (i := 2) sc_check_house.nd rfl (Or.inl rfl)) (pgs_cons (pg_name (i := 3) sc_check_house.nd rfl (Or.inl rfl)) pgs_nil)))))
    (pss_cons (ps_if (PW.pt (pw_or (pt_cmpR op_lt (pv 1) pe_int (nomark _)) (pw_or (pt_cmpR op_gt (pv 1) (pe_glob (v := .int 200) rfl T.i_MAX_QUOTA ⟨_, rfl⟩) (nomark _)) (pw_or (pt_cmpR op_lt (pe_callB call_len_seq (by rfl) T.n_len (by decide +kernel) (pa_cons (pv 2) pa_nil)) pe_int (nomark _)) (pw_or1 (pt_cmpR op_gt (pe_callB call_len_seq (by rfl) T.n_len (by decide +kernel) (pa_cons (pv 2) pa_nil)) (pe_glob (v := .int 6) rfl T.i_MAX_SERVICES ⟨_, rfl⟩) (nomark _)))))))
      (pss_one ps_never)
      pss_nil)
    (pss_cons (ps_set (i := 4) sc_check_house.nd rfl (Or.inl rfl) (pe_lst pa_nil))
    (pss_cons (ps_for PassesOwn.never rfl (pi_tup (pv 2)) (pg_name (i := 5) sc_check_house.nd rfl (Or.inl rfl))
      (pss_cons (ps_expr (pe_call G_check_service (hr.mono (by decide)) rfl T.g_check_service T.F_check_service.kp T.b_check_service .nil pass0 (pa_cons (pv 5) pa_nil)))
      (pss_cons (ps_if (pt_cmpR op_in_seq (pe_ix ix_tup (pv 5) pe_int (fun _ _ => rfl)) (pv 4) (by rfl))
        (pss_one ps_never)
        pss_nil)
      (pss_one (ps_expr (pe_bm PySem.F.plainAttrs_list PySem.F.slot_list_append PySem.F.type_list_append mt_append (pv 4) (pa_cons (pe_ix ix_tup (pv 5) pe_int (fun _ _ => rfl)) pa_nil)))))))
    (pss_cons (ps_if (pt_cmpR op_gt (pe_callB call_len_seq (by rfl) T.n_len (by decide +kernel) (pa_cons (pv 3) pa_nil)) (pe_glob (v := .int 12) rfl T.i_MAX_KEEPS ⟨_, rfl⟩) (nomark _))
      (pss_one ps_never)
      pss_nil)
    (pss_one (ps_for PassesOwn.never rfl (pi_tup (pv 3)) (pg_name (i := 6) sc_check_house.nd rfl (Or.inl rfl))
      (pss_one (ps_expr (pe_call G_check_keep (hr.mono (by decide)) rfl T.g_check_keep T.F_check_keep.kp T.b_check_keep .nil pass0 (pa_cons (pv 6) (pa_cons (pv 4) pa_nil)))))))))))), ?_⟩
    obtain ⟨a, sa, ka, ss, ks, rfl, h1, h2, h3, h4, h5⟩ := sett_inv hS
    have e3 : ss.length = S.servs.length := by rw [dpa_len h3, List.length_map]
    have e5 : ks.length = S.keeps.length := by rw [dpa_len h5, List.length_map]
    have many := ok.many
    have quota := ok.quota
    have kn := ok.keepsN
    refine ⟨_, rfl, _, _, rfl, h1, rfl, _, _, rfl, _, _, rfl, _, _, rfl, rfl, ?_⟩
    refine ⟨_, rfl, _, _, rfl, rfl, _, rfl, iteDF (by omega) ?_⟩
    refine ⟨_, rfl, _, _, rfl, rfl, _, rfl, iteDF (by omega) ?_⟩
    refine ⟨_, rfl, _, _, rfl, .inr h2, _, _, rfl, rfl, _, rfl, iteDF (by omega) ?_⟩
    refine ⟨_, rfl, _, _, rfl, .inr h2, _, _, rfl, rfl, _, rfl, iteDF (by omega) ?_⟩
    -- names = []
    refine ⟨tl 0 rfl (by decide), fun D nD => ?_⟩
    have s0 := Same_new (o := .lst []) nD
    -- for service in services
    refine ⟨_, rfl, sa, rfl, ⟨ss, Same_t s0 h2⟩, for_tup (xs := ss) (fun i σ H' => ∃ x5 : Option V, σ = [some (.ref a), some (.int S.quota), some (.ref sa), some (.ref ka), some (.ref D), x5, none] ∧ Same H H' ∧ H' D = some (.lst (((S.servs.take i).map fun s => s.name).map V.str)))
      ⟨none, rfl, s0, upd_same⟩ (fun i σ H' _ ⟨_, _, e, _⟩ => Same_t e h2) ?_ ?_⟩
    · rintro i x σ H1 hi ⟨x5, rfl, s1, hD⟩
      obtain ⟨s, hs, hd⟩ := dpa_map_at h3 hi
      have il : i < S.servs.length := (List.getElem?_eq_some_iff.mp hs).1
      obtain ⟨va, ra, wa, rfl, q1, q2, q3⟩ := serv_inv hd
      refine ⟨_, rfl, .ref va, s, rfl, Same_dp s1 hd, ok.servs s (List.mem_of_getElem? hs), fun H2 s2 => ?_⟩
      have s02 := s1.trans s2
      have hD2 := s2 _ _ hD
      have nin : ¬ s.name ∈ (S.servs.take i).map fun s => s.name := by
        intro hm
        obtain ⟨s', hs', e⟩ := List.mem_map.mp hm
        obtain ⟨j, hj⟩ := List.getElem?_of_mem hs'
        have hji : j < i := by
          have := (List.getElem?_eq_some_iff.mp hj).1
          rw [List.length_take] at this
          omega
        have hj' : S.servs[j]? = some s' := by
          rw [List.getElem?_take] at hj
          rw [if_pos hji] at hj
          exact hj
        have a1 : (S.servs.map fun s => s.name)[j]? = some s.name := by rw [List.getElem?_map, hj']; exact congrArg some e
        have a2 : (S.servs.map fun s => s.name)[i]? = some s.name := by rw [List.getElem?_map, hs]; rfl
        have := nd_ix ok.names a1 a2
        omega
      refine ⟨_, rfl, _, _, _, _, rfl, rfl, Same_t s02 q1, rfl, _, rfl, D, _, rfl, .inl (SqL.of hD2), rfl, flat_strs _, _, rfl, ?_⟩
      rw [show (if false = true then !inV (.str s.name) (((S.servs.take i).map fun s => s.name).map V.str) else inV (.str s.name) (((S.servs.take i).map fun s => s.name).map V.str)) = false by rw [if_neg Bool.false_ne_true, inV_str, decide_eq_false nin]]
      refine iteF ⟨_, rfl, .inl ⟨rfl, _, SqL.of hD2⟩, _, rfl, _, _, _, _, rfl, rfl, Same_t s02 q1, rfl, D, _, _, rfl, rfl, hD2, less_of ?_, _, rfl, Same_mut s02 nD, ?_⟩
      · rw [List.length_map, List.length_map, List.length_take]
        omega
      · rw [take_snoc hs, List.map_append, List.map_append]
        exact upd_same
    · rintro σ H1 ⟨x5, rfl, s1, hD⟩
      rw [e3, List.take_length] at hD
      refine ⟨_, rfl, _, _, rfl, .inr (Same_t s1 h4), _, _, rfl, rfl, _, rfl, iteDF (by omega) ?_⟩
      -- for keep in keeps
      refine ⟨_, rfl, ka, rfl, ⟨ks, Same_t s1 h4⟩, for_tup (xs := ks) (fun i σ H' => H' = H1 ∧ ∃ x6 : Option V, σ = [some (.ref a), some (.int S.quota), some (.ref sa), some (.ref ka), some (.ref D), x5, x6]) ⟨rfl, none, rfl⟩ (fun i σ H' _ p => by rw [p.1]; exact Same_t s1 h4) ?_ ?_⟩
      · rintro i x σ H2 hi ⟨rfl, x6, rfl⟩
        obtain ⟨kp, hk, hd⟩ := dpa_map_at h5 hi
        exact ⟨_, rfl, _, rfl, x, D, kp, _, rfl, Same_dp s1 hd, SqL.of hD, ok.keeps kp (List.mem_of_getElem? hk), rfl, _, rfl⟩
      · rintro σ H2 ⟨rfl, x6, rfl⟩
        exact k _ s1
def sp_check_entry (T : Ctx K mg) : Sp := fun vs H Q _ => ∃ v, ∃ e : List Row, ∃ n : Nat, vs = [v, .int (n : Int)] ∧ Dp K H v (dEntry e) ∧ e.length = n ∧ (∀ r ∈ e, (1 ≤ r.price ∧ r.price ≤ 100) ∧ 0 ≤ r.came ∧ r.came ≤ 1000) ∧ Q .non H
theorem ok_check_entry (T : Ctx K mg) : FnOk P w K mg base CX0 1 T.a_check_entry T.fd_check_entry ["entry", "many"] (sp_check_entry T) := by
  refine T.F_check_entry.ok sc_check_entry (fun vs H Q E h => ?_) (fun cdv A outer s H vs Q E hr h => ?_)
  · obtain ⟨v, e, n, rfl, hE, hn, ok, k⟩ := h
    rfl
  · obtain ⟨v, e, n, rfl, hE, hn, ok, k⟩ := h
    refine ⟨_, PSs.nox (pss_cons (ps_if (pt_cmpR op_ne (pe_callB call_len_seq (by rfl) T.n_len (by decide +kernel) (pa_cons (pv 0) pa_nil)) (pv 1) (nomark _))
      (pss_one ps_never)
      pss_nil)
    (pss_one (ps_for PassesOwn.never rfl (pi_list (pv 0)) (pg_tup rfl (pgs_cons (pg_name (i := 2) sc_check_entry.nd rfl (Or.inl rfl)) (pgs_cons (pg_name (i := 3) sc_check_entry.nd rfl (Or.inl rfl)) (pgs_cons (pg_name (i := 4) sc_check_entry.nd rfl (Or.inl rfl)) pgs_nil))))
      (pss_one (ps_if (PW.pt (pw_or (pt_cmpR op_lt (pv 2) pe_int (nomark _)) (pw_or (pt_cmpR op_gt (pv 2) (pe_glob (v := .int 100) rfl T.i_MAX_PRICE ⟨_, rfl⟩) (nomark _)) (pw_or (pt_cmpR op_lt (pv 3) pe_int (nomark _)) (pw_or1 (pt_cmpR op_gt (pv 3) (pe_glob (v := .int 1000) rfl T.i_MAX_CAME ⟨_, rfl⟩) (nomark _)))))))
        (pss_one ps_never)
        pss_nil))))), ?_⟩
    obtain ⟨ea, es, rfl, he, hes⟩ := dp_lst hE
    have e1 : es.length = e.length := by rw [dpa_len hes, List.length_map]
    refine ⟨_, rfl, _, _, rfl, .inl he, _, rfl, rfl, _, rfl, iteNF (by rw [e1, hn]) ?_⟩
    refine ⟨_, rfl, ea, rfl, ⟨es, he⟩, for_list (xs := es) (fun i σ H' => H' = H ∧ ∃ x2 x3 x4 : Option V, σ = [some (.ref ea), some (.int (n : Int)), x2, x3, x4]) ⟨rfl, none, none, none, rfl⟩ (fun i σ H' _ p => by rw [p.1]; exact he) ?_ ?_⟩
    · rintro i x σ H' hi ⟨rfl, x2, x3, x4, rfl⟩
      obtain ⟨r, hr, hd⟩ := dpa_map_at hes hi
      obtain ⟨a, rfl, ha⟩ := row_inv hd
      have hb := ok r (List.mem_of_getElem? hr)
      refine ⟨_, _, rfl, ha, rfl, _, _, rfl, _, _, rfl, _, _, rfl, rfl, ?_⟩
      refine ⟨_, rfl, _, _, rfl, rfl, _, rfl, iteDF (by omega) ?_⟩
      refine ⟨_, rfl, _, _, rfl, rfl, _, rfl, iteDF (by omega) ?_⟩
      refine ⟨_, rfl, _, _, rfl, rfl, _, rfl, iteDF (by omega) ?_⟩
      exact ⟨_, rfl, _, _, rfl, rfl, _, rfl, iteDF (by omega) ⟨rfl, _, _, _, rfl⟩⟩
    · rintro σ H' ⟨rfl, x2, x3, x4, rfl⟩
      exact k
end
end K65
set_option Elab.async false
set_option linter.all false
set_option maxRecDepth 100000
set_option maxHeartbeats 4000000
namespace K65
open PySem L2
def houseF (sv q p e d : V) : List (Str × V) := [("told_setting", sv), ("queues", q), ("pools", p), ("entries", e), ("deeds", d), ("begun", .int 0)]
theorem h_tq : ¬ ("told_setting" : Str) = "queues" := by decide +kernel
theorem h_tp : ¬ ("told_setting" : Str) = "pools" := by decide +kernel
theorem h_te : ¬ ("told_setting" : Str) = "entries" := by decide +kernel
theorem h_td : ¬ ("told_setting" : Str) = "deeds" := by decide +kernel
theorem h_tb : ¬ ("told_setting" : Str) = "begun" := by decide +kernel
theorem h_qp : ¬ ("queues" : Str) = "pools" := by decide +kernel
theorem h_qe : ¬ ("queues" : Str) = "entries" := by decide +kernel
theorem h_qd : ¬ ("queues" : Str) = "deeds" := by decide +kernel
theorem h_qb : ¬ ("queues" : Str) = "begun" := by decide +kernel
theorem h_pe : ¬ ("pools" : Str) = "entries" := by decide +kernel
theorem h_pd : ¬ ("pools" : Str) = "deeds" := by decide +kernel
theorem h_pb : ¬ ("pools" : Str) = "begun" := by decide +kernel
theorem h_ed : ¬ ("entries" : Str) = "deeds" := by decide +kernel
theorem h_eb : ¬ ("entries" : Str) = "begun" := by decide +kernel
theorem h_db : ¬ ("deeds" : Str) = "begun" := by decide +kernel
section
variable (sv q p e d : V)
theorem houseF_t : (houseF sv q p e d).lookup ("told_setting" : Str) = some sv := lk_hit
theorem houseF_q : (houseF sv q p e d).lookup ("queues" : Str) = some q := (lk_miss (Ne.symm h_tq)).trans lk_hit
theorem houseF_p : (houseF sv q p e d).lookup ("pools" : Str) = some p := (lk_miss (Ne.symm h_tp)).trans ((lk_miss (Ne.symm h_qp)).trans lk_hit)
theorem houseF_e : (houseF sv q p e d).lookup ("entries" : Str) = some e := (lk_miss (Ne.symm h_te)).trans ((lk_miss (Ne.symm h_qe)).trans ((lk_miss (Ne.symm h_pe)).trans lk_hit))
theorem houseF_d : (houseF sv q p e d).lookup ("deeds" : Str) = some d := (lk_miss (Ne.symm h_td)).trans ((lk_miss (Ne.symm h_qd)).trans ((lk_miss (Ne.symm h_pd)).trans ((lk_miss (Ne.symm h_ed)).trans lk_hit)))
theorem houseF_b : (houseF sv q p e d).lookup ("begun" : Str) = some (.int 0) :=
  (lk_miss (Ne.symm h_tb)).trans ((lk_miss (Ne.symm h_qb)).trans ((lk_miss (Ne.symm h_pb)).trans ((lk_miss (Ne.symm h_eb)).trans ((lk_miss (Ne.symm h_db)).trans lk_hit))))
theorem houseF_no {m : Str} (h1 : ¬ m = "told_setting") (h2 : ¬ m = "queues") (h3 : ¬ m = "pools") (h4 : ¬ m = "entries") (h5 : ¬ m = "deeds") (h6 : ¬ m = "begun") : (houseF sv q p e d).lookup m = none :=
  (lk_miss h1).trans ((lk_miss h2).trans ((lk_miss h3).trans ((lk_miss h4).trans ((lk_miss h5).trans ((lk_miss h6).trans rfl)))))
end
section
variable {P : Program} {w : World} {K : PySem.W.Frag} {mg : Str → Option Value} {base : Heap} {H H1 : Hp}
theorem queue_ne_house {C C' dx dx' : Addr} {a b n : Int} {l sv q p e d : V} : HO.ins C dx (queueF a b l n) ≠ HO.ins C' dx' (houseF sv q p e d) := fun z => by
  injection z with _ _ z
  exact absurd (congrArg List.length z) (by show ¬ (4 : Nat) = 6; decide)
theorem pool_ne_house {C C' dx dx' : Addr} {sp : Int} {tv lv sv q p e d : V} : HO.ins C dx (poolF tv lv sp) ≠ HO.ins C' dx' (houseF sv q p e d) := fun z => by
  injection z with _ _ z
  exact absurd (congrArg List.length z) (by show ¬ (3 : Nat) = 6; decide)
/-- the house's own object, its lists of queues and pools, the number of its entries -/
def HouseOb (T : Ctx K mg) (H : Hp) (h : Addr) (S : Sett) (aq ap ae ad : Addr) (qs ps : List Addr) (n : Nat) : Prop :=
  ∃ dx sv vs, H h = some (.ins T.c_House dx (houseF sv (.ref aq) (.ref ap) (.ref ae) (.ref ad))) ∧ Dp K H sv (dSett S) ∧ H aq = some (.lst (qs.map V.ref)) ∧ H ap = some (.lst (ps.map V.ref)) ∧ H ae = some (.lst vs) ∧ vs.length = n
theorem HouseOb.same {T : Ctx K mg} {h aq ap ae ad : Addr} {S : Sett} {qs ps : List Addr} {n : Nat} (x : HouseOb T H h S aq ap ae ad qs ps n) (e : Same H H1) : HouseOb T H1 h S aq ap ae ad qs ps n := by
  obtain ⟨dx, sv, vs, h1, h2, h3, h4, h5, h6⟩ := x
  exact ⟨dx, sv, vs, e _ _ h1, Same_dp e h2, e _ _ h3, e _ _ h4, e _ _ h5, h6⟩
theorem HouseOb.keep {T : Ctx K mg} {h aq ap ae ad : Addr} {S : Sett} {qs ps : List Addr} {n : Nat} (x : HouseOb T H h S aq ap ae ad qs ps n) (u : Tups H H1)
    (kh : ∀ o, H h = some o → H1 h = some o) (kq : ∀ o, H aq = some o → H1 aq = some o) (kp : ∀ o, H ap = some o → H1 ap = some o) (ke : ∀ o, H ae = some o → H1 ae = some o) : HouseOb T H1 h S aq ap ae ad qs ps n := by
  obtain ⟨dx, sv, vs, h1, h2, h3, h4, h5, h6⟩ := x
  exact ⟨dx, sv, vs, kh _ h1, Tups_dp u (noL_sett S) h2, kq _ h3, kp _ h4, ke _ h5, h6⟩
theorem ref_at {qs : List Addr} {k : Nat} {q : Addr} (h : qs[k]? = some q) : (qs.map V.ref)[k]? = some (.ref q) := by
  rw [List.getElem?_map, h]
  rfl
def sp_House_now (T : Ctx K mg) : Sp := fun vs H Q _ => ∃ h S aq ap ae ad qs ps n, vs = [.ref h] ∧ HouseOb T H h S aq ap ae ad qs ps n ∧ Q (.int (n : Int)) H
theorem ok_House_now (T : Ctx K mg) : FnOk P w K mg base CX0 1 T.a_House_now T.fd_House_now ["self"] (sp_House_now T) := by
  refine T.F_House_now.ok sc_House_now (fun vs H Q E h => ?_) (fun cdv A outer s H vs Q E hr h => ?_)
  · obtain ⟨h, S, aq, ap, ae, ad, qs, ps, n, rfl, hO, k⟩ := h
    rfl
  · obtain ⟨h, S, aq, ap, ae, ad, qs, ps, n, rfl, hO, k⟩ := h
    refine ⟨_, PSs.nox (pss_one (ps_ret (pe_op op_add (pe_fld (pv 0) rfl) (pe_callB call_len_seq (by rfl) T.n_len (by decide +kernel) (pa_cons (pe_fld (pv 0) rfl) pa_nil))))), ?_⟩
    obtain ⟨dx, sv, vs, h1, h2, h3, h4, h5, h6⟩ := hO
    refine ⟨_, rfl, h, T.c_House, dx, _, _, rfl, h1, T.cl_House, T.n_House_begun, houseF_b _ _ _ _ _, _, rfl, h, T.c_House, dx, _, _, rfl, h1, T.cl_House, T.n_House_entries, houseF_e _ _ _ _ _, _, _, rfl, .inl (SqL.of h5), _, _, rfl, rfl, ?_⟩
    show Q (.int (0 + (vs.length : Int))) H
    rw [h6, Int.zero_add]
    exact k
def limOf (s : Serv) (q : QS) (p : PoolS) (price came : Int) : Int := p.lim s.tar price (wantedI (q.due s.lag came) s.room s.most) s.budget
def sp_House_plan (T : Ctx K mg) : Sp := fun vs H Q _ => ∃ (h : Addr) (S : Sett) (aq ap ae ad : Addr) (qs ps : List Addr) (n k : Nat) (price came : Int) (s : Serv) (q l p a : Addr) (qst : QS) (pst : PoolS), vs = [.ref h, .int (k : Int), .int price, .int came] ∧
  HouseOb T H h S aq ap ae ad qs ps n ∧ S.servs[k]? = some s ∧ s.Ok ∧ qs[k]? = some q ∧ ps[k]? = some p ∧ QueueAt T H q l s.lag s.patience qst ∧ qst.Ok ∧ PoolAt T H p a s.tar pst ∧ pst.Ok s.tar ∧ 0 ≤ came ∧
  ∀ H' r, Same H H' → SqT K H' r [.int (qst.due s.lag came), .int (wantedI (qst.due s.lag came) s.room s.most), .int (limOf s qst pst price came)] → Q (.ref r) H'
theorem ok_House_plan (T : Ctx K mg) : FnOk P w K mg base CX0 9 T.a_House_plan T.fd_House_plan ["self", "k", "price", "came"] (sp_House_plan T) := by
  have G_Queue_due := ok_Queue_due (P := P) (w := w) (base := base) T
  have G_wanted := ok_wanted (P := P) (w := w) (base := base) T
  have G_limit := ok_limit (P := P) (w := w) (base := base) T
  refine T.F_House_plan.ok sc_House_plan (fun vs H Q E h => ?_) (fun cdv A outer s H vs Q E hr h => ?_)
  · obtain ⟨h, S, aq, ap, ae, ad, qs, ps, n, k, price, came, s, q, l, p, a, qst, pst, rfl, hO, hs, ok, hqk, hpk, hQ, qok, hP, pok, c0, kk⟩ := h
    rfl
  · obtain ⟨h, S, aq, ap, ae, ad, qs, ps, n, k, price, came, s, q, l, p, a, qst, pst, rfl, hO, hs, ok, hqk, hpk, hQ, qok, hP, pok, c0, kk⟩ := h
    refine ⟨_, PSs.nox (pss_cons (ps_set (i := 4) sc_House_plan.nd rfl (Or.inl rfl) (pe_ix ix_tup (pe_ix ix_tup (pe_fld (pv 0) rfl) pe_int (fun _ _ => rfl)) (pv 1) (fun _ _ => rfl)))
    (pss_cons (ps_set (i := 5) sc_House_plan.nd rfl (Or.inl rfl) (pe_meth (pe_ix ix_list (pe_fld (pv 0) rfl) (pv 1) (fun _ _ => rfl)) T.cl_Queue T.m_Queue_due G_Queue_due (hr.mono (by decide)) T.b_Queue_due .nil pass0 (pa_cons (pv 3) pa_nil)))
    (pss_cons (ps_set (i := 6) sc_House_plan.nd rfl (Or.inl rfl) (pe_call G_wanted (hr.mono (by decide)) rfl T.g_wanted T.F_wanted.kp T.b_wanted .nil pass0 (pa_cons (pv 5) (pa_cons (pe_ix ix_tup (pv 4) pe_int (fun _ _ => rfl)) (pa_cons (pe_ix ix_tup (pv 4) pe_int (fun _ _ => rfl)) pa_nil)))))
    (pss_one (ps_ret (pe_tup (pa_cons (pv 5) (pa_cons (pv 6) (pa_cons (pe_call G_limit (hr.mono (by decide)) rfl T.g_limit T.F_limit.kp T.b_limit .nil pass0 (pa_cons (pe_ix ix_list (pe_fld (pv 0) rfl) (pv 1) (fun _ _ => rfl)) (pa_cons (pv 2) (pa_cons (pv 6) (pa_cons (pe_ix ix_tup (pv 4) pe_int (fun _ _ => rfl)) pa_nil))))) pa_nil))))))))), ?_⟩
    obtain ⟨dx, sv, vs, h1, h2, h3, h4, h5, h6⟩ := hO
    obtain ⟨sa, ssa, ka, ss, ks, rfl, g1, g2, g3, g4, g5⟩ := sett_inv h2
    obtain ⟨v, hv, hdv⟩ := dpa_get (d := dServ s) g3 (by rw [List.getElem?_map, hs]; rfl)
    obtain ⟨va, ra, wa, rfl, q1, q2, q3⟩ := serv_inv hdv
    obtain ⟨qdx, qxs, hq, hl, hxs⟩ := id hQ
    have w0 := wanted_nn (QS.due_nn qok s.lag came c0) ok.room.1 ok.most.1
    have w1 := wanted_le (qst.due s.lag came) s.room s.most
    have most := ok.most.2
    refine ⟨_, rfl, h, T.c_House, dx, _, _, rfl, h1, T.cl_House, T.n_House_told_setting, houseF_t _ _ _ _ _, _, _, _, _, rfl, rfl, g1, rfl, _, rfl, _, _, _, _, rfl, rfl, g2, atI_nat hv, ?_⟩
    refine ⟨_, rfl, h, T.c_House, dx, _, _, rfl, h1, T.cl_House, T.n_House_queues, houseF_q _ _ _ _ _, _, rfl, aq, _, _, _, rfl, rfl, SqL.of h3, atI_nat (ref_at hqk), q, qdx, _, rfl, hq, queueF_no _ _ _ _ (by decide +kernel) (by decide +kernel) (by decide +kernel) (by decide +kernel), _, rfl, q, l, s.lag, s.patience, came, qst, rfl, hQ, ?_⟩
    refine ⟨_, rfl, _, rfl, _, _, _, _, rfl, rfl, q1, rfl, _, rfl, _, _, _, _, rfl, rfl, q1, rfl, _, _, _, rfl, ok.room.1, by have := ok.room.2; omega, ?_⟩
    refine ⟨_, rfl, _, rfl, _, rfl, h, T.c_House, dx, _, _, rfl, h1, T.cl_House, T.n_House_pools, houseF_p _ _ _ _ _, _, rfl, ap, _, _, _, rfl, rfl, SqL.of h4, atI_nat (ref_at hpk), _, rfl, _, rfl, _, rfl, _, _, _, _, rfl, rfl, q1, rfl, p, a, s.tar, pst, _, _, _, rfl, hP, ok.tar, pok, by omega, by omega, fun H2 s2 => ⟨tl 3 rfl (by decide), fun r nr => ?_⟩⟩
    exact kk _ r (s2.trans (Same_new nr)) (SqT.of upd_same)
def sp_House_need (T : Ctx K mg) : Sp := fun vs H Q _ => ∃ (h : Addr) (S : Sett) (aq ap ae ad : Addr) (qs ps : List Addr) (n k : Nat) (price given : Int) (s : Serv) (p a : Addr) (pst : PoolS), vs = [.ref h, .int (k : Int), .int price, .int given] ∧
  HouseOb T H h S aq ap ae ad qs ps n ∧ S.Ok ∧ S.servs[k]? = some s ∧ ps[k]? = some p ∧ PoolAt T H p a s.tar pst ∧ pst.Ok s.tar ∧
  ∀ H', Same H H' → Q (.int (maxP given (pst.lim s.tar price (keptF S.keeps s.name (n : Int)) s.budget))) H'
theorem ok_House_need (T : Ctx K mg) : FnOk P w K mg base CX0 9 T.a_House_need T.fd_House_need ["self", "k", "price", "given"] (sp_House_need T) := by
  have G_kept := ok_kept (P := P) (w := w) (base := base) T
  have G_House_now := ok_House_now (P := P) (w := w) (base := base) T
  have G_limit := ok_limit (P := P) (w := w) (base := base) T
  refine T.F_House_need.ok sc_House_need (fun vs H Q E h => ?_) (fun cdv A outer s H vs Q E hr h => ?_)
  · obtain ⟨h, S, aq, ap, ae, ad, qs, ps, n, k, price, given, s, p, a, pst, rfl, hO, ok, hs, hpk, hP, pok, kk⟩ := h
    rfl
  · obtain ⟨h, S, aq, ap, ae, ad, qs, ps, n, k, price, given, s, p, a, pst, rfl, hO, ok, hs, hpk, hP, pok, kk⟩ := h
    refine ⟨_, PSs.nox (pss_cons (ps_set (i := 4) sc_House_need.nd rfl (Or.inl rfl) (pe_ix ix_tup (pe_ix ix_tup (pe_fld (pv 0) rfl) pe_int (fun _ _ => rfl)) (pv 1) (fun _ _ => rfl)))
    (pss_cons (ps_set (i := 5) sc_House_need.nd rfl (Or.inl rfl) (pe_call G_kept (hr.mono (by decide)) rfl T.g_kept T.F_kept.kp T.b_kept .nil pass0 (pa_cons (pe_fld (pv 0) rfl) (pa_cons (pe_ix ix_tup (pv 4) pe_int (fun _ _ => rfl)) (pa_cons (pe_meth0 (pv 0) T.cl_House T.m_House_now G_House_now (hr.mono (by decide)) T.b_House_now .nil pass0) pa_nil)))))
    (pss_one (ps_ret (pe_callB (call_max2 rfl) (by rfl) T.n_max (by decide +kernel) (pa_cons (pv 3) (pa_cons (pe_call G_limit (hr.mono (by decide)) rfl T.g_limit T.F_limit.kp T.b_limit .nil pass0 (pa_cons (pe_ix ix_list (pe_fld (pv 0) rfl) (pv 1) (fun _ _ => rfl)) (pa_cons (pv 2) (pa_cons (pv 5) (pa_cons (pe_ix ix_tup (pv 4) pe_int (fun _ _ => rfl)) pa_nil))))) pa_nil))))))), ?_⟩
    obtain ⟨dx, sv, vs, h1, h2, h3, h4, h5, h6⟩ := id hO
    obtain ⟨sa, ssa, ka, ss, ks, rfl, g1, g2, g3, g4, g5⟩ := sett_inv h2
    obtain ⟨v, hv, hdv⟩ := dpa_get (d := dServ s) g3 (by rw [List.getElem?_map, hs]; rfl)
    obtain ⟨va, ra, wa, rfl, q1, q2, q3⟩ := serv_inv hdv
    have sok := ok.servs s (List.mem_of_getElem? hs)
    have lk := keptF_ok s.name (n : Int) fun x hx => (ok.keeps x hx).2
    refine ⟨_, rfl, h, T.c_House, dx, _, _, rfl, h1, T.cl_House, T.n_House_told_setting, houseF_t _ _ _ _ _, _, _, _, _, rfl, rfl, g1, rfl, _, rfl, _, _, _, _, rfl, rfl, g2, atI_nat hv, ?_⟩
    refine ⟨_, rfl, h, T.c_House, dx, _, _, rfl, h1, T.cl_House, T.n_House_told_setting, houseF_t _ _ _ _ _, _, rfl, _, _, _, _, rfl, rfl, q1, rfl, _, rfl, h, dx, _, rfl, h1, houseF_no _ _ _ _ _ (by decide +kernel) (by decide +kernel) (by decide +kernel) (by decide +kernel) (by decide +kernel) (by decide +kernel), h, S, aq, ap, ae, ad, qs, ps, n, rfl, hO, ?_⟩
    refine ⟨.ref sa, S, s.name, (n : Int), rfl, h2, fun x hx => (ok.keeps x hx).1, ?_⟩
    refine ⟨_, rfl, _, rfl, h, T.c_House, dx, _, _, rfl, h1, T.cl_House, T.n_House_pools, houseF_p _ _ _ _ _, _, rfl, ap, _, _, _, rfl, rfl, SqL.of h4, atI_nat (ref_at hpk), _, rfl, _, rfl, _, rfl, _, _, _, _, rfl, rfl, q1, rfl, p, a, s.tar, pst, _, _, _, rfl, hP, sok.tar, pok, by omega, by omega, fun H2 s2 => ⟨_, _, rfl, ?_⟩⟩
    exact kk _ s2
def sp_House_do (T : Ctx K mg) : Sp := fun vs H Q _ => ∃ (h : Addr) (S : Sett) (aq ap ae ad : Addr) (qs ps : List Addr) (n k : Nat) (rv : V) (r : Row) (pl : Addr) (given : Int) (s : Serv) (q l p a : Addr) (qst : QS) (pst : PoolS), vs = [.ref h, .int (k : Int), rv, .ref pl, .int given] ∧
  HouseOb T H h S aq ap ae ad qs ps n ∧ S.Ok ∧ S.servs[k]? = some s ∧ qs[k]? = some q ∧ ps[k]? = some p ∧ QueueAt T H q l s.lag s.patience qst ∧ qst.rows.length < 1000 ∧ PoolAt T H p a s.tar pst ∧ pst.Ok s.tar ∧ (l ≠ a ∧ l ≠ aq ∧ l ≠ ap ∧ l ≠ ae) ∧ Dp K H rv (dRow r) ∧
  SqT K H pl [.int (qst.due s.lag r.came), .int (wantedI (qst.due s.lag r.came) s.room s.most), .int (limOf s qst pst r.price r.came)] ∧
  ∀ H' dv l' a', QueueAt T H' q l' s.lag s.patience (nextQ s qst r given) → PoolAt T H' p a' s.tar (nextP s (keptF S.keeps s.name (n : Int)) pst r given) → l' ≠ a' → But3 q l p H H' → Alive H H' → H l' = none → H a' = none →
    Dp K H' dv (dDeed (deedOf s (keptF S.keeps s.name (n : Int)) qst pst r given)) → Q dv H'
theorem ok_House_do (T : Ctx K mg) : FnOk P w K mg base CX0 10 T.a_House_do T.fd_House_do ["self", "k", "row", "planned", "given"] (sp_House_do T) := by
  have G_Queue_step := ok_Queue_step (P := P) (w := w) (base := base) T
  have G_House_need := ok_House_need (P := P) (w := w) (base := base) T
  have G_Pool_step := ok_Pool_step (P := P) (w := w) (base := base) T
  have G_Pool_end_break := ok_Pool_end_break (P := P) (w := w) (base := base) T
  have G_reason := ok_reason (P := P) (w := w) (base := base) T
  refine T.F_House_do.ok sc_House_do (fun vs H Q E h => ?_) (fun cdv A outer s H vs Q E hr h => ?_)
  · obtain ⟨h, S, aq, ap, ae, ad, qs, ps, n, k, rv, r, pl, given, s, q, l, p, a, qst, pst, rfl, hO, ok, hs, hqk, hpk, hQ, qz, hP, pok, ⟨nla, nlq, nlp, nle⟩, hR, hpl, kk⟩ := h
    rfl
  · obtain ⟨h, S, aq, ap, ae, ad, qs, ps, n, k, rv, r, pl, given, s, q, l, p, a, qst, pst, rfl, hO, ok, hs, hqk, hpk, hQ, qz, hP, pok, ⟨nla, nlq, nlp, nle⟩, hR, hpl, kk⟩ := h
    refine ⟨_, PSs.nox (pss_cons (ps_asg (pv 2) (pg_tup rfl (pgs_cons (pg_name (i := 5) sc_House_do.nd rfl (Or.inl rfl)) (pgs_cons (pg_name (i := 6) sc_House_do.nd rfl (Or.inl rfl)) (pgs_cons (pg_name (i := 7) sc_House_do.nd rfl (Or.inl rfl)) pgs_nil)))))
    (pss_cons (ps_asg (pv 3) (pg_tup rfl (pgs_cons (pg_name (i := 8) sc_House_do.nd rfl (Or.inl rfl)) (pgs_cons (pg_name (i := 9) sc_House_do.nd rfl (Or.inl rfl)) (pgs_cons (pg_name (i := 10) sc_House_do.nd rfl (Or.inl rfl)) pgs_nil)))))
    (pss_cons (ps_set (i := 11) sc_House_do.nd rfl (Or.inl rfl) (pe_ix ix_tup (pe_ix ix_tup (pe_ix ix_tup (pe_fld (pv 0) rfl) pe_int (fun _ _ => rfl)) (pv 1) (fun _ _ => rfl)) pe_int (fun _ _ => rfl)))
    (pss_cons (ps_set (i := 12) sc_House_do.nd rfl (Or.inl rfl) (pe_meth (pe_ix ix_list (pe_fld (pv 0) rfl) (pv 1) (fun _ _ => rfl)) T.cl_Queue T.m_Queue_step G_Queue_step (hr.mono (by decide)) T.b_Queue_step .nil pass0 (pa_cons (pv 6) (pa_cons (pe_op op_mul (pv 4) (pv 11)) pa_nil))))
    (pss_cons (ps_set (i := 13) sc_House_do.nd rfl (Or.inl rfl) (pe_ix ix_tup (pv 12) pe_int (fun _ _ => rfl)))
    (pss_cons (ps_set (i := 14) sc_House_do.nd rfl (Or.inl rfl) (pe_meth (pv 0) T.cl_House T.m_House_need G_House_need (hr.mono (by decide)) T.b_House_need .nil pass0 (pa_cons (pv 1) (pa_cons (pv 5) (pa_cons (pv 4) pa_nil)))))
    (pss_cons (ps_asg (pe_meth (pe_ix ix_list (pe_fld (pv 0) rfl) (pv 1) (fun _ _ => rfl)) T.cl_Pool T.m_Pool_step G_Pool_step (hr.mono (by decide)) T.b_Pool_step .nil pass0 (pa_cons (pv 5) (pa_cons (pv 14) pa_nil))) (pg_tup rfl (pgs_cons (pg_name (i := 15) sc_House_do.nd rfl (Or.inl rfl)) (pgs_cons (pg_name (i := 16) sc_House_do.nd rfl (Or.inl rfl)) pgs_nil))))
    (pss_cutK (ps_if (pt_val (pv 7))
      (pss_one (ps_expr (pe_meth0 (pe_ix ix_list (pe_fld (pv 0) rfl) (pv 1) (fun _ _ => rfl)) T.cl_Pool T.m_Pool_end_break G_Pool_end_break (hr.mono (by decide)) T.b_Pool_end_break .nil pass0)))
      pss_nil)
    (pss_cons (ps_set (i := 17) sc_House_do.nd rfl (Or.inl rfl) (pe_call G_reason (hr.mono (by decide)) rfl T.g_reason T.F_reason.kp T.b_reason .nil pass0 (pa_cons (pv 8) (pa_cons (pv 13) (pa_cons (pv 9) (pa_cons (pv 10) (pa_cons (pv 4) pa_nil)))))))
    (pss_one (ps_ret (pe_tup (pa_cons (pv 5) (pa_cons (pv 6) (pa_cons (pv 7) (pa_cons (pv 8) (pa_cons (pv 9) (pa_cons (pv 10) (pa_cons (pv 4) (pa_cons (pv 13) (pa_cons (pe_ix ix_tup (pv 12) pe_int (fun _ _ => rfl)) (pa_cons (pv 17) (pa_cons (pv 14) (pa_cons (pv 15) (pa_cons (pv 16) pa_nil))))))))))))))))))))))))), ?_⟩
    obtain ⟨dx, sv, vs, h1, h2, h3, h4, h5, h6⟩ := id hO
    obtain ⟨sa, ssa, ka, ss, ks, rfl, g1, g2, g3, g4, g5⟩ := sett_inv h2
    obtain ⟨v, hv, hdv⟩ := dpa_get (d := dServ s) g3 (by rw [List.getElem?_map, hs]; rfl)
    obtain ⟨va, ra, wa, rfl, q1, q2, q3⟩ := serv_inv hdv
    obtain ⟨rr, rfl, hrr⟩ := row_inv hR
    obtain ⟨qdx, qxs, hq, hl, hxs⟩ := id hQ
    obtain ⟨px, tv, ys, hp, hT, hla, hys⟩ := id hP
    have sok := ok.servs s (List.mem_of_getElem? hs)
    have npq : p ≠ q := (ne_of hq hp queue_ne_pool).symm
    have npl : p ≠ l := ne_of hp hl (by intro z; cases z)
    have naq : a ≠ q := ne_of hla hq (by intro z; cases z)
    have nhq : h ≠ q := (ne_of hq h1 queue_ne_house).symm
    have nhp : h ≠ p := (ne_of hp h1 pool_ne_house).symm
    have nhl : h ≠ l := ne_of h1 hl (by intro z; cases z)
    have nqq : aq ≠ q := ne_of h3 hq (by intro z; cases z)
    have npp : ap ≠ q := ne_of h4 hq (by intro z; cases z)
    have neq : ae ≠ q := ne_of h5 hq (by intro z; cases z)
    have nqp : aq ≠ p := ne_of h3 hp (by intro z; cases z)
    have npp2 : ap ≠ p := ne_of h4 hp (by intro z; cases z)
    have nep : ae ≠ p := ne_of h5 hp (by intro z; cases z)
    -- price, came, is_break = row; due, want, bound = planned; room
    refine ⟨_, rfl, _, _, rfl, hrr, rfl, _, _, rfl, _, _, rfl, _, _, rfl, rfl, ?_⟩
    refine ⟨_, rfl, _, _, rfl, hpl, rfl, _, _, rfl, _, _, rfl, _, _, rfl, rfl, ?_⟩
    refine ⟨_, rfl, h, T.c_House, dx, _, _, rfl, h1, T.cl_House, T.n_House_told_setting, houseF_t _ _ _ _ _, _, _, _, _, rfl, rfl, g1, rfl, _, rfl, _, _, _, _, rfl, rfl, g2, atI_nat hv, _, _, _, _, rfl, rfl, q1, rfl, ?_⟩
    -- moment = self.queues[k].step(came, given * room); run = moment[2]
    refine ⟨_, rfl, h, T.c_House, dx, _, _, rfl, h1, T.cl_House, T.n_House_queues, houseF_q _ _ _ _ _, _, rfl, aq, _, _, _, rfl, rfl, SqL.of h3, atI_nat (ref_at hqk), q, qdx, _, rfl, hq, queueF_no _ _ _ _ (by decide +kernel) (by decide +kernel) (by decide +kernel) (by decide +kernel), _, rfl, _, rfl, _, rfl, _, _, rfl, rfl, .inr (by have := sok.room; omega), ?_⟩
    refine ⟨q, l, s.lag, s.patience, r.came, _, qst, rfl, hQ, qz, fun H4 l4 r4 hQ4 b4 al4 nl4 nr4 hr4 => ?_⟩
    have u4 : Tups H H4 := QueueAt.two hQ b4
    have hP4 : PoolAt T H4 p a s.tar pst := PoolAt.keep hP u4 (fun o h => b4 _ _ h npq npl) (fun o h => b4 _ _ h naq nla.symm)
    have hO4 : HouseOb T H4 h S aq ap ae ad qs ps n := HouseOb.keep hO u4 (fun o x => b4 _ _ x nhq nhl) (fun o x => b4 _ _ x nqq nlq.symm) (fun o x => b4 _ _ x npp nlp.symm) (fun o x => b4 _ _ x neq nle.symm)
    obtain ⟨dx4, xs4, hq4, hl4, hxs4⟩ := id hQ4
    have nl4p : l4 ≠ p := fun z => by rw [z, hp] at nl4; cases nl4
    refine ⟨_, rfl, _, _, _, _, rfl, rfl, hr4, rfl, ?_⟩
    -- need = self.need(k, price, given)
    have h14 := b4 _ _ h1 nhq nhl
    refine ⟨_, rfl, h, dx, _, rfl, h14, houseF_no _ _ _ _ _ (by decide +kernel) (by decide +kernel) (by decide +kernel) (by decide +kernel) (by decide +kernel) (by decide +kernel), _, rfl, _, rfl, _, rfl, h, S, aq, ap, ae, ad, qs, ps, n, k, _, _, s, p, a, pst, rfl, hO4, ok, hs, hpk, hP4, pok, fun H5 s5 => ?_⟩
    have hP5 := hP4.same s5
    obtain ⟨px5, tv5, ys5, hp5, hT5, hla5, hys5⟩ := id hP5
    have h15 := s5 _ _ h14
    have h45 : H5 ap = some (.lst (ps.map V.ref)) := s5 _ _ (b4 _ _ h4 npp nlp.symm)
    -- states, cost = self.pools[k].step(price, need)
    refine ⟨_, rfl, h, T.c_House, dx, _, _, rfl, h15, T.cl_House, T.n_House_pools, houseF_p _ _ _ _ _, _, rfl, ap, _, _, _, rfl, rfl, SqL.of h45, atI_nat (ref_at hpk), p, px5, _, rfl, hp5, poolF_no _ _ _ (by decide +kernel) (by decide +kernel) (by decide +kernel), _, rfl, _, rfl, p, a, s.tar, pst, _, _, rfl, hP5, sok.tar, pok, fun H6 r6 t6 a6 hP6 b6 na6 nr6 hr6 ht6 => ?_⟩
    have u6 : Tups H5 H6 := But.tups hp5 rfl b6
    refine ⟨_, _, rfl, hr6, rfl, _, _, rfl, _, _, rfl, rfl, ?_⟩
    have hQ6 : QueueAt T H6 q l4 s.lag s.patience (nextQ s qst r given) := QueueAt.keep (hQ4.same s5) u6 (fun o h => b6 _ _ h npq.symm) (fun o h => b6 _ _ h nl4p)
    have al5 : Alive H H5 := al4.trans (Same_alive s5)
    obtain ⟨px6, tv6, ys6, hp6, hT6, hla6, hys6⟩ := id hP6
    have al6 : Alive H H6 := al5.trans (Alive.of1 b6 hp6)
    have bb6 : But3 q l p H H6 := fun b o e h1 h2 h3 => b6 _ _ (s5 _ _ (b4 _ _ e h1 h2)) h3
    have nl46 : l4 ≠ a6 := fun z => by
      rw [← z, s5 _ _ hl4] at na6
      cases na6
    have h16 := b6 _ _ h15 nhp
    have h46 := b6 _ _ h45 npp2
    -- if is_break: self.pools[k].end_break()
    refine ⟨fun σ' H7 => ∃ a7, σ' = [some (.ref h), some (.int (k : Int)), some (.ref rr), some (.ref pl), some (.int given), some (.int r.price), some (.int r.came), some (.bl r.brk), some (.int (deedOf s (keptF S.keeps s.name (n : Int)) qst pst r given).due), some (.int (deedOf s (keptF S.keeps s.name (n : Int)) qst pst r given).want),
      some (.int (deedOf s (keptF S.keeps s.name (n : Int)) qst pst r given).limit), some (.int s.room), some (.ref r4), some (.int (deedOf s (keptF S.keeps s.name (n : Int)) qst pst r given).run), some (.int (deedOf s (keptF S.keeps s.name (n : Int)) qst pst r given).need), some (.ref t6), some (.int (deedOf s (keptF S.keeps s.name (n : Int)) qst pst r given).cost), none] ∧
      QueueAt T H7 q l4 s.lag s.patience (nextQ s qst r given) ∧ PoolAt T H7 p a7 s.tar (nextP s (keptF S.keeps s.name (n : Int)) pst r given) ∧ l4 ≠ a7 ∧ But3 q l p H H7 ∧ Alive H H7 ∧ H a7 = none ∧ Tups H6 H7, ?_, ?_⟩
    · refine ⟨_, rfl, _, rfl, ?_⟩
      cases hb : r.brk with
      | true =>
        refine iteT ⟨_, rfl, h, T.c_House, dx, _, _, rfl, h16, T.cl_House, T.n_House_pools, houseF_p _ _ _ _ _, _, rfl, ap, _, _, _, rfl, rfl, SqL.of h46, atI_nat (ref_at hpk), p, px6, _, rfl, hp6, poolF_no _ _ _ (by decide +kernel) (by decide +kernel) (by decide +kernel), p, a6, s.tar, _, rfl, hP6, fun H7 a7 hP7 b7 na7 => ?_⟩
        have u7 : Tups H6 H7 := But.tups hp6 rfl b7
        obtain ⟨dx6, xs6, hq6, hl6, hxs6⟩ := id hQ6
        obtain ⟨px7, tv7, ys7, hp7, hT7, hla7, hys7⟩ := id hP7
        refine ⟨a7, rfl, QueueAt.keep hQ6 u7 (fun o h => b7 _ _ h npq.symm) (fun o h => b7 _ _ h nl4p), ?_, ?_, fun b o e h1 h2 h3 => b7 _ _ (bb6 _ _ e h1 h2 h3) h3, al6.trans (Alive.of1 b7 hp7), al6 _ na7, u7⟩
        · unfold nextP
          rw [if_pos hb]
          exact hP7
        · intro z
          rw [← z, hl6] at na7
          cases na7
      | false =>
        refine iteF ⟨a6, rfl, hQ6, ?_, nl46, bb6, al6, al5 _ na6, Tups.refl _⟩
        unfold nextP
        rw [if_neg (by rw [hb]; decide)]
        exact hP6
    · rintro σ' H7 ⟨a7, rfl, hQ7, hP7, nl47, bb7, al7, na7, u7⟩
      have u47 : Tups H4 H7 := (Same.tups s5).trans (u6.trans u7)
      -- why = reason(..); return the deed
      refine ⟨_, rfl, _, rfl, _, rfl, _, rfl, _, rfl, _, _, _, _, _, rfl, ?_⟩
      refine ⟨_, rfl, _, rfl, _, rfl, _, rfl, _, rfl, _, rfl, _, rfl, _, rfl, _, rfl, _, _, _, _, rfl, rfl, Tups_t u47 hr4, rfl, _, rfl, _, rfl, _, rfl, _, rfl, tl 13 rfl (by decide), fun d nd => ?_⟩
      have s8 := Same_new (o := .tup [.int r.price, .int r.came, .bl r.brk, .int (deedOf s (keptF S.keeps s.name (n : Int)) qst pst r given).due, .int (deedOf s (keptF S.keeps s.name (n : Int)) qst pst r given).want, .int (deedOf s (keptF S.keeps s.name (n : Int)) qst pst r given).limit, .int given, .int (deedOf s (keptF S.keeps s.name (n : Int)) qst pst r given).run,
        .int (deedOf s (keptF S.keeps s.name (n : Int)) qst pst r given).dropped, .str (deedOf s (keptF S.keeps s.name (n : Int)) qst pst r given).why, .int (deedOf s (keptF S.keeps s.name (n : Int)) qst pst r given).need, .ref t6, .int (deedOf s (keptF S.keeps s.name (n : Int)) qst pst r given).cost]) nd
      exact kk _ (.ref d) l4 a7 (hQ7.same s8) (hP7.same s8) nl47 (fun b o e h1 h2 h3 => s8 _ _ (bb7 _ _ e h1 h2 h3)) (al7.trans (Same_alive s8)) nl4 na7
        (deed_of (d := deedOf s (keptF S.keeps s.name (n : Int)) qst pst r given) (SqT.of upd_same) (Same_t s8 (Tups_t u7 ht6)))
end
end K65
set_option Elab.async false
set_option linter.all false
set_option maxRecDepth 100000
set_option maxHeartbeats 4000000
/-! the house's own objects: a family of queues and pools, and what stays apart from them -/
namespace K65
open PySem L2
theorem none_of {α : Type} {o : Option α} (h : ∀ a, o ≠ some a) : o = none := by
  cases o with
  | none => rfl
  | some a => exact absurd rfl (h a)
section
variable {B H H1 : Hp} {A : Hp → Nat → Addr → Addr → Prop} {xs : List (Addr × Addr)} {mu : List Addr}
structure Fam (B H : Hp) (A : Hp → Nat → Addr → Addr → Prop) (xs : List (Addr × Addr)) (mu : List Addr) : Prop where
  each : ∀ (k : Nat) (x : Addr × Addr), xs[k]? = some x → A H k x.1 x.2
  dist : ∀ (i j : Nat) (x y : Addr × Addr), xs[i]? = some x → xs[j]? = some y → i ≠ j → x.1 ≠ y.1 ∧ x.2 ≠ y.2
  old : ∀ x ∈ xs, B x.1 = none ∧ B x.2 = none
  apart : ∀ x ∈ xs, ∀ z ∈ mu, x.1 ≠ z ∧ x.2 ≠ z
  live : ∀ x ∈ xs, (∃ o, H x.1 = some o) ∧ ∃ o, H x.2 = some o
/-- what a family stands on -/
def Stays (A : Hp → Nat → Addr → Addr → Prop) : Prop := ∀ (H H1 : Hp) (k : Nat) (q l : Addr), A H k q l → Tups H H1 → (∀ o, H q = some o → H1 q = some o) → (∀ o, H l = some o → H1 l = some o) → A H1 k q l
theorem Fam.nil : Fam B H A [] mu :=
  ⟨fun k x h => (by cases h), fun i j x y h => (by cases h), fun x h => (by cases h), fun x h => (by cases h), fun x h => (by cases h)⟩
theorem Fam.keep (st : Stays A) (f : Fam B H A xs mu) (u : Tups H H1) (k : ∀ b o, H b = some o → b ∉ mu → H1 b = some o) : Fam B H1 A xs mu := by
  have g : ∀ x ∈ xs, (∀ o, H x.1 = some o → H1 x.1 = some o) ∧ ∀ o, H x.2 = some o → H1 x.2 = some o := fun x hx =>
    ⟨fun o h => k _ _ h fun z => (f.apart x hx _ z).1 rfl, fun o h => k _ _ h fun z => (f.apart x hx _ z).2 rfl⟩
  refine ⟨fun i x h => st _ _ _ _ _ (f.each i x h) u (g x (List.mem_of_getElem? h)).1 (g x (List.mem_of_getElem? h)).2, f.dist, f.old, f.apart, fun x hx => ?_⟩
  obtain ⟨⟨o, h1⟩, ⟨o', h2⟩⟩ := f.live x hx
  exact ⟨⟨o, (g x hx).1 o h1⟩, ⟨o', (g x hx).2 o' h2⟩⟩
theorem Fam.same (st : Stays A) (f : Fam B H A xs mu) (e : Same H H1) : Fam B H1 A xs mu := f.keep st (Same.tups e) fun b o h _ => e _ _ h
theorem Fam.put (st : Stays A) (f : Fam B H A xs mu) {z : Addr} {o o' : HO} (hz : z ∈ mu) (h : H z = some o) (n : notTup o = true) : Fam B (upd H z o') A xs mu :=
  f.keep st (Tups_upd h n) fun b o h hb => by
    rw [upd_ne (fun e => hb (by rw [e]; exact hz))]
    exact h
theorem Fam.add (f : Fam B H A xs mu) {z : Addr} (h : H z = none) : Fam B H A xs (z :: mu) :=
  ⟨f.each, f.dist, f.old, fun x hx y hy => by
    rcases List.mem_cons.mp hy with rfl | hy
    · obtain ⟨⟨o, h1⟩, ⟨o', h2⟩⟩ := f.live x hx
      exact ⟨fun e => (by rw [e, h] at h1; cases h1), fun e => (by rw [e, h] at h2; cases h2)⟩
    · exact f.apart x hx y hy, f.live⟩
theorem Fam.push (st : Stays A) (f : Fam B H A xs mu) (e : Same H H1) {q l : Addr} (ha : A H1 xs.length q l) (nq : H q = none) (nl : H l = none) (hB : Same B H) (am : ∀ z ∈ mu, ∃ o, H z = some o) (aq : ∃ o, H1 q = some o) (al : ∃ o, H1 l = some o) : Fam B H1 A (xs ++ [(q, l)]) mu := by
  have f1 := f.same st e
  have ne : ∀ x ∈ xs, x.1 ≠ q ∧ x.2 ≠ l := fun x hx => by
    obtain ⟨⟨o, h1⟩, ⟨o', h2⟩⟩ := f.live x hx
    exact ⟨fun e => (by rw [e, nq] at h1; cases h1), fun e => (by rw [e, nl] at h2; cases h2)⟩
  have sp : ∀ (k : Nat) x, (xs ++ [(q, l)])[k]? = some x → (xs[k]? = some x) ∨ (k = xs.length ∧ x = (q, l)) := fun k x h => by
    by_cases hk : k < xs.length
    · rw [List.getElem?_append_left hk] at h
      exact .inl h
    · rw [List.getElem?_append_right (by omega)] at h
      have e0 : k - xs.length = 0 := by
        have := (List.getElem?_eq_some_iff.mp h).1
        simp at this
        omega
      rw [e0] at h
      cases h
      exact .inr ⟨by omega, rfl⟩
  refine ⟨fun k x h => ?_, fun i j x y hi hj hn => ?_, fun x hx => ?_, fun x hx z hz => ?_, fun x hx => ?_⟩
  · rcases sp k x h with h | ⟨rfl, rfl⟩
    · exact f1.each k x h
    · exact ha
  · rcases sp i x hi with hi | ⟨rfl, rfl⟩
    · rcases sp j y hj with hj | ⟨rfl, rfl⟩
      · exact f.dist i j x y hi hj hn
      · exact ne x (List.mem_of_getElem? hi)
    · rcases sp j y hj with hj | ⟨rfl, rfl⟩
      · have := ne y (List.mem_of_getElem? hj)
        exact ⟨this.1.symm, this.2.symm⟩
      · exact absurd rfl hn
  · rcases List.mem_append.mp hx with hx | hx
    · exact f.old x hx
    · cases List.mem_singleton.mp hx
      exact ⟨hB.free nq, hB.free nl⟩
  · rcases List.mem_append.mp hx with hx | hx
    · exact f.apart x hx z hz
    · cases List.mem_singleton.mp hx
      obtain ⟨o, h⟩ := am z hz
      exact ⟨fun e => (by rw [← e, nq] at h; cases h), fun e => (by rw [← e, nl] at h; cases h)⟩
  · rcases List.mem_append.mp hx with hx | hx
    · exact f1.live x hx
    · cases List.mem_singleton.mp hx
      exact ⟨aq, al⟩
end
structure Cell where
  q : Addr
  l : Addr
  p : Addr
  a : Addr
abbrev StF := Nat → QS × PoolS
section
variable {P : Program} {w : World} {K : PySem.W.Frag} {mg : Str → Option Value} {base : Heap} {B H H1 : Hp}
structure Core (T : Ctx K mg) (B H : Hp) (S : Sett) (cells : List Cell) (fz mu : List Addr) (st : StF) (n : Nat → Nat) : Prop where
  base : Same B H
  len : cells.length = S.servs.length
  each : ∀ (k : Nat) (c : Cell) (s : Serv), cells[k]? = some c → S.servs[k]? = some s → QueueAt T H c.q c.l s.lag s.patience (st k).1 ∧ PoolAt T H c.p c.a s.tar (st k).2 ∧ (st k).1.Ok ∧ (st k).2.Ok s.tar ∧ (st k).1.rows.length ≤ n k
  dist : ∀ (i j : Nat) (c d : Cell), cells[i]? = some c → cells[j]? = some d → i ≠ j → c.q ≠ d.q ∧ c.l ≠ d.l ∧ c.p ≠ d.p
  old : ∀ c ∈ cells, B c.q = none ∧ B c.l = none ∧ B c.p = none
  fzl : ∀ c ∈ cells, ∀ z ∈ fz, c.l ≠ z
  afz : ∀ c ∈ cells, c.a ∈ fz
  sub : ∀ z ∈ mu, z ∈ fz
  amu : ∀ c ∈ cells, ∀ z ∈ mu, c.a ≠ z
  oldm : ∀ z ∈ mu, B z = none
  live : ∀ z ∈ fz, ∃ vs, H z = some (.lst vs)
theorem Core.pair {T : Ctx K mg} {S : Sett} {cells : List Cell} {fz mu : List Addr} {st : StF} {n : Nat → Nat} (x : Core T B H S cells fz mu st n) {k : Nat} {c : Cell} (h : cells[k]? = some c) : ∃ s, S.servs[k]? = some s :=
  at_of_lt (by rw [← x.len]; exact (List.getElem?_eq_some_iff.mp h).1)
theorem Core.same {T : Ctx K mg} {S : Sett} {cells : List Cell} {fz mu : List Addr} {st : StF} {n : Nat → Nat} (x : Core T B H S cells fz mu st n) (e : Same H H1) : Core T B H1 S cells fz mu st n :=
  ⟨x.base.trans e, x.len, fun k c s hc hs => by
    obtain ⟨h1, h2, h3⟩ := x.each k c s hc hs
    exact ⟨h1.same e, h2.same e, h3⟩, x.dist, x.old, x.fzl, x.afz, x.sub, x.amu, x.oldm, fun z hz => by
    obtain ⟨vs, h⟩ := x.live z hz
    exact ⟨vs, e _ _ h⟩⟩
/-- the lists of the cells live -/
theorem Core.alive {T : Ctx K mg} {S : Sett} {cells : List Cell} {fz mu : List Addr} {st : StF} {n : Nat → Nat} (x : Core T B H S cells fz mu st n) {c : Cell} (hc : c ∈ cells) : ∃ vs, H c.l = some (.lst vs) := by
  obtain ⟨k, h⟩ := List.getElem?_of_mem hc
  obtain ⟨s, hs⟩ := x.pair h
  obtain ⟨⟨dx, vs, h1, h2, h3⟩, _⟩ := x.each k c s h hs
  exact ⟨vs, h2⟩
theorem Core.fresh {T : Ctx K mg} {S : Sett} {cells : List Cell} {fz mu : List Addr} {st : StF} {n : Nat → Nat} (x : Core T B H S cells fz mu st n) (e : Same H H1) {z : Addr} {vs : List V} (nz : H z = none) (hz : H1 z = some (.lst vs)) : Core T B H1 S cells (z :: fz) (z :: mu) st n := by
  have y := x.same e
  refine ⟨y.base, y.len, y.each, y.dist, y.old, fun c hc u hu => ?_, fun c hc => .tail _ (y.afz c hc), fun u hu => ?_, fun c hc u hu => ?_, fun u hu => ?_, fun u hu => ?_⟩
  · rcases List.mem_cons.mp hu with rfl | hu
    · obtain ⟨ws, h⟩ := x.alive hc
      intro q
      rw [q, nz] at h
      cases h
    · exact y.fzl c hc u hu
  · rcases List.mem_cons.mp hu with rfl | hu
    · exact .head _
    · exact .tail _ (y.sub u hu)
  · rcases List.mem_cons.mp hu with rfl | hu
    · obtain ⟨ws, h⟩ := x.live _ (x.afz c hc)
      intro q
      rw [q, nz] at h
      cases h
    · exact y.amu c hc u hu
  · rcases List.mem_cons.mp hu with rfl | hu
    · exact x.base.free nz
    · exact y.oldm u hu
  · rcases List.mem_cons.mp hu with rfl | hu
    · exact ⟨_, hz⟩
    · exact y.live u hu
theorem Core.less {T : Ctx K mg} {S : Sett} {cells : List Cell} {fz mu mu' : List Addr} {st st' : StF} {n n' : Nat → Nat} (x : Core T B H S cells fz mu st n) (h : ∀ z ∈ mu', z ∈ mu) (hs : ∀ k, k < S.servs.length → st' k = st k ∧ n' k = n k) : Core T B H S cells fz mu' st' n' :=
  ⟨x.base, x.len, fun k c s hc hs' => by
    have lt : k < S.servs.length := (List.getElem?_eq_some_iff.mp hs').1
    rw [(hs k lt).1, (hs k lt).2]
    exact x.each k c s hc hs', x.dist, x.old, x.fzl, x.afz, fun z hz => x.sub z (h z hz), fun c hc z hz => x.amu c hc z (h z hz), fun z hz => x.oldm z (h z hz), x.live⟩
theorem Core.put {T : Ctx K mg} {S : Sett} {cells : List Cell} {fz mu : List Addr} {st : StF} {n : Nat → Nat} (x : Core T B H S cells fz mu st n) {z : Addr} (hz : z ∈ mu) (ys : List V) : Core T B (upd H z (.lst ys)) S cells fz mu st n := by
  obtain ⟨vs, h⟩ := x.live z (x.sub z hz)
  have u : Tups H (upd H z (.lst ys)) := Tups_upd h rfl
  have k : ∀ b o, H b = some o → b ≠ z → upd H z (.lst ys) b = some o := fun b o e hb => by rw [upd_ne hb]; exact e
  refine ⟨fun b o e => k b o (x.base b o e) (fun q => by rw [q, x.oldm z hz] at e; cases e), x.len, fun i c s hc hs => ?_, x.dist, x.old, x.fzl, x.afz, x.sub, x.amu, x.oldm, fun y hy => ?_⟩
  · obtain ⟨h1, h2, h3⟩ := x.each i c s hc hs
    have m := List.mem_of_getElem? hc
    obtain ⟨qdx, qxs, hq, hl, hxs⟩ := id h1
    obtain ⟨px, tv, pys, hp, hT, hla, hys⟩ := id h2
    exact ⟨h1.keep u (fun o e => k _ _ e (ne_of hq h (by intro q; cases q))) (fun o e => k _ _ e (x.fzl c m z (x.sub z hz))),
      h2.keep u (fun o e => k _ _ e (ne_of hp h (by intro q; cases q))) (fun o e => k _ _ e (x.amu c m z hz)), h3⟩
  · by_cases q : y = z
    · subst q
      exact ⟨ys, upd_same⟩
    · obtain ⟨ws, hw⟩ := x.live y hy
      exact ⟨ws, k _ _ hw q⟩
theorem set_some {α : Type} {xs : List α} {k i : Nat} {c d : α} (h : (xs.set k c)[i]? = some d) : (i = k ∧ d = c) ∨ (i ≠ k ∧ xs[i]? = some d) := by
  rw [List.getElem?_set] at h
  split at h
  · next e =>
    split at h
    · cases h
      exact .inl ⟨e.symm, rfl⟩
    · cases h
  · next e => exact .inr ⟨fun q => e q.symm, h⟩
theorem But3.tups {T : Ctx K mg} {q l p a : Addr} {s : Serv} {qs : QS} {ps : PoolS} (h1 : QueueAt T H q l s.lag s.patience qs) (h2 : PoolAt T H p a s.tar ps) (b : But3 q l p H H1) : Tups H H1 := fun c xs r => by
  obtain ⟨qdx, qxs, hq, hl, hxs⟩ := h1
  obtain ⟨px, tv, pys, hp, hT, hla, hys⟩ := h2
  rcases r with r | ⟨o, r⟩
  · exact .inl (b _ _ r (ne_of r hq (by intro z; cases z)) (ne_of r hl (by intro z; cases z)) (ne_of r hp (by intro z; cases z)))
  · exact .inr ⟨o, b _ _ r (ne_of r hq (by intro z; cases z)) (ne_of r hl (by intro z; cases z)) (ne_of r hp (by intro z; cases z))⟩
/-- what is not the k-th cell's stays -/
theorem Core.lists {T : Ctx K mg} {S : Sett} {cells : List Cell} {fz mu : List Addr} {st : StF} {n : Nat → Nat} (x : Core T B H S cells fz mu st n) {k : Nat} {c : Cell} (hc : cells[k]? = some c) (b : But3 c.q c.l c.p H H1) {z : Addr} (hz : z ∈ fz) {o : HO} (h : H z = some o) : H1 z = some o := by
  obtain ⟨s, hs⟩ := x.pair hc
  obtain ⟨⟨qdx, qxs, hq, hl, hxs⟩, ⟨px, tv, pys, hp, hT, hla, hys⟩, _⟩ := x.each k c s hc hs
  obtain ⟨vs, hv⟩ := x.live z hz
  refine b _ _ h (ne_of hv hq (by intro q; cases q)) (x.fzl c (List.mem_of_getElem? hc) z hz).symm (ne_of hv hp (by intro q; cases q))
theorem Core.step {T : Ctx K mg} {S : Sett} {cells : List Cell} {fz mu : List Addr} {st st' : StF} {n n' : Nat → Nat} (x : Core T B H S cells fz mu st n) {k : Nat} {c : Cell} {s : Serv} (hc : cells[k]? = some c) (hs : S.servs[k]? = some s)
    (b : But3 c.q c.l c.p H H1) {l' a' : Addr} (nl : H l' = none) (na : H a' = none) (ne : l' ≠ a') (hQ : QueueAt T H1 c.q l' s.lag s.patience (st' k).1) (hP : PoolAt T H1 c.p a' s.tar (st' k).2)
    (ok : (st' k).1.Ok ∧ (st' k).2.Ok s.tar ∧ (st' k).1.rows.length ≤ n' k) (same : ∀ j, j ≠ k → st' j = st j ∧ n' j = n j) : Core T B H1 S (cells.set k ⟨c.q, l', c.p, a'⟩) (a' :: fz) mu st' n' := by
  obtain ⟨gQ, gP, _⟩ := x.each k c s hc hs
  have u : Tups H H1 := But3.tups gQ gP b
  obtain ⟨qdx, qxs, hq, hl, hxs⟩ := id gQ
  obtain ⟨px, tv, pys, hp, hT, hla, hys⟩ := id gP
  obtain ⟨px', tv', pys', hp', hT', hla', hys'⟩ := id hP
  have mc := List.mem_of_getElem? hc
  have oldc := x.old c mc
  have memc : ∀ d ∈ cells.set k ⟨c.q, l', c.p, a'⟩, d = ⟨c.q, l', c.p, a'⟩ ∨ d ∈ cells := fun d hd => by
    obtain ⟨i, hi⟩ := List.getElem?_of_mem hd
    rcases set_some hi with ⟨_, rfl⟩ | ⟨_, h⟩
    · exact .inl rfl
    · exact .inr (List.mem_of_getElem? h)
  refine ⟨fun z o e => b z o (x.base z o e) (ne_of_none e oldc.1) (ne_of_none e oldc.2.1) (ne_of_none e oldc.2.2), by rw [List.length_set]; exact x.len, fun i d t hd ht => ?_, fun i j d d' hd hd' hn => ?_, fun d hd => ?_, fun d hd z hz => ?_, fun d hd => ?_, fun z hz => .tail _ (x.sub z hz), fun d hd z hz => ?_, x.oldm, fun z hz => ?_⟩
  · rcases set_some hd with ⟨rfl, rfl⟩ | ⟨hn, hd⟩
    · rw [hs] at ht
      cases ht
      exact ⟨hQ, hP, ok⟩
    · obtain ⟨h1, h2, h3⟩ := x.each i d t hd ht
      obtain ⟨dq, dl, dp⟩ := x.dist i k d c hd hc hn
      rw [(same i hn).1, (same i hn).2]
      obtain ⟨qdx2, qxs2, hq2, hl2, hxs2⟩ := id h1
      obtain ⟨px2, tv2, pys2, hp2, hT2, hla2, hys2⟩ := id h2
      exact ⟨h1.keep u (fun o e => b _ _ e dq (ne_of hq2 hl (by intro z; cases z)) (ne_of hq2 hp queue_ne_pool)) (fun o e => b _ _ e (ne_of hl2 hq (by intro z; cases z)) dl (ne_of hl2 hp (by intro z; cases z))),
        h2.keep u (fun o e => b _ _ e (ne_of hq hp2 queue_ne_pool).symm (ne_of hp2 hl (by intro z; cases z)) dp) (fun o e => x.lists hc b (x.afz d (List.mem_of_getElem? hd)) e), h3⟩
  · rcases set_some hd with ⟨rfl, rfl⟩ | ⟨hi, hd2⟩
    · rcases set_some hd' with ⟨rfl, rfl⟩ | ⟨hj, hd2'⟩
      · exact absurd rfl hn
      · obtain ⟨dq, dl, dp⟩ := x.dist _ j c d' hc hd2' hn
        refine ⟨dq, fun e => ?_, dp⟩
        obtain ⟨vs, h⟩ := x.alive (List.mem_of_getElem? hd2')
        have e' : l' = d'.l := e
        rw [← e', nl] at h
        cases h
    · rcases set_some hd' with ⟨rfl, rfl⟩ | ⟨hj, hd2'⟩
      · obtain ⟨dq, dl, dp⟩ := x.dist i _ d c hd2 hc hn
        refine ⟨dq, fun e => ?_, dp⟩
        obtain ⟨vs, h⟩ := x.alive (List.mem_of_getElem? hd2)
        have e' : d.l = l' := e
        rw [e', nl] at h
        cases h
      · exact x.dist i j d d' hd2 hd2' hn
  · rcases memc d hd with rfl | hd2
    · exact ⟨oldc.1, x.base.free nl, oldc.2.2⟩
    · exact x.old d hd2
  · rcases memc d hd with rfl | hd2
    · rcases List.mem_cons.mp hz with rfl | hz
      · exact ne
      · obtain ⟨vs, h⟩ := x.live z hz
        intro e
        have e' : l' = z := e
        rw [← e', nl] at h
        cases h
    · rcases List.mem_cons.mp hz with rfl | hz
      · obtain ⟨vs, h⟩ := x.alive hd2
        intro e
        rw [e, na] at h
        cases h
      · exact x.fzl d hd2 z hz
  · rcases memc d hd with rfl | hd2
    · exact .head _
    · exact .tail _ (x.afz d hd2)
  · rcases memc d hd with rfl | hd2
    · obtain ⟨vs, h⟩ := x.live z (x.sub z hz)
      intro e
      have e' : a' = z := e
      rw [← e', na] at h
      cases h
    · exact x.amu d hd2 z hz
  · rcases List.mem_cons.mp hz with rfl | hz
    · exact ⟨_, hla'⟩
    · obtain ⟨vs, h⟩ := x.live z hz
      exact ⟨vs, x.lists hc b hz h⟩
theorem SqL_keep {a : Addr} {xs : List V} (h : SqL K H a xs) (k : ∀ o, H a = some o → H1 a = some o) : SqL K H1 a xs := by
  rcases h with (h | ⟨o, h⟩) | h
  · exact .inl (.inl (k _ h))
  · exact .inl (.inr ⟨o, k _ h⟩)
  · exact .inr h
/-- lists of deeds -/
theorem noLs_deeds (m : List Deed) : noLs (m.map dDeed) = true := noLs_map noL_deed m
theorem moms_keep {vs : List V} : ∀ {rec : Recd} {vs : List V}, DpAll K H vs (rec.map dMom) → Tups H H1 → (∀ z o, V.ref z ∈ vs → H z = some o → H1 z = some o) → DpAll K H1 vs (rec.map dMom)
  | [], _, h, _, _ => by cases h; exact .nil
  | m :: ms, _, h, u, k => by
    obtain ⟨v, r, rfl, h1, h2⟩ := dpa_cons h
    obtain ⟨a, xs, rfl, h3, h4⟩ := dp_lst h1
    exact .cons (.lst (SqL_keep h3 fun o h => k a o (.head _) h) (Tups_dpa u (noLs_deeds m) h4)) (moms_keep (vs := r) h2 u fun z o hz h => k z o (.tail _ hz) h)
end
end K65
set_option Elab.async false
set_option linter.all false
set_option maxRecDepth 100000
set_option maxHeartbeats 4000000
namespace K65
open PySem L2
def limK (S : Sett) (st : StF) (e : List Row) (k : Nat) : Int := limOf (servAt S k) (st k).1 (st k).2 (e.getD k default).price (e.getD k default).came
def limsM (S : Sett) (st : StF) (e : List Row) : List Int := (List.range S.servs.length).map (limK S st e)
def wsM (S : Sett) : List Int := S.servs.map fun s => s.weight
def givM (S : Sett) (st : StF) (e : List Row) : List Int := sharesN (limsM S st e) (wsM S) S.quota.toNat
def deedK (S : Sett) (now : Nat) (st : StF) (e : List Row) (k : Nat) : Deed := deedOf (servAt S k) (keptF S.keeps (servAt S k).name (now : Int)) (st k).1 (st k).2 (e.getD k default) ((givM S st e).getD k 0)
def momM (S : Sett) (now : Nat) (st : StF) (e : List Row) : List Deed := (List.range S.servs.length).map (deedK S now st e)
def stM (S : Sett) (now : Nat) (st : StF) (e : List Row) : StF := fun k =>
  (nextQ (servAt S k) (st k).1 (e.getD k default) ((givM S st e).getD k 0), nextP (servAt S k) (keptF S.keeps (servAt S k).name (now : Int)) (st k).2 (e.getD k default) ((givM S st e).getD k 0))
def recF (S : Sett) : Nat → StF → Led → Recd
  | _, _, [] => []
  | now, st, e :: es => momM S now st e :: recF S (now + 1) (stM S now st e) es
def st0 (S : Sett) : StF := fun k => (⟨[], 0⟩, PoolS.new (servAt S k).tar)
def recH (S : Sett) (led : Led) : Recd := recF S 0 (st0 S) led
def planD (S : Sett) (st : StF) (e : List Row) (k : Nat) : PyData :=
  dInts [(st k).1.due (servAt S k).lag (e.getD k default).came, wantedI ((st k).1.due (servAt S k).lag (e.getD k default).came) (servAt S k).room (servAt S k).most, limK S st e k]
theorem fsH1 (sv : V) : putF "told_setting" sv [] = [(("told_setting" : Str), sv)] := rfl
theorem fsH2 (sv q : V) : putF "queues" q [(("told_setting" : Str), sv)] = [(("told_setting" : Str), sv), ("queues", q)] := (pf_miss h_tq)
theorem fsH3 (sv q p : V) : putF "pools" p [(("told_setting" : Str), sv), ("queues", q)] = [(("told_setting" : Str), sv), ("queues", q), ("pools", p)] := (pf_miss h_tp).trans (congrArg (List.cons _) (pf_miss h_qp))
theorem fsH4 (sv q p e : V) : putF "entries" e [(("told_setting" : Str), sv), ("queues", q), ("pools", p)] = [(("told_setting" : Str), sv), ("queues", q), ("pools", p), ("entries", e)] :=
  (pf_miss h_te).trans (congrArg (List.cons _) ((pf_miss h_qe).trans (congrArg (List.cons _) (pf_miss h_pe))))
theorem fsH5 (sv q p e d : V) : putF "deeds" d [(("told_setting" : Str), sv), ("queues", q), ("pools", p), ("entries", e)] = [(("told_setting" : Str), sv), ("queues", q), ("pools", p), ("entries", e), ("deeds", d)] :=
  (pf_miss h_td).trans (congrArg (List.cons _) ((pf_miss h_qd).trans (congrArg (List.cons _) ((pf_miss h_pd).trans (congrArg (List.cons _) (pf_miss h_ed))))))
theorem fsH6 (sv q p e d : V) : putF "begun" (.int 0) [(("told_setting" : Str), sv), ("queues", q), ("pools", p), ("entries", e), ("deeds", d)] = houseF sv q p e d :=
  (pf_miss h_tb).trans (congrArg (List.cons _) ((pf_miss h_qb).trans (congrArg (List.cons _) ((pf_miss h_pb).trans (congrArg (List.cons _) ((pf_miss h_eb).trans (congrArg (List.cons _) (pf_miss h_db))))))))
section
variable {P : Program} {w : World} {K : PySem.W.Frag} {mg : Str → Option Value} {base : Heap} {B H H1 : Hp}
def AQ (T : Ctx K mg) (S : Sett) : Hp → Nat → Addr → Addr → Prop := fun H k q l => ∀ s, S.servs[k]? = some s → QueueAt T H q l s.lag s.patience ⟨[], 0⟩
def AP (T : Ctx K mg) (S : Sett) : Hp → Nat → Addr → Addr → Prop := fun H k p a => (∀ s, S.servs[k]? = some s → PoolAt T H p a s.tar (PoolS.new s.tar)) ∧ ∃ vs, H a = some (.lst vs)
theorem AQ_stays {T : Ctx K mg} {S : Sett} : Stays (AQ T S) := fun _ _ _ _ _ h u kq kl s hs => (h s hs).keep u kq kl
theorem AP_stays {T : Ctx K mg} {S : Sett} : Stays (AP T S) := fun _ _ _ _ _ h u kq kl => ⟨fun s hs => (h.1 s hs).keep u kq kl, by
  obtain ⟨vs, h2⟩ := h.2
  exact ⟨vs, kl _ h2⟩⟩
/-- the house between two moments; nothing of B belongs to it -/
def HouseI (T : Ctx K mg) (B H : Hp) (h : Addr) (S : Sett) (now : Nat) (st : StF) (rec : Recd) : Prop :=
  ∃ aq ap ae ad cells fz vs, HouseOb T H h S aq ap ae ad (cells.map Cell.q) (cells.map Cell.p) now ∧ Core T B H S cells fz [ae, ad] st (fun _ => now) ∧
    (∃ dx sv, H h = some (.ins T.c_House dx (houseF sv (.ref aq) (.ref ap) (.ref ae) (.ref ad)))) ∧ H ad = some (.lst vs) ∧ DpAll K H vs (rec.map dMom) ∧ rec.length = now ∧
    (∀ z, V.ref z ∈ vs → z ∈ fz ∧ z ≠ ae ∧ z ≠ ad) ∧ (aq ∈ fz ∧ aq ≠ ae ∧ aq ≠ ad) ∧ (ap ∈ fz ∧ ap ≠ ae ∧ ap ≠ ad) ∧ ae ≠ ad ∧ B h = none
theorem HouseI.same {T : Ctx K mg} {h : Addr} {S : Sett} {now : Nat} {st : StF} {rec : Recd} (x : HouseI T B H h S now st rec) (e : Same H H1) : HouseI T B H1 h S now st rec := by
  obtain ⟨aq, ap, ae, ad, cells, fz, vs, h1, h2, ⟨dx, sv, h3⟩, h4, h5, h6⟩ := x
  exact ⟨aq, ap, ae, ad, cells, fz, vs, h1.same e, h2.same e, ⟨dx, sv, e _ _ h3⟩, e _ _ h4, Same_dpa e h5, h6⟩
theorem HouseI.below {T : Ctx K mg} {h : Addr} {S : Sett} {now : Nat} {st : StF} {rec : Recd} (x : HouseI T B H h S now st rec) : Same B H := by
  obtain ⟨aq, ap, ae, ad, cells, fz, vs, h1, h2, _⟩ := x
  exact h2.base
theorem zip_some {α β γ : Type} {f : α → β → γ} {xs : List α} {ys : List β} {k : Nat} {c : γ} (h : (List.zipWith f xs ys)[k]? = some c) : ∃ x y, xs[k]? = some x ∧ ys[k]? = some y ∧ c = f x y := by
  rw [List.getElem?_zipWith] at h
  cases hx : xs[k]? with
  | none => rw [hx] at h; cases h
  | some x =>
    cases hy : ys[k]? with
    | none => rw [hx, hy] at h; cases h
    | some y =>
      rw [hx, hy] at h
      cases h
      exact ⟨x, y, rfl, rfl, rfl⟩
theorem zip_fst : ∀ (qs ps : List (Addr × Addr)), qs.length = ps.length → (List.zipWith (fun q p => (⟨q.1, q.2, p.1, p.2⟩ : Cell)) qs ps).map Cell.q = qs.map fun x => x.1
  | [], _, _ => rfl
  | _ :: _, [], h => by cases h
  | x :: xs, y :: ys, h => congrArg (List.cons x.1) (zip_fst xs ys (Nat.succ.inj h))
theorem zip_snd : ∀ (qs ps : List (Addr × Addr)), qs.length = ps.length → (List.zipWith (fun q p => (⟨q.1, q.2, p.1, p.2⟩ : Cell)) qs ps).map Cell.p = ps.map fun x => x.1
  | [], [], _ => rfl
  | [], _ :: _, h => by cases h
  | _ :: _, [], h => by cases h
  | x :: xs, y :: ys, h => congrArg (List.cons y.1) (zip_snd xs ys (Nat.succ.inj h))
def sp_House_init (T : Ctx K mg) : Sp := fun vs H Q _ => ∃ h dx sv S B, vs = [.ref h, sv] ∧ H h = some (.ins T.c_House dx []) ∧ Same B H ∧ B h = none ∧ Dp K B sv (dSett S) ∧ S.Valid ∧ ∀ H', HouseI T B H' h S 0 (st0 S) [] → Q .non H'
theorem ok_House_init (T : Ctx K mg) : FnOk P w K mg base CX0 4 T.a_House_init T.fd_House_init ["self", "setting"] (sp_House_init T) := by
  have G_check_house := ok_check_house (P := P) (w := w) (base := base) T
  have G_Queue_init := ok_Queue_init (P := P) (w := w) (base := base) T
  have G_Pool_init := ok_Pool_init (P := P) (w := w) (base := base) T
  refine T.F_House_init.ok sc_House_init (fun vs H Q E h => ?_) (fun cdv A outer s H vs Q E hr h => ?_)
  · obtain ⟨h, dx, sv, S, B, rfl, hh, hB, nh, hS, ok, k⟩ := h
    rfl
  · obtain ⟨h, dx, sv, S, B, rfl, hh, hB, nh, hS, ok, k⟩ := h
    refine ⟨_, PSs.nox (pss_cons (ps_expr (pe_call G_check_house (hr.mono (by decide)) rfl T.g_check_house T.F_check_house.kp T.b_check_house .nil pass0 (pa_cons (pv 1) pa_nil)))
    (pss_cons (ps_fld (pv 0) (pv 1) rfl)
    (pss_cons (ps_fld (pv 0) (pe_lc (own := [("service", 2)]) rfl sc_House_init.nd (pi_tup (pe_ix ix_tup (pv 1) pe_int (fun _ _ => rfl))) (blkOk_by (N := N_House_init) (sc := defScope s_House_init) (own := [("service", 2)]) (by decide +kernel)) (fun _ _ _ _ _ => (pg_name (i := 2) sc_House_init.nd rfl (Or.inl rfl))) (fun _ _ _ _ _ => pts_nil) (fun _ _ _ _ _ => (pe_make T.mk_Queue G_Queue_init (hr.mono (by decide)) rfl T.g_Queue T.b_Queue_init .nil pass0 (pa_cons (pe_ix (ix_tupK (K := K) rfl) (pv 2) pe_int (fun _ _ => rfl)) (pa_cons (pe_ix (ix_tupK (K := K) rfl) (pv 2) pe_int (fun _ _ => rfl)) pa_nil))))) rfl)
    (pss_cons (ps_fld (pv 0) (pe_lc (own := [("service", 2)]) rfl sc_House_init.nd (pi_tup (pe_ix ix_tup (pv 1) pe_int (fun _ _ => rfl))) (blkOk_by (N := N_House_init) (sc := defScope s_House_init) (own := [("service", 2)]) (by decide +kernel)) (fun _ _ _ _ _ => (pg_name (i := 2) sc_House_init.nd rfl (Or.inl rfl))) (fun _ _ _ _ _ => pts_nil) (fun _ _ _ _ _ => (pe_make T.mk_Pool G_Pool_init (hr.mono (by decide)) rfl T.g_Pool T.b_Pool_init .nil pass0 (pa_cons (pe_tup (pa_cons (pe_ix (ix_tupK (K := K) rfl) (pv 2) pe_int (fun _ _ => rfl)) (pa_cons (pe_ix (ix_tupK (K := K) rfl) (pv 2) pe_int (fun _ _ => rfl)) pa_nil))) pa_nil)))) rfl)
    (pss_cons (ps_fld (pv 0) (pe_lst pa_nil) rfl)
    (pss_cons (ps_fld (pv 0) (pe_lst pa_nil) rfl)
    (pss_one (ps_fld (pv 0) pe_int rfl)))))))), ?_⟩
    obtain ⟨sa, ssa, ka, ss, ks, rfl, g1, g2, g3, g4, g5⟩ := sett_inv hS
    have e3 : ss.length = S.servs.length := by rw [dpa_len g3, List.length_map]
    have many := ok.many
    -- check_house(setting); self.told_setting = setting
    refine ⟨_, rfl, .ref sa, S, rfl, Same_dp hB hS, ok, fun H1 s1 => ?_⟩
    have hB1 := hB.trans s1
    refine ⟨_, rfl, _, rfl, h, T.c_House, dx, [], rfl, s1 _ _ hh, T.cl_House, T.n_House_told_setting, (by show 0 < 1000; decide), ?_⟩
    rw [fsH1]
    have hB2 : Same B (upd H1 h (.ins T.c_House dx [(("told_setting" : Str), V.ref sa)])) := Same_mut hB1 nh
    have hh2 := upd_same (H := H1) (a := h) (o := .ins T.c_House dx [(("told_setting" : Str), V.ref sa)])
    revert hB2 hh2
    generalize upd H1 h (.ins T.c_House dx [(("told_setting" : Str), V.ref sa)]) = H2
    intro hB2 hh2
    -- self.queues = [Queue(..) ..]
    refine ⟨_, rfl, _, _, _, _, rfl, rfl, Same_t hB2 g1, rfl, ssa, rfl, ⟨ss, Same_t hB2 g2⟩, fun D nD => ?_⟩
    have nDh : D ≠ h := (ne_of_none hh2 nD).symm
    have nDB : B D = none := hB2.free nD
    refine lc_tup (xs := ss) (fun i H' => ∃ qs : List (Addr × Addr), qs.length = i ∧ Same B H' ∧ Fam B H' (AQ T S) qs [D, h] ∧ H' h = some (.ins T.c_House dx [(("told_setting" : Str), V.ref sa)]) ∧ H' D = some (.lst (qs.map fun x => V.ref x.1)))
      ⟨[], rfl, Same_mut hB2 nDB, Fam.nil, by rw [upd_ne nDh.symm]; exact hh2, upd_same⟩ (fun i H' _ ⟨_, _, s, _⟩ => Same_t s g2) ?_ ?_
    · rintro i x H3 hi ⟨qs, hqs, hB3, hF, hh3, hD3⟩
      obtain ⟨s, hs, hd⟩ := dpa_map_at g3 hi
      obtain ⟨va, ra, wa, rfl, q1, q2, q3⟩ := serv_inv hd
      have il : i < S.servs.length := (List.getElem?_eq_some_iff.mp hs).1
      refine ⟨rfl, _, rfl, _, _, _, _, rfl, rfl, Same_t hB3 q1, rfl, _, rfl, _, _, _, _, rfl, rfl, Same_t hB3 q1, rfl, fun q dq nq ndq ndqq => ?_⟩
      refine ⟨q, dq, s.lag, s.patience, rfl, upd_same, fun H5 l hQ5 b5 nl5 => ⟨rfl, ?_⟩⟩
      have s5 : Same H3 H5 := Same.made nq ndq b5
      have nl : H3 l = none := by
        have e : Same H3 (upd (upd H3 dq (.own q)) q (.ins T.c_Queue dq [])) := fun b o h => by
          rw [upd_ne (ne_of_none h nq), upd_ne (ne_of_none h ndq)]
          exact h
        exact e.free nl5
      obtain ⟨qdx, qxs, hq5, hl5, hxs5⟩ := id hQ5
      have hF5 := hF.push AQ_stays s5 (q := q) (l := l) (fun t ht => by
        rw [hqs, hs] at ht
        cases ht
        exact hQ5) nq nl hB3 (fun z hz => by
        rcases List.mem_cons.mp hz with rfl | hz
        · exact ⟨_, hD3⟩
        · cases List.mem_singleton.mp hz
          exact ⟨_, hh3⟩) ⟨_, hq5⟩ ⟨_, hl5⟩
      have hD5 := s5 _ _ hD3
      refine ⟨_, hD5, less_of ?_, qs ++ [(q, l)], ?_, Same_mut (hB3.trans s5) nDB, hF5.put AQ_stays (.head _) hD5 rfl, by rw [upd_ne nDh.symm]; exact s5 _ _ hh3, ?_⟩
      · rw [List.length_map]
        omega
      · rw [List.length_append, hqs]
        rfl
      · rw [List.map_append]
        exact upd_same
    · rintro H3 ⟨qs, hqs, hB3, hF, hh3, hD3⟩
      rw [e3] at hqs
      refine ⟨_, rfl, h, T.c_House, dx, _, rfl, hh3, T.cl_House, T.n_House_queues, (by show 1 < 1000; decide), ?_⟩
      rw [fsH2]
      have hF4 : Fam B (upd H3 h (.ins T.c_House dx [(("told_setting" : Str), V.ref sa), ("queues", V.ref D)])) (AQ T S) qs [D, h] := hF.put AQ_stays (.tail _ (.head _)) hh3 rfl
      have hB4 : Same B (upd H3 h (.ins T.c_House dx [(("told_setting" : Str), V.ref sa), ("queues", V.ref D)])) := Same_mut hB3 nh
      have hh4 := upd_same (H := H3) (a := h) (o := .ins T.c_House dx [(("told_setting" : Str), V.ref sa), ("queues", V.ref D)])
      have hD4 : (upd H3 h (.ins T.c_House dx [(("told_setting" : Str), V.ref sa), ("queues", V.ref D)])) D = some (.lst (qs.map fun x => V.ref x.1)) := by
        rw [upd_ne nDh]
        exact hD3
      revert hF4 hB4 hh4 hD4
      generalize upd H3 h (.ins T.c_House dx [(("told_setting" : Str), V.ref sa), ("queues", V.ref D)]) = H4
      intro hF4 hB4 hh4 hD4
      -- self.pools = [Pool((..)) ..]
      refine ⟨_, rfl, _, _, _, _, rfl, rfl, Same_t hB4 g1, rfl, ssa, rfl, ⟨ss, Same_t hB4 g2⟩, fun E nE => ?_⟩
      have nEh : E ≠ h := (ne_of_none hh4 nE).symm
      have nED : E ≠ D := (ne_of_none hD4 nE).symm
      have nEB : B E = none := hB4.free nE
      have hF4' : Fam B (upd H4 E (.lst [])) (AQ T S) qs [E, D, h] := (hF4.add nE).same AQ_stays (Same_new nE)
      refine lc_tup (xs := ss) (fun i H' => ∃ ps : List (Addr × Addr), ps.length = i ∧ Same B H' ∧ Fam B H' (AQ T S) qs [E, D, h] ∧ Fam B H' (AP T S) ps (E :: D :: h :: qs.map fun x => x.2) ∧
          H' h = some (.ins T.c_House dx [(("told_setting" : Str), V.ref sa), ("queues", V.ref D)]) ∧ H' D = some (.lst (qs.map fun x => V.ref x.1)) ∧ H' E = some (.lst (ps.map fun x => V.ref x.1)))
        ⟨[], rfl, Same_mut hB4 nEB, hF4', Fam.nil, by rw [upd_ne nEh.symm]; exact hh4, by rw [upd_ne nED.symm]; exact hD4, upd_same⟩ (fun i H' _ ⟨_, _, s, _⟩ => Same_t s g2) ?_ ?_
      · rintro i x H5 hi ⟨ps, hps, hB5, fQ, fP, hh5, hD5, hE5⟩
        obtain ⟨s, hs, hd⟩ := dpa_map_at g3 hi
        obtain ⟨va, ra, wa, rfl, q1, q2, q3⟩ := serv_inv hd
        have il : i < S.servs.length := (List.getElem?_eq_some_iff.mp hs).1
        refine ⟨rfl, _, rfl, _, _, _, _, rfl, rfl, Same_t hB5 q1, rfl, _, rfl, _, _, _, _, rfl, rfl, Same_t hB5 q1, rfl, tl 2 rfl (by decide), fun tp ntp => ?_⟩
        have s6 := Same_new (o := .tup [.ref ra, .ref wa]) ntp
        intro p dp np ndp ndpp
        have s7 : Same (upd H5 tp (.tup [.ref ra, .ref wa])) (upd (upd (upd H5 tp (.tup [.ref ra, .ref wa])) dp (.own p)) p (.ins T.c_Pool dp [])) := fun b o h => by
          rw [upd_ne (ne_of_none h np), upd_ne (ne_of_none h ndp)]
          exact h
        refine ⟨p, dp, .ref tp, s.tar, rfl, upd_same, ⟨tp, ra, wa, rfl, Same_t s7 (SqT.of upd_same), Same_t ((hB5.trans s6).trans s7) q2, Same_t ((hB5.trans s6).trans s7) q3⟩, fun H8 pa hP8 b8 npa => ⟨rfl, ?_⟩⟩
        have s8 : Same H5 H8 := s6.trans (Same.made np ndp b8)
        have np5 : H5 p = none := s6.free np
        have npa5 : H5 pa = none := (s6.trans s7).free npa
        obtain ⟨px8, tv8, ys8, hp8, hT8, hla8, hys8⟩ := id hP8
        have fP8 := fP.push AP_stays s8 (q := p) (l := pa) ⟨fun t ht => by
          rw [hps, hs] at ht
          cases ht
          exact hP8, _, hla8⟩ np5 npa5 hB5 (fun z hz => by
          rcases List.mem_cons.mp hz with rfl | hz
          · exact ⟨_, hE5⟩
          · rcases List.mem_cons.mp hz with rfl | hz
            · exact ⟨_, hD5⟩
            · rcases List.mem_cons.mp hz with rfl | hz
              · exact ⟨_, hh5⟩
              · obtain ⟨y, hy, rfl⟩ := List.mem_map.mp hz
                exact (fQ.live y hy).2) ⟨_, hp8⟩ ⟨_, hla8⟩
        have hE8 := s8 _ _ hE5
        refine ⟨_, hE8, less_of ?_, ps ++ [(p, pa)], ?_, Same_mut (hB5.trans s8) nEB, (fQ.same AQ_stays s8).put AQ_stays (.head _) hE8 rfl, fP8.put AP_stays (.head _) hE8 rfl, by rw [upd_ne nEh.symm]; exact s8 _ _ hh5, by rw [upd_ne nED.symm]; exact s8 _ _ hD5, ?_⟩
        · rw [List.length_map]
          omega
        · rw [List.length_append, hps]
          rfl
        · rw [List.map_append]
          exact upd_same
      · rintro H5 ⟨ps, hps, hB5, fQ, fP, hh5, hD5, hE5⟩
        rw [e3] at hps
        refine ⟨_, rfl, h, T.c_House, dx, _, rfl, hh5, T.cl_House, T.n_House_pools, (by show 2 < 1000; decide), ?_⟩
        rw [fsH3]
        have hm1 : h ∈ [E, D, h] := .tail _ (.tail _ (.head _))
        have hm2 : h ∈ (E :: D :: h :: qs.map fun x => x.2) := .tail _ (.tail _ (.head _))
        have hB6 := Same_mut (o := .ins T.c_House dx [(("told_setting" : Str), V.ref sa), ("queues", V.ref D), ("pools", V.ref E)]) hB5 nh
        have fQ6 := fQ.put (o' := .ins T.c_House dx [(("told_setting" : Str), V.ref sa), ("queues", V.ref D), ("pools", V.ref E)]) AQ_stays hm1 hh5 rfl
        have fP6 := fP.put (o' := .ins T.c_House dx [(("told_setting" : Str), V.ref sa), ("queues", V.ref D), ("pools", V.ref E)]) AP_stays hm2 hh5 rfl
        have hh6 := upd_same (H := H5) (a := h) (o := .ins T.c_House dx [(("told_setting" : Str), V.ref sa), ("queues", V.ref D), ("pools", V.ref E)])
        have hD6 : (upd H5 h (.ins T.c_House dx [(("told_setting" : Str), V.ref sa), ("queues", V.ref D), ("pools", V.ref E)])) D = some (.lst (qs.map fun x => V.ref x.1)) := by
          rw [upd_ne nDh]
          exact hD5
        have hE6 : (upd H5 h (.ins T.c_House dx [(("told_setting" : Str), V.ref sa), ("queues", V.ref D), ("pools", V.ref E)])) E = some (.lst (ps.map fun x => V.ref x.1)) := by
          rw [upd_ne nEh]
          exact hE5
        revert hB6 fQ6 fP6 hh6 hD6 hE6
        generalize upd H5 h (.ins T.c_House dx [(("told_setting" : Str), V.ref sa), ("queues", V.ref D), ("pools", V.ref E)]) = H6
        intro hB6 fQ6 fP6 hh6 hD6 hE6
        -- self.entries = []
        refine ⟨tl 0 rfl (by decide), fun ae nae => ?_⟩
        have s7 := Same_new (o := .lst []) nae
        refine ⟨_, rfl, h, T.c_House, dx, _, rfl, s7 _ _ hh6, T.cl_House, T.n_House_entries, (by show 3 < 1000; decide), ?_⟩
        rw [fsH4]
        have naeh : ae ≠ h := (ne_of_none hh6 nae).symm
        have fQ7 := ((fQ6.add nae).same AQ_stays s7).put (o' := .ins T.c_House dx [(("told_setting" : Str), V.ref sa), ("queues", V.ref D), ("pools", V.ref E), ("entries", V.ref ae)]) AQ_stays (.tail _ hm1) (s7 _ _ hh6) rfl
        have fP7 := ((fP6.add nae).same AP_stays s7).put (o' := .ins T.c_House dx [(("told_setting" : Str), V.ref sa), ("queues", V.ref D), ("pools", V.ref E), ("entries", V.ref ae)]) AP_stays (.tail _ hm2) (s7 _ _ hh6) rfl
        have hB7 := Same_mut (o := .ins T.c_House dx [(("told_setting" : Str), V.ref sa), ("queues", V.ref D), ("pools", V.ref E), ("entries", V.ref ae)]) (hB6.trans s7) nh
        have hh7 := upd_same (H := upd H6 ae (.lst [])) (a := h) (o := .ins T.c_House dx [(("told_setting" : Str), V.ref sa), ("queues", V.ref D), ("pools", V.ref E), ("entries", V.ref ae)])
        have hD7 : (upd (upd H6 ae (.lst [])) h (.ins T.c_House dx [(("told_setting" : Str), V.ref sa), ("queues", V.ref D), ("pools", V.ref E), ("entries", V.ref ae)])) D = some (.lst (qs.map fun x => V.ref x.1)) := by
          rw [upd_ne nDh]
          exact s7 _ _ hD6
        have hE7 : (upd (upd H6 ae (.lst [])) h (.ins T.c_House dx [(("told_setting" : Str), V.ref sa), ("queues", V.ref D), ("pools", V.ref E), ("entries", V.ref ae)])) E = some (.lst (ps.map fun x => V.ref x.1)) := by
          rw [upd_ne nEh]
          exact s7 _ _ hE6
        have ha7 : (upd (upd H6 ae (.lst [])) h (.ins T.c_House dx [(("told_setting" : Str), V.ref sa), ("queues", V.ref D), ("pools", V.ref E), ("entries", V.ref ae)])) ae = some (.lst []) := by
          rw [upd_ne naeh]
          exact upd_same
        have naeD : ae ≠ D := (ne_of_none hD6 nae).symm
        have naeE : ae ≠ E := (ne_of_none hE6 nae).symm
        have naeB : B ae = none := hB6.free nae
        revert hB7 fQ7 fP7 hh7 hD7 hE7 ha7
        generalize upd (upd H6 ae (.lst [])) h (.ins T.c_House dx [(("told_setting" : Str), V.ref sa), ("queues", V.ref D), ("pools", V.ref E), ("entries", V.ref ae)]) = H7
        intro fQ7 fP7 hB7 hh7 hD7 hE7 ha7
        -- self.deeds = []
        refine ⟨tl 0 rfl (by decide), fun ad nad => ?_⟩
        have s8 := Same_new (o := .lst []) nad
        have nadh : ad ≠ h := (ne_of_none hh7 nad).symm
        have nadD : ad ≠ D := (ne_of_none hD7 nad).symm
        have nadE : ad ≠ E := (ne_of_none hE7 nad).symm
        have nada : ad ≠ ae := (ne_of_none ha7 nad).symm
        have nadB : B ad = none := hB7.free nad
        refine ⟨_, rfl, h, T.c_House, dx, _, rfl, s8 _ _ hh7, T.cl_House, T.n_House_deeds, (by show 4 < 1000; decide), ?_⟩
        rw [fsH5]
        refine ⟨_, rfl, h, T.c_House, dx, _, rfl, upd_same, T.cl_House, T.n_House_begun, (by show 5 < 1000; decide), ?_⟩
        rw [fsH6, upd_upd]
        have fQ8 := ((fQ7.add nad).same AQ_stays s8).put (o' := .ins T.c_House dx (houseF (.ref sa) (.ref D) (.ref E) (.ref ae) (.ref ad))) AQ_stays (.tail _ (.tail _ hm1)) (s8 _ _ hh7) rfl
        have fP8 := ((fP7.add nad).same AP_stays s8).put (o' := .ins T.c_House dx (houseF (.ref sa) (.ref D) (.ref E) (.ref ae) (.ref ad))) AP_stays (.tail _ (.tail _ hm2)) (s8 _ _ hh7) rfl
        have hB8 := Same_mut (o := .ins T.c_House dx (houseF (.ref sa) (.ref D) (.ref E) (.ref ae) (.ref ad))) (hB7.trans s8) nh
        have hh8 := upd_same (H := upd H7 ad (.lst [])) (a := h) (o := .ins T.c_House dx (houseF (.ref sa) (.ref D) (.ref E) (.ref ae) (.ref ad)))
        have hD8 : (upd (upd H7 ad (.lst [])) h (.ins T.c_House dx (houseF (.ref sa) (.ref D) (.ref E) (.ref ae) (.ref ad)))) D = some (.lst (qs.map fun x => V.ref x.1)) := by
          rw [upd_ne nDh]
          exact s8 _ _ hD7
        have hE8 : (upd (upd H7 ad (.lst [])) h (.ins T.c_House dx (houseF (.ref sa) (.ref D) (.ref E) (.ref ae) (.ref ad)))) E = some (.lst (ps.map fun x => V.ref x.1)) := by
          rw [upd_ne nEh]
          exact s8 _ _ hE7
        have ha8 : (upd (upd H7 ad (.lst [])) h (.ins T.c_House dx (houseF (.ref sa) (.ref D) (.ref E) (.ref ae) (.ref ad)))) ae = some (.lst []) := by
          rw [upd_ne naeh]
          exact s8 _ _ ha7
        have hd8 : (upd (upd H7 ad (.lst [])) h (.ins T.c_House dx (houseF (.ref sa) (.ref D) (.ref E) (.ref ae) (.ref ad)))) ad = some (.lst []) := by
          rw [upd_ne nadh]
          exact upd_same
        revert hB8 fQ8 fP8 hh8 hD8 hE8 ha8 hd8
        generalize upd (upd H7 ad (.lst [])) h (.ins T.c_House dx (houseF (.ref sa) (.ref D) (.ref E) (.ref ae) (.ref ad))) = H8
        intro fQ8 fP8 hB8 hh8 hD8 hE8 ha8 hd8
        refine k _ ⟨D, E, ae, ad, List.zipWith (fun q p => ⟨q.1, q.2, p.1, p.2⟩) qs ps, [D, E, ae, ad] ++ ps.map (fun x => x.2), [], ⟨dx, .ref sa, [], hh8, Same_dp hB8 hS, ?_, ?_, ha8, rfl⟩, ?_, ⟨dx, _, hh8⟩, hd8, .nil, rfl, fun z hz => (by cases hz), ⟨.head _, naeD.symm, nadD.symm⟩, ⟨.tail _ (.head _), naeE.symm, nadE.symm⟩, nada.symm, nh⟩
        · rw [hD8, zip_fst qs ps (by rw [hqs, hps]), List.map_map]
          rfl
        · rw [hE8, zip_snd qs ps (by rw [hqs, hps]), List.map_map]
          rfl
        · refine ⟨hB8, ?_, fun i c s hc hs => ?_, fun i j c d hc hd hn => ?_, fun c hc => ?_, fun c hc z hz => ?_, fun c hc => ?_, fun z hz => ?_, fun c hc z hz => ?_, fun z hz => ?_, fun z hz => ?_⟩
          · rw [List.length_zipWith, hqs, hps]
            omega
          · obtain ⟨x, y, hx, hy, rfl⟩ := zip_some hc
            unfold st0
            rw [servAt_eq hs]
            exact ⟨fQ8.each i x hx s hs, (fP8.each i y hy).1 s hs, (fun r hr => by cases hr), PoolS.new_ok _, Nat.le_refl _⟩
          · obtain ⟨x, y, hx, hy, rfl⟩ := zip_some hc
            obtain ⟨x', y', hx', hy', rfl⟩ := zip_some hd
            have d1 := fQ8.dist i j x x' hx hx' hn
            have d2 := fP8.dist i j y y' hy hy' hn
            exact ⟨d1.1, d1.2, d2.1⟩
          · obtain ⟨i, hi⟩ := List.getElem?_of_mem hc
            obtain ⟨x, y, hx, hy, rfl⟩ := zip_some hi
            have o1 := fQ8.old x (List.mem_of_getElem? hx)
            exact ⟨o1.1, o1.2, (fP8.old y (List.mem_of_getElem? hy)).1⟩
          · obtain ⟨i, hi⟩ := List.getElem?_of_mem hc
            obtain ⟨x, y, hx, hy, rfl⟩ := zip_some hi
            have mx := List.mem_of_getElem? hx
            rcases List.mem_append.mp hz with hz | hz
            · refine (fQ8.apart x mx z ?_).2
              simp only [List.mem_cons, List.not_mem_nil, or_false] at hz ⊢
              rcases hz with h | h | h | h
              · exact .inr (.inr (.inr (.inl h)))
              · exact .inr (.inr (.inl h))
              · exact .inr (.inl h)
              · exact .inl h
            · obtain ⟨u, hu, rfl⟩ := List.mem_map.mp hz
              exact ((fP8.apart u hu x.2 (.tail _ (.tail _ (.tail _ (.tail _ (.tail _ (List.mem_map.mpr ⟨x, mx, rfl⟩))))))).2).symm
          · obtain ⟨i, hi⟩ := List.getElem?_of_mem hc
            obtain ⟨x, y, hx, hy, rfl⟩ := zip_some hi
            exact List.mem_append.mpr (.inr (List.mem_map.mpr ⟨y, List.mem_of_getElem? hy, rfl⟩))
          · simp only [List.mem_cons, List.not_mem_nil, or_false] at hz
            rcases hz with rfl | rfl
            · exact .tail _ (.tail _ (.head _))
            · exact .tail _ (.tail _ (.tail _ (.head _)))
          · obtain ⟨i, hi⟩ := List.getElem?_of_mem hc
            obtain ⟨x, y, hx, hy, rfl⟩ := zip_some hi
            refine (fP8.apart y (List.mem_of_getElem? hy) z ?_).2
            simp only [List.mem_cons, List.not_mem_nil, or_false] at hz
            rcases hz with rfl | rfl
            · exact .tail _ (.head _)
            · exact .head _
          · simp only [List.mem_cons, List.not_mem_nil, or_false] at hz
            rcases hz with rfl | rfl
            · exact naeB
            · exact nadB
          · rcases List.mem_append.mp hz with hz | hz
            · simp only [List.mem_cons, List.not_mem_nil, or_false] at hz
              rcases hz with rfl | rfl | rfl | rfl
              · exact ⟨_, hD8⟩
              · exact ⟨_, hE8⟩
              · exact ⟨_, ha8⟩
              · exact ⟨_, hd8⟩
            · obtain ⟨u, hu, rfl⟩ := List.mem_map.mp hz
              obtain ⟨i, hi⟩ := List.getElem?_of_mem hu
              exact (fP8.each i u hi).2
end
end K65
set_option Elab.async false
set_option linter.all false
set_option maxRecDepth 100000
set_option maxHeartbeats 4000000
namespace K65
open PySem L2
theorem limsM_len (S : Sett) (st : StF) (e : List Row) : (limsM S st e).length = S.servs.length := by
  unfold limsM
  rw [List.length_map, List.length_range]
theorem givM_len (S : Sett) (st : StF) (e : List Row) : (givM S st e).length = S.servs.length := (sharesN_len _ _ _).trans (limsM_len S st e)
theorem range_at {α : Type} {f : Nat → α} {n i : Nat} (h : i < n) : ((List.range n).map f)[i]? = some (f i) := by
  rw [List.getElem?_map, List.getElem?_range h]
  rfl
theorem set_self {α : Type} {xs : List α} {i : Nat} {x : α} (h : xs[i]? = some x) : xs.set i x = xs := by
  obtain ⟨hi, rfl⟩ := List.getElem?_eq_some_iff.mp h
  exact List.set_getElem_self hi
/-- the state in the middle of a moment -/
def stI (S : Sett) (now : Nat) (st : StF) (e : List Row) (i : Nat) : StF := fun k => if k < i then stM S now st e k else st k
section
variable {P : Program} {w : World} {K : PySem.W.Frag} {mg : Str → Option Value} {base : Heap} {B H H1 : Hp}
def sp_House_moment (T : Ctx K mg) : Sp := fun vs H Q _ => ∃ h S B now st rec ev e, vs = [.ref h, ev] ∧ HouseI T B H h S now st rec ∧ S.Ok ∧ Dp K B ev (dEntry e) ∧ e.length = S.servs.length ∧ (∀ r ∈ e, (1 ≤ r.price ∧ r.price ≤ 100) ∧ 0 ≤ r.came ∧ r.came ≤ 1000) ∧ now < 500 ∧
  ∀ H' v, HouseI T B H' h S (now + 1) (stM S now st e) (rec ++ [momM S now st e]) → Q v H'
theorem ok_House_moment (T : Ctx K mg) : FnOk P w K mg base CX0 11 T.a_House_moment T.fd_House_moment ["self", "entry"] (sp_House_moment T) := by
  have G_check_entry := ok_check_entry (P := P) (w := w) (base := base) T
  have G_House_plan := ok_House_plan (P := P) (w := w) (base := base) T
  have G_shares := ok_shares (P := P) (w := w) (base := base) T
  have G_House_do := ok_House_do (P := P) (w := w) (base := base) T
  refine T.F_House_moment.ok sc_House_moment (fun vs H Q E h => ?_) (fun cdv A outer s H vs Q E hr h => ?_)
  · obtain ⟨h, S, B, now, st, rec, ev, e, rfl, hI, ok, hE, hlen, rows, n500, k⟩ := h
    rfl
  · obtain ⟨h, S, B, now, st, rec, ev, e, rfl, hI, ok, hE, hlen, rows, n500, k⟩ := h
    refine ⟨_, PSs.nox (pss_cons (ps_expr (pe_call G_check_entry (hr.mono (by decide)) rfl T.g_check_entry T.F_check_entry.kp T.b_check_entry .nil pass0 (pa_cons (pv 1) (pa_cons (pe_callB call_len_seq (by rfl) T.n_len (by decide +kernel) (pa_cons (pe_fld (pv 0) rfl) pa_nil)) pa_nil))))
    (pss_cons (ps_set (i := 2) sc_House_moment.nd rfl (Or.inr rfl) (pe_lc (own := [("k", 6), ("row", 7)]) rfl sc_House_moment.nd (pi_enum (by rfl) T.n_enumerate (pa_cons (pv 1) pa_nil)) (blkOk_by (N := N_House_moment) (sc := defScope s_House_moment) (own := [("k", 6), ("row", 7)]) (by decide +kernel)) (fun _ _ _ _ _ => (pg_tupK (K := K) (n := 2) rfl rfl (pgs_cons (pg_name (i := 6) sc_House_moment.nd rfl (Or.inl rfl)) (pgs_cons (pg_name (i := 7) sc_House_moment.nd rfl (Or.inl rfl)) pgs_nil)))) (fun _ _ _ _ _ => pts_nil) (fun _ _ _ _ _ => (pe_meth (pv 0) T.cl_House T.m_House_plan G_House_plan (hr.mono (by decide)) T.b_House_plan .nil pass0 (pa_cons (pv 6) (pa_cons (pe_ix (ix_tupK (K := K) rfl) (pv 7) pe_int (fun _ _ => rfl)) (pa_cons (pe_ix (ix_tupK (K := K) rfl) (pv 7) pe_int (fun _ _ => rfl)) pa_nil)))))))
    (pss_cons (ps_setLc (i := 3) (own := [("service", 8)]) rfl sc_House_moment.nd rfl rfl (sw_true rfl rfl rfl (by decide +kernel)) (pi_tup (pe_ix ix_tup (pe_fld (pv 0) rfl) pe_int (fun _ _ => rfl))) (blkOk_by (N := N_House_moment) (sc := defScope s_House_moment) (own := [("service", 8)]) (by decide +kernel)) (fun _ _ _ _ _ => (pg_name (i := 8) sc_House_moment.nd rfl (Or.inl rfl))) (fun _ _ _ _ _ => pts_nil) (fun _ _ _ _ _ => (pe_ix (ix_tupK (K := K) rfl) (pv 8) pe_int (fun _ _ => rfl))))
    (pss_cons (ps_set (i := 4) sc_House_moment.nd rfl (Or.inr rfl) (pe_call G_shares (hr.mono (by decide)) rfl T.g_shares T.F_shares.kp T.b_shares .nil pass0 (pa_cons (pe_ix ix_tup (pe_fld (pv 0) rfl) pe_int (fun _ _ => rfl)) (pa_cons (pe_lc (own := [("planned", 9)]) rfl sc_House_moment.nd (pi_list (pv 2)) (blkOk_by (N := N_House_moment) (sc := defScope s_House_moment) (own := [("planned", 9)]) (by decide +kernel)) (fun _ _ _ _ _ => (pg_name (i := 9) sc_House_moment.nd rfl (Or.inl rfl))) (fun _ _ _ _ _ => pts_nil) (fun _ _ _ _ _ => (pe_ix (ix_tupK (K := K) rfl) (pv 9) pe_int (fun _ _ => rfl)))) (pa_cons (pv 3) pa_nil)))))
    (pss_cons (ps_setLc (i := 5) (own := [("k", 6), ("row", 7)]) rfl sc_House_moment.nd rfl rfl (sw_true rfl rfl rfl (by decide +kernel)) (pi_enum (by rfl) T.n_enumerate (pa_cons (pv 1) pa_nil)) (blkOk_by (N := N_House_moment) (sc := defScope s_House_moment) (own := [("k", 6), ("row", 7)]) (by decide +kernel)) (fun _ _ _ _ _ => (pg_tupK (K := K) (n := 2) rfl rfl (pgs_cons (pg_name (i := 6) sc_House_moment.nd rfl (Or.inl rfl)) (pgs_cons (pg_name (i := 7) sc_House_moment.nd rfl (Or.inl rfl)) pgs_nil)))) (fun _ _ _ _ _ => pts_nil) (fun _ _ _ _ _ => (pe_meth (pv 0) T.cl_House T.m_House_do G_House_do (hr.mono (by decide)) T.b_House_do .nil pass0 (pa_cons (pv 6) (pa_cons (pv 7) (pa_cons (pe_ix (ix_listK (K := K) rfl) (pv 2) (pv 6) (fun _ _ => rfl)) (pa_cons (pe_ix (ix_listK (K := K) rfl) (pv 4) (pv 6) (fun _ _ => rfl)) pa_nil)))))))
    (pss_cons (ps_expr (pe_bm PySem.F.plainAttrs_list PySem.F.slot_list_append PySem.F.type_list_append mt_append (pe_fld (pv 0) rfl) (pa_cons (pe_callTy call_list_of (by rfl) T.n_list (by decide +kernel) (pa_cons (pv 1) pa_nil)) pa_nil)))
    (pss_cons (ps_expr (pe_bm PySem.F.plainAttrs_list PySem.F.slot_list_append PySem.F.type_list_append mt_append (pe_fld (pv 0) rfl) (pa_cons (pv 5) pa_nil)))
    (pss_one (ps_ret (pe_callTy call_list_of (by rfl) T.n_list (by decide +kernel) (pa_cons (pv 5) pa_nil))))))))))), ?_⟩
    obtain ⟨aq, ap, ae, ad, cells, fz, vs, hO, hC, ⟨dx, sv, h1⟩, hd, hms, hrl, hvz, ⟨zq, zqe, zqd⟩, ⟨zp, zpe, zpd⟩, nea, nBh⟩ := hI
    obtain ⟨dx', sv', es, h1', h2, h3, h4, h5, h6⟩ := id hO
    rw [h1] at h1'
    cases h1'
    obtain ⟨sa, ssa, ka, ss, ks, rfl, g1, g2, g3, g4, g5⟩ := sett_inv h2
    obtain ⟨ea, rs, rfl, he, hes⟩ := dp_lst hE
    have few := ok.few
    have e1 : rs.length = e.length := by rw [dpa_len hes, List.length_map]
    have e3 : ss.length = S.servs.length := by rw [dpa_len g3, List.length_map]
    have hB := hC.base
    have cl : ((cells.map Cell.q).map V.ref).length = S.servs.length := by rw [List.length_map, List.length_map]; exact hC.len
    have hq0 : ∀ {k : Nat} {c : Cell}, cells[k]? = some c → (cells.map Cell.q)[k]? = some c.q := fun h => by rw [List.getElem?_map, h]; rfl
    have hp0 : ∀ {k : Nat} {c : Cell}, cells[k]? = some c → (cells.map Cell.p)[k]? = some c.p := fun h => by rw [List.getElem?_map, h]; rfl
    -- check_entry(entry, len(self.queues))
    refine ⟨_, rfl, _, rfl, h, T.c_House, dx, _, _, rfl, h1, T.cl_House, T.n_House_queues, houseF_q _ _ _ _ _, _, _, rfl, .inl (SqL.of h3), .ref ea, e, _, rfl, Same_dp hB hE, by rw [cl, hlen], rows, ?_⟩
    -- plans
    refine ⟨_, rfl, ea, rs, rfl, Same_l hB he, fun D nD => ?_⟩
    refine lc_it (walk_enum (K := K) (a := ea) (xs := rs)) (fun i H' => Same H H' ∧ ∃ pv, H' D = some (.lst pv) ∧ DpAll K H' pv ((List.range i).map (planD S st e))) ⟨Same_new nD, [], upd_same, .nil⟩ (fun i H' _ p => Same_l (hB.trans p.1) he) ?_ ?_
    · rintro i x H1 H2 hi ⟨s1, pv, hD, hpv⟩ ⟨tp, _, lx, rfl, ntp, rfl, rfl', hlx⟩
      cases rfl'
      have il : i < S.servs.length := by omega
      obtain ⟨r, hr, hdr⟩ := dpa_map_at hes hlx
      obtain ⟨ra, rfl, hrr⟩ := row_inv hdr
      obtain ⟨c, hc⟩ := at_of_lt (xs := cells) (i := i) (by rw [hC.len]; exact il)
      obtain ⟨s, hs⟩ := hC.pair hc
      obtain ⟨cQ, cP, qok, pok, crl⟩ := hC.each i c s hc hs
      have s2 := Same_new (o := .tup [.int (i : Nat), .ref ra]) ntp
      have s12 := s1.trans s2
      refine ⟨_, _, rfl, SqT.of upd_same, rfl, _, _, rfl, _, _, rfl, rfl, rfl, ?_⟩
      refine ⟨_, rfl, h, dx, _, rfl, s12 _ _ h1, houseF_no _ _ _ _ _ (by decide +kernel) (by decide +kernel) (by decide +kernel) (by decide +kernel) (by decide +kernel) (by decide +kernel), ?_⟩
      have r0 := (rows r (List.mem_of_getElem? hr)).2.1
      refine ⟨_, rfl, _, rfl, _, _, _, _, rfl, rfl, Same_t (hB.trans s12) hrr, rfl, _, rfl, _, _, _, _, rfl, rfl, Same_t (hB.trans s12) hrr, rfl, ?_⟩
      refine ⟨h, S, aq, ap, ae, ad, cells.map Cell.q, cells.map Cell.p, now, i, r.price, r.came, s, c.q, c.l, c.p, c.a, (st i).1, (st i).2, rfl, hO.same s12, hs, ok.servs s (List.mem_of_getElem? hs), hq0 hc, hp0 hc, cQ.same s12, qok, cP.same s12, pok, r0, fun H3 t s3 ht => ?_⟩
      have s23 := s2.trans s3
      refine ⟨pv, s23 _ _ hD, less_of ?_, Same_mut (s1.trans s23) nD, _, upd_same, ?_⟩
      · rw [dpa_len hpv, List.length_map, List.length_range]
        omega
      · rw [List.range_succ, List.map_append]
        have hd3 : Dp K H3 (.ref t) (planD S st e i) := by
          unfold planD limK
          rw [servAt_eq hs, getD_some hr]
          exact ints_of ht
        exact dpa_push (s23 _ _ hD) (noLs_map (fun k => noL_ints _) _) (noL_ints _) (Same_dpa s23 hpv) hd3 _
    · rintro H1 ⟨s1, pv, hD, hpv⟩
      rw [e1, hlen] at hpv
      have pl : pv.length = S.servs.length := by rw [dpa_len hpv, List.length_map, List.length_range]
      have h11 := s1 _ _ h1
      -- weights
      refine ⟨_, rfl, h, T.c_House, dx, _, _, rfl, h11, T.cl_House, T.n_House_told_setting, houseF_t _ _ _ _ _, _, _, _, _, rfl, rfl, Same_t s1 g1, rfl, ssa, rfl, ⟨ss, Same_t s1 g2⟩, fun W nW => ?_⟩
      refine lc_tup (xs := ss) (fun i H' => Same H1 H' ∧ H' W = some (.lst (((wsM S).take i).map V.int))) ⟨Same_new nW, upd_same⟩ (fun i H' _ p => Same_t (s1.trans p.1) g2) ?_ ?_
      · rintro i x H' hi ⟨s, hW⟩
        obtain ⟨v, hv, hd⟩ := dpa_map_at g3 hi
        obtain ⟨va, ra, wa, rfl, q1, q2, q3⟩ := serv_inv hd
        have il : i < S.servs.length := (List.getElem?_eq_some_iff.mp hv).1
        refine ⟨rfl, _, rfl, _, _, _, _, rfl, rfl, Same_t (s1.trans s) q1, rfl, _, hW, less_of ?_, Same_mut s nW, ?_⟩
        · rw [List.length_map, List.length_take]
          omega
        · unfold wsM
          rw [take_snoc (x := v.weight) (by rw [List.getElem?_map, hv]; rfl), List.map_append]
          exact upd_same
      · rintro H2 ⟨s2, hW⟩
        have eW : (wsM S).take ss.length = wsM S := List.take_of_length_le (by unfold wsM; rw [List.length_map, e3]; exact Nat.le_refl _)
        rw [eW] at hW
        have s12 := s1.trans s2
        have hD2 := s2 _ _ hD
        -- given = shares(..)
        refine ⟨_, rfl, h, T.c_House, dx, _, _, rfl, s12 _ _ h1, T.cl_House, T.n_House_told_setting, houseF_t _ _ _ _ _, _, _, _, _, rfl, rfl, Same_t s12 g1, rfl, ?_⟩
        refine ⟨_, rfl, D, rfl, ⟨pv, SqL.of hD2⟩, fun L nL => ?_⟩
        have nLD : L ≠ D := (ne_of_none hD2 nL).symm
        refine lc_list (xs := pv) (fun i H' => Same H2 H' ∧ H' L = some (.lst (((limsM S st e).take i).map V.int))) ⟨Same_new nL, upd_same⟩ (fun i H' _ p => SqL.of (p.1 _ _ hD2)) ?_ ?_
        · rintro i x H' hi ⟨s, hL⟩
          have il : i < S.servs.length := by
            have := (List.getElem?_eq_some_iff.mp hi).1
            omega
          obtain ⟨d, hd0, hd⟩ := dpa_at hpv hi
          rw [range_at il] at hd0
          cases hd0
          obtain ⟨t, rfl, ht⟩ := ints_inv hd
          refine ⟨rfl, _, rfl, _, _, _, _, rfl, rfl, Same_t (s2.trans s) ht, rfl, _, hL, less_of ?_, Same_mut s nL, ?_⟩
          · rw [List.length_map, List.length_take]
            omega
          · unfold limsM
            rw [take_snoc (x := limK S st e i) (range_at il), List.map_append]
            exact upd_same
        · rintro H3 ⟨s3, hL⟩
          have eL : (limsM S st e).take pv.length = limsM S st e := List.take_of_length_le (by rw [limsM_len, pl]; exact Nat.le_refl _)
          rw [eL] at hL
          refine ⟨_, rfl, S.quota, L, W, limsM S st e, wsM S, rfl, ok.quota.1, ok.quota.2, SqL.of hL, SqL.of (s3 _ _ hW), ⟨fun w hw => ?_⟩, ?_, ?_, fun H4 G s4 nG hG => ?_⟩
          · obtain ⟨v, hv, rfl⟩ := List.mem_map.mp hw
            have := (ok.servs v hv).weight
            omega
          · rw [limsM_len]
            unfold wsM
            rw [List.length_map]
          · rw [limsM_len]
            omega
          · have s34 := s3.trans s4
            have s04 := s12.trans s34
            have hG' : H4 G = some (.lst ((givM S st e).map V.int)) := hG
            have hD4 := s34 _ _ hD2
            have hpv4 := Same_dpa (s2.trans s34) hpv
            -- the plans and what is given are kept apart
            have cA := hC.fresh (z := D) s04 nD hD4
            have nG2 : H2 G = none := s3.free nG
            have nG0 : H G = none := s12.free nG2
            have cB := (hC.fresh (z := D) (s12) nD hD2).fresh (z := G) s34 nG2 hG'
            -- deeds
            refine ⟨_, rfl, ea, rs, rfl, Same_l (hB.trans s04) he, fun E nE => ?_⟩
            have nEB : B E = none := (hB.trans s04).free nE
            have cE := cB.fresh (z := E) (vs := []) (Same_new nE) nE upd_same
            have cE' : Core T B (upd H4 E (.lst [])) S cells (E :: G :: D :: fz) [E, ae, ad] (stI S now st e 0) (fun k => if k < 0 then now + 1 else now) := cE.less (fun z hz => by
              simp only [List.mem_cons, List.not_mem_nil, or_false] at hz ⊢
              rcases hz with h | h | h
              · exact .inl h
              · exact .inr (.inr (.inr (.inl h)))
              · exact .inr (.inr (.inr (.inr h)))) (fun k _ => ⟨if_neg (Nat.not_lt_zero k), if_neg (Nat.not_lt_zero k)⟩)
            have sE := Same_new (o := .lst []) nE
            have h14 := s04 _ _ h1
            have nEh : E ≠ h := (ne_of_none h14 nE).symm
            have hO4 := hO.same s04
            obtain ⟨dx4, sv4, es4, h14', h24, h34, h44, h54, h64⟩ := id hO4
            have nEq : E ≠ aq := (ne_of_none h34 nE).symm
            have nEp : E ≠ ap := (ne_of_none h44 nE).symm
            have nEe : E ≠ ae := (ne_of_none h54 nE).symm
            have hd4 := s04 _ _ hd
            have nEd : E ≠ ad := (ne_of_none hd4 nE).symm
            have nEG : E ≠ G := (ne_of_none hG' nE).symm
            have nED : E ≠ D := (ne_of_none hD4 nE).symm
            have hvE : ∀ z, V.ref z ∈ vs → z ≠ E := fun z hz => by
              obtain ⟨ws, hw⟩ := hC.live z (hvz z hz).1
              exact ne_of_none (s04 _ _ hw) nE
            refine lc_it (walk_enum (K := K) (a := ea) (xs := rs)) (fun i H' => ∃ cs fy dv, Core T B H' S cs fy [E, ae, ad] (stI S now st e i) (fun k => if k < i then now + 1 else now) ∧ (∀ z ∈ (E :: G :: D :: fz), z ∈ fy) ∧ cs.map Cell.q = cells.map Cell.q ∧ cs.map Cell.p = cells.map Cell.p ∧
                HouseOb T H' h S aq ap ae ad (cells.map Cell.q) (cells.map Cell.p) now ∧ H' h = some (.ins T.c_House dx (houseF (.ref sa) (.ref aq) (.ref ap) (.ref ae) (.ref ad))) ∧ H' D = some (.lst pv) ∧ DpAll K H' pv ((List.range S.servs.length).map (planD S st e)) ∧ H' G = some (.lst ((givM S st e).map V.int)) ∧
                H' ad = some (.lst vs) ∧ DpAll K H' vs (rec.map dMom) ∧ H' E = some (.lst dv) ∧ DpAll K H' dv (((List.range i).map (deedK S now st e)).map dDeed))
              ⟨cells, _, [], cE', fun z hz => hz, rfl, rfl, hO4.same sE, sE _ _ h14, sE _ _ hD4, Same_dpa sE hpv4, sE _ _ hG', sE _ _ hd4, Same_dpa (s04.trans sE) hms, upd_same, .nil⟩
              (fun i H' _ ⟨_, _, _, c, _⟩ => Same_l c.base he) ?_ ?_
            · rintro i x H5 H6 hi ⟨cs, fy, dv, c5, sub5, eq5, ep5, hO5, h15, hD5, hpv5, hG5, hd5, hms5, hE5, hdv5⟩ ⟨tp, _, lx, rfl, ntp, rfl, rfl', hlx⟩
              cases rfl'
              have il : i < S.servs.length := by omega
              obtain ⟨r, hr, hdr⟩ := dpa_map_at hes hlx
              obtain ⟨ra, rfl, hrr⟩ := row_inv hdr
              obtain ⟨c, hc⟩ := at_of_lt (xs := cs) (i := i) (by rw [c5.len]; exact il)
              obtain ⟨s, hs⟩ := c5.pair hc
              have s6 := Same_new (o := .tup [.int (i : Nat), .ref ra]) ntp
              have c6 := c5.same s6
              obtain ⟨cQ, cP, qok, pok, crl⟩ := c6.each i c s hc hs
              have ei : stI S now st e i i = st i := if_neg (Nat.lt_irrefl i)
              rw [ei] at cQ cP qok pok crl
              have crl' : (st i).1.rows.length ≤ now := by
                have e : (if i < i then now + 1 else now) = now := if_neg (Nat.lt_irrefl i)
                rw [e] at crl
                exact crl
              have mc := List.mem_of_getElem? hc
              have hqi : (cells.map Cell.q)[i]? = some c.q := by rw [← eq5, List.getElem?_map, hc]; rfl
              have hpi : (cells.map Cell.p)[i]? = some c.p := by rw [← ep5, List.getElem?_map, hc]; rfl
              obtain ⟨pvi, hpi1, hpi2⟩ := dpa_get hpv5 (range_at il)
              obtain ⟨pt, rfl, hpt⟩ := ints_inv hpi2
              have hgi : ((givM S st e).map V.int)[i]? = some (.int ((givM S st e).getD i 0)) := getD_at (by rw [givM_len]; exact il)
              have h16 := s6 _ _ h15
              refine ⟨_, _, rfl, SqT.of upd_same, rfl, _, _, rfl, _, _, rfl, rfl, rfl, ?_⟩
              refine ⟨_, rfl, h, dx, _, rfl, h16, houseF_no _ _ _ _ _ (by decide +kernel) (by decide +kernel) (by decide +kernel) (by decide +kernel) (by decide +kernel) (by decide +kernel), ?_⟩
              refine ⟨_, rfl, _, rfl, _, rfl, _, rfl, _, _, _, _, rfl, rfl, SqL.of (s6 _ _ hD5), atI_nat hpi1, _, rfl, _, rfl, _, _, _, _, rfl, rfl, SqL.of (s6 _ _ hG5), atI_nat hgi, ?_⟩
              have fl := fun z hz => c6.fzl c mc z hz
              refine ⟨h, S, aq, ap, ae, ad, cells.map Cell.q, cells.map Cell.p, now, i, _, r, pt, (givM S st e).getD i 0, s, c.q, c.l, c.p, c.a, (st i).1, (st i).2, rfl, hO5.same s6, ok, hs, hqi, hpi, cQ, by omega, cP, pok,
                ⟨fl _ (c6.afz c mc), fl _ (sub5 _ (.tail _ (.tail _ (.tail _ zq)))), fl _ (sub5 _ (.tail _ (.tail _ (.tail _ zp)))), fl _ (c6.sub _ (.tail _ (.head _)))⟩, Same_dp c6.base (row_of hrr), ?_, fun H7 dvv l' a' hQ7 hP7 nla b7 al7 nl7 na7 hdd => ?_⟩
              · have hpt' := Same_t s6 hpt
                unfold limK at hpt'
                rw [servAt_eq hs, getD_some hr] at hpt'
                exact hpt'
              · have u7 : Tups _ H7 := But3.tups cQ cP b7
                have kp : ∀ {z o}, z ∈ fy → (upd H5 tp (.tup [.int (i : Nat), .ref ra])) z = some o → H7 z = some o := fun hz h => c6.lists hc b7 hz h
                have hst : stI S now st e (i + 1) i = (nextQ s (st i).1 r ((givM S st e).getD i 0), nextP s (keptF S.keeps s.name (now : Int)) (st i).2 r ((givM S st e).getD i 0)) := by
                  unfold stI stM
                  rw [if_pos (Nat.lt_succ_self i), servAt_eq hs, getD_some hr]
                have c7 := c6.step (st' := stI S now st e (i + 1)) (n' := fun k => if k < i + 1 then now + 1 else now) hc hs b7 nl7 na7 nla (by rw [hst]; exact hQ7) (by rw [hst]; exact hP7) (by
                  rw [hst]
                  refine ⟨QS.step_ok qok _ _ _ _, nextP_ok pok _ _ _, ?_⟩
                  have ee : (if i < i + 1 then now + 1 else now) = now + 1 := if_pos (Nat.lt_succ_self i)
                  rw [ee]
                  have := QS.step_len s.lag s.patience (st i).1 r.came ((givM S st e).getD i 0 * s.room)
                  show ((st i).1.step s.lag s.patience r.came ((givM S st e).getD i 0 * s.room)).rows.length ≤ now + 1
                  omega) (fun j hj => by
                  unfold stI
                  by_cases hji : j < i
                  · rw [if_pos hji, if_pos hji, if_pos (Nat.lt_succ_of_lt hji), if_pos (Nat.lt_succ_of_lt hji)]
                    exact ⟨rfl, rfl⟩
                  · rw [if_neg hji, if_neg hji, if_neg (by omega), if_neg (by omega)]
                    exact ⟨rfl, rfl⟩)
                have hnh : H7 h = some (.ins T.c_House dx (houseF (.ref sa) (.ref aq) (.ref ap) (.ref ae) (.ref ad))) := by
                  obtain ⟨qdx, qxs, hq, hl, hxs⟩ := id cQ
                  obtain ⟨px, tv, pys, hp, hT, hla, hys⟩ := id cP
                  exact b7 _ _ h16 (ne_of hq h16 queue_ne_house).symm (ne_of h16 hl (by intro z; cases z)) (ne_of hp h16 pool_ne_house).symm
                have zq7 := sub5 _ (.tail _ (.tail _ (.tail _ zq)))
                have zp7 := sub5 _ (.tail _ (.tail _ (.tail _ zp)))
                have ze7 := c6.sub _ (.tail _ (.head _))
                have zd7 := c6.sub _ (.tail _ (.tail _ (.head _)))
                have zE7 := c6.sub _ (.head _)
                have hO7 : HouseOb T H7 h S aq ap ae ad (cells.map Cell.q) (cells.map Cell.p) now := (hO5.same s6).keep u7 (fun o x => by
                  rw [h16] at x
                  cases x
                  exact hnh) (fun o x => kp zq7 x) (fun o x => kp zp7 x) (fun o x => kp ze7 x)
                have hE7 := kp zE7 (s6 _ _ hE5)
                have uE := Tups_upd (o := .lst (dv ++ [dvv])) hE7 rfl
                have kE : ∀ {z o}, z ≠ E → H7 z = some o → upd H7 E (.lst (dv ++ [dvv])) z = some o := fun hz h => by rw [upd_ne hz]; exact h
                have nlp : ∀ k, noL (planD S st e k) = true := fun k => noL_ints _
                refine ⟨dv, hE7, less_of ?_, cs.set i ⟨c.q, l', c.p, a'⟩, a' :: fy, dv ++ [dvv], c7.put (.head _) _, fun z hz => .tail _ (sub5 z hz), ?_, ?_, hO7.keep uE (fun o x => kE nEh.symm x) (fun o x => kE nEq.symm x) (fun o x => kE nEp.symm x) (fun o x => kE nEe.symm x), kE nEh.symm hnh,
                  kE nED.symm (kp (sub5 _ (.tail _ (.tail _ (.head _)))) (s6 _ _ hD5)), Tups_dpa (u7.trans uE) (noLs_map nlp _) (Same_dpa s6 hpv5), kE nEG.symm (kp (sub5 _ (.tail _ (.head _))) (s6 _ _ hG5)),
                  kE nEd.symm (kp zd7 (s6 _ _ hd5)), ?_, upd_same, ?_⟩
                · rw [dpa_len hdv5, List.length_map, List.length_map, List.length_range]
                  omega
                · rw [List.map_set, eq5]
                  exact set_self hqi
                · rw [List.map_set, ep5]
                  exact set_self hpi
                · exact moms_keep (vs := vs) (Same_dpa s6 hms5) (u7.trans uE) fun z o hz h => kE (hvE z hz) (kp (sub5 _ (.tail _ (.tail _ (.tail _ (hvz z hz).1)))) h)
                · rw [List.range_succ, List.map_append, List.map_append]
                  have hde : Dp K H7 dvv (dDeed (deedK S now st e i)) := by
                    unfold deedK
                    rw [servAt_eq hs, getD_some hr]
                    exact hdd
                  exact dpa_push hE7 (noLs_deeds _) (noL_deed _) (Tups_dpa u7 (noLs_deeds _) (Same_dpa s6 hdv5)) hde _
            · rintro H5 ⟨cs, fy, dv, c5, sub5, eq5, ep5, hO5, h15, hD5, hpv5, hG5, hd5, hms5, hE5, hdv5⟩
              rw [e1, hlen] at c5 hdv5
              have c5' : Core T B H5 S cs fy [E, ae, ad] (stM S now st e) (fun _ => now + 1) := c5.less (fun z hz => hz) fun k hk => by
                have e2 : stI S now st e S.servs.length k = stM S now st e k := if_pos hk
                have e4 : (if k < S.servs.length then now + 1 else now) = now + 1 := if_pos hk
                exact ⟨e2.symm, e4.symm⟩
              obtain ⟨dx5, sv5, es5, h15', h25, h35, h45, h55, h65⟩ := id hO5
              have zq5 := sub5 _ (.tail _ (.tail _ (.tail _ zq)))
              have zp5 := sub5 _ (.tail _ (.tail _ (.tail _ zp)))
              -- self.entries.append(list(entry))
              refine ⟨_, rfl, h, T.c_House, dx, _, _, rfl, h15, T.cl_House, T.n_House_entries, houseF_e _ _ _ _ _, .inl ⟨rfl, _, SqL.of h55⟩, _, rfl, _, _, rfl, .inl (Same_l c5.base he), fun F nF => ?_⟩
              have sF := Same_new (o := .lst rs) nF
              refine ⟨ae, es5, _, rfl, rfl, sF _ _ h55, less_of (by omega), ?_⟩
              have c6 := (c5'.same sF).put (.tail _ (.head _)) (es5 ++ [.ref F])
              have h5F := sF _ _ h55
              have uF := Tups_upd (o := .lst (es5 ++ [.ref F])) h5F rfl
              have kF : ∀ {z o}, z ≠ ae → H5 z = some o → upd (upd H5 F (.lst rs)) ae (.lst (es5 ++ [.ref F])) z = some o := fun hz h => by rw [upd_ne hz]; exact sF _ _ h
              have nhe : h ≠ ae := ne_of h15 h55 (by intro z; cases z)
              have h16 := kF nhe h15
              have hd6 := kF nea.symm hd5
              have hE6 := kF nEe hE5
              -- self.deeds.append(deeds)
              refine ⟨_, rfl, h, T.c_House, dx, _, _, rfl, h16, T.cl_House, T.n_House_deeds, houseF_d _ _ _ _ _, .inl ⟨rfl, _, SqL.of hd6⟩, _, rfl, ad, vs, _, rfl, rfl, hd6, less_of ?_, ?_⟩
              · rw [dpa_len hms5, List.length_map]
                omega
              · have c7 := c6.put (.tail _ (.tail _ (.head _))) (vs ++ [.ref E])
                have uG := Tups_upd (o := .lst (vs ++ [.ref E])) hd6 rfl
                have u57 := (Same.tups sF).trans (uF.trans uG)
                have kG : ∀ {z o}, z ≠ ae → z ≠ ad → H5 z = some o → upd (upd (upd H5 F (.lst rs)) ae (.lst (es5 ++ [.ref F]))) ad (.lst (vs ++ [.ref E])) z = some o := fun hz hz' h => by rw [upd_ne hz']; exact kF hz h
                have nhd : h ≠ ad := ne_of h15 hd5 (by intro z; cases z)
                have hE7 := kG nEe nEd hE5
                -- return list(deeds)
                refine ⟨_, rfl, _, _, rfl, .inl (SqL.of hE7), fun R nR => ?_⟩
                refine k _ _ (HouseI.same (H := upd (upd (upd H5 F (.lst rs)) ae (.lst (es5 ++ [.ref F]))) ad (.lst (vs ++ [.ref E]))) ?_ (Same_new nR))
                refine ⟨aq, ap, ae, ad, cs, fy, vs ++ [.ref E], ⟨dx, .ref sa, es5 ++ [.ref F], kG nhe nhd h15, ?_, ?_, ?_, ?_, ?_⟩, c7.less (fun z hz => .tail _ hz) (fun k _ => ⟨rfl, rfl⟩), ⟨dx, _, kG nhe nhd h15⟩, upd_same, ?_, ?_, fun z hz => ?_, ⟨zq5, zqe, zqd⟩, ⟨zp5, zpe, zpd⟩, nea, nBh⟩
                · rw [h15] at h15'
                  cases h15'
                  exact Tups_dp u57 (noL_sett S) h25
                · rw [eq5]
                  exact kG zqe zqd h35
                · rw [ep5]
                  exact kG zpe zpd h45
                · rw [upd_ne nea]
                  exact upd_same
                · rw [List.length_append, h65]
                  rfl
                · rw [List.map_append]
                  refine dpa_app ?_ (.cons (.lst (SqL.of hE7) (Tups_dpa u57 (noLs_deeds _) hdv5)) .nil)
                  exact moms_keep (vs := vs) hms5 u57 fun z o hz h => kG (hvz z hz).2.1 (hvz z hz).2.2 h
                · rw [List.length_append, hrl]
                  rfl
                · rcases List.mem_append.mp hz with hz | hz
                  · exact ⟨sub5 _ (.tail _ (.tail _ (.tail _ (hvz z hz).1))), (hvz z hz).2⟩
                  · cases List.mem_singleton.mp hz
                    exact ⟨sub5 _ (.head _), nEe, nEd⟩
def sp_House_record (T : Ctx K mg) : Sp := fun vs H Q _ => ∃ h S B now st rec, vs = [.ref h] ∧ HouseI T B H h S now st rec ∧ now ≤ 1000 ∧ ∀ H' v, Same H H' → Dp K H' v (dRec rec) → Q v H'
theorem ok_House_record (T : Ctx K mg) : FnOk P w K mg base CX0 1 T.a_House_record T.fd_House_record ["self"] (sp_House_record T) := by
  refine T.F_House_record.ok sc_House_record (fun vs H Q E h => ?_) (fun cdv A outer s H vs Q E hr h => ?_)
  · obtain ⟨h, S, B, now, st, rec, rfl, hI, n1000, k⟩ := h
    rfl
  · obtain ⟨h, S, B, now, st, rec, rfl, hI, n1000, k⟩ := h
    refine ⟨_, PSs.nox (pss_one (ps_ret (pe_lc (own := [("moment", 1)]) rfl sc_House_record.nd (pi_list (pe_fld (pv 0) rfl)) (blkOk_by (N := N_House_record) (sc := defScope s_House_record) (own := [("moment", 1)]) (by decide +kernel)) (fun _ _ _ _ _ => (pg_name (i := 1) sc_House_record.nd rfl (Or.inl rfl))) (fun _ _ _ _ _ => pts_nil) (fun _ _ _ _ _ => (pe_callTy (call_list_ofK (K := K) rfl) (by rfl) T.n_list (by decide +kernel) (pa_cons (pv 1) pa_nil)))))), ?_⟩
    obtain ⟨aq, ap, ae, ad, cells, fz, vs, hO, hC, ⟨dx, sv, h1⟩, hd, hms, hrl, hvz, _⟩ := hI
    have vl : vs.length = rec.length := by rw [dpa_len hms, List.length_map]
    refine ⟨_, rfl, h, T.c_House, dx, _, _, rfl, h1, T.cl_House, T.n_House_deeds, houseF_d _ _ _ _ _, ad, rfl, ⟨vs, SqL.of hd⟩, fun D nD => ?_⟩
    refine lc_list (xs := vs) (fun i H' => Same H H' ∧ ∃ xs, H' D = some (.lst xs) ∧ DpAll K H' xs ((rec.take i).map dMom) ∧ ∀ z, V.ref z ∈ xs → z ≠ D ∧ ∃ ys, H' z = some (.lst ys)) ⟨Same_new nD, [], upd_same, .nil, fun z hz => (by cases hz)⟩ (fun i H' _ p => SqL.of (p.1 _ _ hd)) ?_ ?_
    · rintro i x H1 hi ⟨s1, xs, hD, hxs, hz⟩
      obtain ⟨m, hm, hdm⟩ := dpa_map_at hms hi
      obtain ⟨ma, ys, rfl, hm1, hm2⟩ := dp_lst hdm
      have il : i < rec.length := (List.getElem?_eq_some_iff.mp hm).1
      refine ⟨rfl, _, rfl, _, _, rfl, .inl (Same_l s1 hm1), fun F nF => ?_⟩
      have sF := Same_new (o := .lst ys) nF
      have nFD : F ≠ D := (ne_of_none hD nF).symm
      have hDF := sF _ _ hD
      have u := Tups_upd (o := .lst (xs ++ [.ref F])) hDF rfl
      have kp : ∀ {z o}, z ≠ D → (upd H1 F (.lst ys)) z = some o → upd (upd H1 F (.lst ys)) D (.lst (xs ++ [.ref F])) z = some o := fun hz h => by rw [upd_ne hz]; exact h
      refine ⟨xs, hDF, less_of ?_, Same_mut (s1.trans sF) nD, _, upd_same, ?_, fun z hz' => ?_⟩
      · rw [dpa_len hxs, List.length_map, List.length_take]
        omega
      · rw [take_snoc hm, List.map_append]
        refine dpa_app (moms_keep (vs := xs) (Same_dpa sF hxs) u fun z o h1 h2 => kp (hz z h1).1 h2) (.cons (.lst (SqL.of (kp nFD upd_same)) (Tups_dpa u (noLs_deeds m) (Same_dpa (s1.trans sF) hm2))) .nil)
      · rcases List.mem_append.mp hz' with h | h
        · obtain ⟨h2, zs, h3⟩ := hz z h
          exact ⟨h2, zs, kp h2 (sF _ _ h3)⟩
        · cases List.mem_singleton.mp h
          exact ⟨nFD, ys, kp nFD upd_same⟩
    · rintro H1 ⟨s1, xs, hD, hxs, hz⟩
      rw [vl, List.take_length] at hxs
      exact k _ _ s1 (.lst (SqL.of hD) hxs)
end
end K65
set_option Elab.async false
set_option linter.all false
set_option maxRecDepth 100000
set_option maxHeartbeats 4000000
namespace K65
open PySem L2
def abc : List Nat := ("abcdefghijklmnopqrstuvwxyz" : Str).cps.toList
theorem abc_len : abc.length = 26 := by decide +kernel
theorem abc_small : ("abcdefghijklmnopqrstuvwxyz" : Str).length ≤ sizeLine := small_of (by decide +kernel)
theorem abc_inj : ∀ i j : Fin 26, abc[i.val]? = abc[j.val]? → i = j := by decide +kernel
theorem abc_at {i : Int} : ∃ c, atI abc (i % 26) = some c ∧ abc[(i % 26).toNat]? = some c ∧ c ∈ abc := by
  have h0 : 0 ≤ i % 26 := Int.emod_nonneg i (by decide)
  have h1 : i % 26 < 26 := Int.emod_lt_of_pos i (by decide)
  have hl : (i % 26).toNat < abc.length := by rw [abc_len]; omega
  refine ⟨abc[(i % 26).toNat], ?_, List.getElem?_eq_getElem hl, List.getElem_mem hl⟩
  have e : (((i % 26).toNat : Nat) : Int) = i % 26 := by omega
  have r := atI_nat (List.getElem?_eq_getElem hl)
  rw [e] at r
  exact r
/-- a word, its first sign told by the number -/
structure WordOf (n : Int) (z : Str) : Prop where
  word : IsWord z
  first : z.cps.toList[0]? = abc[(n % 26).toNat]?
theorem cps_push (z : Str) (c : Nat) : (z ++ (⟨#[c]⟩ : Str)).cps.toList = z.cps.toList ++ [c] := by
  show (z.cps ++ #[c]).toList = _
  simp
theorem len_push (z : Str) (c : Nat) : (z ++ (⟨#[c]⟩ : Str)).length = z.length + 1 := by
  show (z.cps ++ #[c]).size = z.cps.size + 1
  simp
theorem WordOf.push {n : Int} {z : Str} {c : Nat} (h : WordOf n z) (hl : z.length ≤ 11) (hc : c ∈ abc) : WordOf n (z ++ (⟨#[c]⟩ : Str)) := by
  have l1 := h.word.1
  refine ⟨⟨by rw [len_push]; omega, by rw [len_push]; omega, fun x hx => ?_⟩, ?_⟩
  · rw [cps_push] at hx
    rcases List.mem_append.mp hx with hx | hx
    · exact h.word.2.2 x hx
    · cases List.mem_singleton.mp hx
      exact hc
  · rw [cps_push, List.getElem?_append_left]
    · exact h.first
    · have e : z.cps.toList.length = z.length := by show z.cps.toList.length = z.cps.size; simp
      rw [e]
      exact l1
section
variable {P : Program} {w : World} {K : PySem.W.Frag} {mg : Str → Option Value} {base : Heap} {B H H1 : Hp}
def sp_l_cell (T : Ctx K mg) : Sp := fun vs H Q _ => ∃ (a : Addr) (ns : List Int) (k : Nat), vs = [.ref a, .int (k : Int)] ∧ SqL K H a (ns.map V.int) ∧ ∀ z : Int, Q (.int z) H
theorem ok_l_cell (T : Ctx K mg) : FnOk P w K mg base CX0 1 T.a_l_cell T.fd_l_cell ["_law_script", "_law_k"] (sp_l_cell T) := by
  refine T.F_l_cell.ok sc_l_cell (fun vs H Q E h => ?_) (fun cdv A outer s H vs Q E hr h => ?_)
  · obtain ⟨a, ns, k, rfl, hs, kk⟩ := h
    rfl
  · obtain ⟨a, ns, k, rfl, hs, kk⟩ := h
    refine ⟨_, PSs.nox (pss_cons (ps_if (pt_cmpR op_lt (pv 1) (pe_callB call_len_seq (by rfl) T.n_len (by decide +kernel) (pa_cons (pv 0) pa_nil)) (nomark _))
      (pss_one (ps_ret (pe_callTy call_int1 (by rfl) T.n_int (by decide +kernel) (pa_cons (pe_ix ix_list (pv 0) (pv 1) (fun _ _ => rfl)) pa_nil))))
      pss_nil)
    (pss_one (ps_ret pe_int))), ?_⟩
    refine ⟨_, rfl, _, rfl, _, _, rfl, .inl hs, _, _, rfl, rfl, _, rfl, ?_⟩
    rw [List.length_map]
    refine ite2 (fun h => ?_) (fun h => ?_)
    · have hk : k < ns.length := by
        have := of_decide_eq_true h
        omega
      exact ⟨_, rfl, _, rfl, _, _, _, _, rfl, rfl, hs, atI_nat (getD_at hk), .inl ⟨_, rfl, kk _⟩⟩
    · exact kk 0
def sp_l_draw (T : Ctx K mg) : Sp := fun vs H Q _ => ∃ c k many : Int, vs = [.int c, .int k, .int many] ∧ 0 ≤ k ∧ k ≤ 1000 ∧ 0 < many ∧ ∀ z : Int, 0 ≤ z → z < many → Q (.int z) H
theorem ok_l_draw (T : Ctx K mg) : FnOk P w K mg base CX0 1 T.a_l_draw T.fd_l_draw ["_law_cell_here", "_law_k", "_law_many"] (sp_l_draw T) := by
  refine T.F_l_draw.ok sc_l_draw (fun vs H Q E h => ?_) (fun cdv A outer s H vs Q E hr h => ?_)
  · obtain ⟨c, k, many, rfl, k0, k1, m0, kk⟩ := h
    rfl
  · obtain ⟨c, k, many, rfl, k0, k1, m0, kk⟩ := h
    refine ⟨_, PSs.nox (pss_cons (ps_set (i := 3) sc_l_draw.nd rfl (Or.inl rfl) (pe_callB call_abs (by rfl) T.n_abs (by decide +kernel) (pa_cons (pe_callTy call_int1 (by rfl) T.n_int (by decide +kernel) (pa_cons (pv 0) pa_nil)) pa_nil)))
    (pss_cons (ps_if (pt_cmpR op_lt (pv 3) pe_int (nomark _))
      (pss_cons (ps_set (i := 3) sc_l_draw.nd rfl (Or.inl rfl) (pe_op op_mod (pe_callTy call_int1 (by rfl) T.n_int (by decide +kernel) (pa_cons (pe_op op_add (pe_op op_add (pe_op op_mul (pv 3) pe_int) (pe_op op_mul (pv 1) pe_int)) pe_int) pa_nil)) pe_int))
      (pss_cons (ps_set (i := 3) sc_l_draw.nd rfl (Or.inl rfl) (pe_op op_mod (pe_callTy call_int1 (by rfl) T.n_int (by decide +kernel) (pa_cons (pe_op op_add (pe_op op_add (pe_op op_mul (pv 3) pe_int) (pe_op op_mul (pv 1) pe_int)) pe_int) pa_nil)) pe_int))
      (pss_one (ps_ret (pe_op op_mod (pe_callTy call_int1 (by rfl) T.n_int (by decide +kernel) (pa_cons (pv 3) pa_nil)) (pv 2))))))
      pss_nil)
    (pss_cons (ps_for PassesOwn.never rfl (pi_range1 rfl T.n_range (pa_cons (pv 1) pa_nil)) (pg_name (i := 4) sc_l_draw.nd rfl (Or.inl rfl))
      (pss_one (ps_set (i := 3) sc_l_draw.nd rfl (Or.inl rfl) (pe_op op_fdiv (pv 3) pe_int))))
    (pss_one (ps_ret (pe_op op_mod (pe_op op_mod (pe_callTy call_int1 (by rfl) T.n_int (by decide +kernel) (pa_cons (pv 3) pa_nil)) pe_int) (pv 2))))))), ?_⟩
    refine ⟨_, rfl, .inl ⟨_, rfl, _, rfl, ?_⟩⟩
    have fin : ∀ z : Int, Q (.int (z % many)) H := fun z => kk _ (Int.emod_nonneg z (by omega)) (Int.emod_lt_of_pos z m0)
    generalize (if c < 0 then -c else c) = r
    refine ⟨_, rfl, _, _, rfl, rfl, _, rfl, ?_⟩
    refine ite2 (fun h => ?_) (fun h => ?_)
    · refine ⟨_, rfl, _, _, rfl, rfl, .inr (by decide), _, rfl, _, _, rfl, rfl, .inr (by decide), _, _, rfl, rfl, _, _, rfl, rfl, .inl ⟨_, rfl, _, _, rfl, rfl, (show (0 : Int) < _ by decide), ?_⟩⟩
      refine ⟨_, rfl, _, _, rfl, rfl, .inr (by decide), _, rfl, _, _, rfl, rfl, .inr (by decide), _, _, rfl, rfl, _, _, rfl, rfl, .inl ⟨_, rfl, _, _, rfl, rfl, (show (0 : Int) < _ by decide), ?_⟩⟩
      exact ⟨_, rfl, .inl ⟨_, rfl, _, rfl, _, _, rfl, rfl, m0, fin _⟩⟩
    · refine ⟨_, rfl, k, rfl, by omega, by omega, for_range (lo := 0) (n := k.toNat) (fun i σ H' => H' = H ∧ ∃ (r : Int) (x4 : Option V), σ = [some (.int c), some (.int k), some (.int many), some (.int r), x4]) ⟨rfl, r, none, rfl⟩ ?_ ?_⟩
      · rintro i σ H' hi ⟨rfl, r', x4, rfl⟩
        exact ⟨_, rfl, _, _, rfl, rfl, ⟨by decide, by decide⟩, rfl, _, _, rfl⟩
      · rintro σ H' ⟨rfl, r', x4, rfl⟩
        exact ⟨_, rfl, .inl ⟨_, rfl, _, _, rfl, rfl, (show (0 : Int) < _ by decide), _, rfl, _, _, rfl, rfl, m0, fin _⟩⟩
def sp_l_word (T : Ctx K mg) : Sp := fun vs H Q _ => ∃ n : Int, vs = [.int n] ∧ 0 ≤ n ∧ ∀ z : Str, WordOf n z → Q (.str z) H
theorem ok_l_word (T : Ctx K mg) : FnOk P w K mg base CX0 1 T.a_l_word T.fd_l_word ["_law_number"] (sp_l_word T) := by
  refine T.F_l_word.ok sc_l_word (fun vs H Q E h => ?_) (fun cdv A outer s H vs Q E hr h => ?_)
  · obtain ⟨n, rfl, n0, kk⟩ := h
    rfl
  · obtain ⟨n, rfl, n0, kk⟩ := h
    refine ⟨_, PSs.nox (pss_cons (ps_set (i := 1) sc_l_word.nd rfl (Or.inl rfl) pe_str)
    (pss_cons (ps_set (i := 0) sc_l_word.nd rfl (Or.inl rfl) (pe_callB call_abs (by rfl) T.n_abs (by decide +kernel) (pa_cons (pe_callTy call_int1 (by rfl) T.n_int (by decide +kernel) (pa_cons (pv 0) pa_nil)) pa_nil)))
    (pss_cons (ps_set (i := 2) sc_l_word.nd rfl (Or.inl rfl) (pe_ix ix_str (pv 1) (pe_op op_mod (pe_callTy call_int1 (by rfl) T.n_int (by decide +kernel) (pa_cons (pv 0) pa_nil)) pe_int) (fun _ _ => rfl)))
    (pss_cons (ps_for PassesOwn.never rfl (pi_range1 rfl T.n_range (pa_cons pe_int pa_nil)) (pg_name (i := 3) sc_l_word.nd rfl (Or.inl rfl))
      (pss_cons (ps_set (i := 0) sc_l_word.nd rfl (Or.inl rfl) (pe_op op_fdiv (pv 0) pe_int))
      (pss_cons (ps_if (pt_cmpR op_eq (pv 0) pe_int (nomark _))
        (pss_one ps_break)
        pss_nil)
      (pss_one (ps_set (i := 2) sc_l_word.nd rfl (Or.inl rfl) (pe_op op_add_str (pv 2) (pe_ix ix_str (pv 1) (pe_op op_mod (pe_callTy call_int1 (by rfl) T.n_int (by decide +kernel) (pa_cons (pv 0) pa_nil)) pe_int) (fun _ _ => rfl))))))))
    (pss_one (ps_ret (pv 2))))))), ?_⟩
    refine ⟨_, rfl, .inl ⟨_, rfl, _, rfl, ?_⟩⟩
    rw [if_neg (by omega)]
    obtain ⟨c, hc, hc2, hc3⟩ := abc_at (i := n)
    refine ⟨_, rfl, _, rfl, .inl ⟨_, rfl, _, _, rfl, rfl, (show (0 : Int) < _ by decide), _, _, c, rfl, rfl, abc_small, hc, ?_⟩⟩
    refine ⟨11, rfl, by decide, by decide, for_range (lo := 0) (n := 11) (fun i σ H' => H' = H ∧ ∃ (m : Int) (z : Str) (x3 : Option V), σ = [some (.int m), some (.str "abcdefghijklmnopqrstuvwxyz"), some (.str z), x3] ∧ WordOf n z ∧ z.length ≤ 1 + i)
      ⟨rfl, n, ⟨#[c]⟩, none, rfl, ⟨⟨Nat.le_refl _, by show 1 ≤ 12; decide, fun x hx => ?_⟩, ?_⟩, Nat.le_refl _⟩ ?_ ?_⟩
    · cases List.mem_singleton.mp hx
      exact hc3
    · rw [hc2]
      rfl
    · rintro i σ H' hi ⟨rfl, m, z, x3, rfl, hz, hl⟩
      refine ⟨_, rfl, _, _, rfl, rfl, ⟨by decide, by decide⟩, _, rfl, rfl, _, rfl, ?_⟩
      refine ite2 (fun h => ?_) (fun h => ?_)
      · exact ⟨_, rfl, kk z hz⟩
      · obtain ⟨c', hc', hc2', hc3'⟩ := abc_at (i := m / 26)
        refine ⟨_, rfl, _, rfl, _, rfl, .inl ⟨_, rfl, _, _, rfl, rfl, (show (0 : Int) < _ by decide), _, _, c', rfl, rfl, abc_small, hc', _, _, rfl, rfl, small_of ?_, rfl, _, _, _, rfl, WordOf.push hz (by omega) hc3', ?_⟩⟩
        · show z.length + 1 ≤ 100000
          omega
        · rw [len_push]
          omega
    · rintro σ H' ⟨rfl, m, z, x3, rfl, hz, hl⟩
      exact ⟨_, rfl, kk z hz⟩
def sp_l_words (T : Ctx K mg) : Sp := fun vs H Q _ => ∃ c many : Int, vs = [.int c, .int many] ∧ 0 ≤ many ∧ many ≤ 3 ∧
  ∀ (H' : Hp) (p : Addr) (ys : List Str), Same H H' → H' p = some (.lst (ys.map V.str)) → ys.length = many.toNat → ys.Nodup → (∀ y ∈ ys, IsWord y) → Q (.ref p) H'
theorem ok_l_words (T : Ctx K mg) : FnOk P w K mg base CX0 2 T.a_l_words T.fd_l_words ["_law_cell_here", "_law_many"] (sp_l_words T) := by
  have G_l_word := ok_l_word (P := P) (w := w) (base := base) T
  refine T.F_l_words.ok sc_l_words (fun vs H Q E h => ?_) (fun cdv A outer s H vs Q E hr h => ?_)
  · obtain ⟨c, many, rfl, m0, m3, kk⟩ := h
    rfl
  · obtain ⟨c, many, rfl, m0, m3, kk⟩ := h
    refine ⟨_, PSs.nox (pss_cons (ps_set (i := 2) sc_l_words.nd rfl (Or.inr rfl) (pe_op op_mod (pe_callB call_abs (by rfl) T.n_abs (by decide +kernel) (pa_cons (pe_callTy call_int1 (by rfl) T.n_int (by decide +kernel) (pa_cons (pv 0) pa_nil)) pa_nil)) pe_int))
    (pss_one (ps_ret (pe_callB cr_sortedS (by rfl) T.n_sorted (by decide +kernel) (pa_cons (pe_lc (own := [("_law_k", 3)]) rfl sc_l_words.nd (pi_range1 rfl T.n_range (pa_cons (pv 1) pa_nil)) (blkOk_by (N := N_l_words) (sc := defScope s_l_words) (own := [("_law_k", 3)]) (by decide +kernel)) (fun _ _ _ _ _ => (pg_name (i := 3) sc_l_words.nd rfl (Or.inl rfl))) (fun _ _ _ _ _ => pts_nil) (fun _ _ _ _ _ => (pe_call G_l_word (hr.mono (by decide)) rfl T.g_l_word T.F_l_word.kp T.b_l_word .nil pass0 (pa_cons (pe_op op_add (pv 2) (pv 3)) pa_nil)))) pa_nil))))), ?_⟩
    refine ⟨_, rfl, .inl ⟨_, rfl, _, rfl, _, _, rfl, rfl, (show (0 : Int) < _ by decide), ?_⟩⟩
    have b0 : 0 ≤ (if c < 0 then -c else c) % 308915776 := Int.emod_nonneg _ (by decide)
    obtain ⟨b, hb⟩ : ∃ b, (if c < 0 then -c else c) % 308915776 = b := ⟨_, rfl⟩
    rw [hb] at b0
    refine ⟨_, rfl, many, rfl, by omega, by omega, fun D nD => ?_⟩
    refine lc_range (lo := 0) (n := many.toNat) (fun i H' => Same H H' ∧ ∃ xs : List Str, xs.length = i ∧ H' D = some (.lst (xs.map V.str)) ∧ ∀ (j : Nat) x, xs[j]? = some x → WordOf (b + j) x) ⟨Same_new nD, [], rfl, upd_same, fun j x h => (by cases h)⟩ ?_ ?_
    · rintro i H' hi ⟨s, xs, hx, hD, hW⟩
      refine ⟨rfl, _, rfl, _, rfl, _, _, rfl, rfl, _, rfl, (by rw [hb]; omega), fun z hz => ?_⟩
      refine ⟨_, hD, less_of (by rw [List.length_map]; omega), Same_mut s nD, xs ++ [z], by rw [List.length_append, hx]; rfl, ?_, fun j x h => ?_⟩
      · rw [List.map_append]
        exact upd_same
      · by_cases hj : j < xs.length
        · rw [List.getElem?_append_left hj] at h
          exact hW j x h
        · rw [List.getElem?_append_right (by omega)] at h
          have e0 : j - xs.length = 0 := by
            have := (List.getElem?_eq_some_iff.mp h).1
            simp at this
            omega
          rw [e0] at h
          cases h
          have e : b + (j : Int) = b + (0 + (i : Int)) := by omega
          rw [e, ← hb]
          exact hz
    · rintro H' ⟨s, xs, hx, hD, hW⟩
      have nd : xs.Nodup := by
        refine List.pairwise_iff_getElem.mpr fun i j hi hj hij e => ?_
        have h1 := (hW i _ (List.getElem?_eq_getElem hi)).first
        have h2 := (hW j _ (List.getElem?_eq_getElem hj)).first
        rw [e, h2] at h1
        have z1 : 0 ≤ (b + (i : Int)) % 26 := Int.emod_nonneg _ (by decide)
        have z2 : (b + (i : Int)) % 26 < 26 := Int.emod_lt_of_pos _ (by decide)
        have z3 : 0 ≤ (b + (j : Int)) % 26 := Int.emod_nonneg _ (by decide)
        have z4 : (b + (j : Int)) % 26 < 26 := Int.emod_lt_of_pos _ (by decide)
        have q := abc_inj ⟨((b + (j : Int)) % 26).toNat, by omega⟩ ⟨((b + (i : Int)) % 26).toNat, by omega⟩ h1
        have q' : ((b + (j : Int)) % 26).toNat = ((b + (i : Int)) % 26).toNat := congrArg Fin.val q
        omega
      refine ⟨D, xs, rfl, SqL.of hD, by omega, fun ys p hp hs np => ?_⟩
      refine kk _ p ys (Same_upd s np) upd_same (by rw [hp.length_eq, hx]) (hp.nodup_iff.mpr nd) fun y hy => ?_
      obtain ⟨j, hj⟩ := List.getElem?_of_mem (hp.mem_iff.mp hy)
      exact (hW j y hj).word
def sp_l_is_flag (T : Ctx K mg) : Sp := fun vs H Q _ => ∃ b, vs = [.bl b] ∧ Q (.bl true) H
theorem ok_l_is_flag (T : Ctx K mg) : FnOk P w K mg base CX0 1 T.a_l_is_flag T.fd_l_is_flag ["_law_actual"] (sp_l_is_flag T) := by
  refine T.F_l_is_flag.ok sc_l_is_flag (fun vs H Q E h => ?_) (fun cdv A outer s H vs Q E hr h => ?_)
  · obtain ⟨b, rfl, kk⟩ := h
    rfl
  · obtain ⟨b, rfl, kk⟩ := h
    refine ⟨_, PSs.nox (pss_one (ps_ret (pe_or (pe_cmpR op_isBl (pv 0) pe_bl (nomark _)) (pe_one (pe_cmpR op_isBl (pv 0) pe_bl (nomark _)))))), ?_⟩
    cases b with
    | true => exact ⟨_, rfl, _, _, rfl, rfl, _, rfl, iteT kk⟩
    | false => exact ⟨_, rfl, _, _, rfl, rfl, _, rfl, iteF ⟨_, rfl, _, _, rfl, rfl, kk⟩⟩
end
end K65
set_option Elab.async false
set_option linter.all false
set_option maxRecDepth 100000
set_option maxHeartbeats 4000000
namespace K65
open PySem L2
theorem getD_lt {xs : List Int} {i : Nat} (h : i < xs.length) : xs.getD i 0 = xs[i] := by
  rw [List.getD_eq_getElem?_getD, List.getElem?_eq_getElem h]
  rfl
theorem tar_valid {rs init : List Int} {last : Int} (r0 : 1 ≤ rs.length) (r4 : rs.length ≤ 4) (rp : rs.Pairwise (fun x y => y < x)) (rr : ∀ r ∈ rs, 1 ≤ r ∧ r ≤ 10000) (hi : init.length = rs.length) (h0 : (init ++ [last])[0]? = some 0)
    (wp : (init ++ [last]).Pairwise (fun x y => x < y)) (wl : last ≤ 10000) : (⟨rs, init ++ [last]⟩ : Tar).Valid := by
  have hl : (init ++ [last]).length = rs.length + 1 := by rw [List.length_append, hi]; rfl
  have up := List.pairwise_iff_getElem.mp wp
  refine ⟨⟨r0, r4⟩, hl, ?_, rr, fun w hw => ?_, fun i h => ?_, fun i h => ?_⟩
  · rw [List.getD_eq_getElem?_getD, h0]
    rfl
  · have hw' : w ∈ (init ++ [last]).drop 1 := hw
    obtain ⟨j, hj⟩ := List.getElem?_of_mem hw'
    rw [List.getElem?_drop] at hj
    obtain ⟨h1, h2⟩ := List.getElem?_eq_some_iff.mp hj
    have z0 : (init ++ [last])[0]'(by omega) = 0 := by
      have := List.getElem?_eq_some_iff.mp h0
      exact this.2
    have a := up 0 (1 + j) (by omega) h1 (by omega)
    rw [z0, h2] at a
    refine ⟨by omega, ?_⟩
    by_cases e : 1 + j = init.length
    · have b : w = last := by
        rw [List.getElem?_append_right (by omega), e, Nat.sub_self] at hj
        cases hj
        rfl
      omega
    · have b := up (1 + j) init.length h1 (by omega) (by omega)
      have c : (init ++ [last])[init.length]'(by omega) = last := by
        rw [List.getElem_append_right (Nat.le_refl _)]
        simp
      rw [h2, c] at b
      omega
  · show rs.getD (i + 1) 0 < rs.getD i 0
    have h' : i + 1 < rs.length := h
    rw [getD_lt h', getD_lt (Nat.lt_of_succ_lt h')]
    exact List.pairwise_iff_getElem.mp rp i (i + 1) (by omega) h' (by omega)
  · show (init ++ [last]).getD i 0 < (init ++ [last]).getD (i + 1) 0
    have h' : i < rs.length := h
    rw [getD_lt (by omega), getD_lt (by omega)]
    exact up i (i + 1) (by omega) (by omega) (by omega)
theorem ixN_last {n : Nat} : ixN (n + 1) (-1) = some n := by
  unfold ixN
  rw [if_neg (by decide), if_pos (by omega)]
  congr 1
  omega
theorem ixN_zero {v : V} {vs : List V} : ixN (v :: vs).length 0 = some 0 := by
  unfold ixN
  rw [if_pos (by decide), if_pos (by rw [List.length_cons]; omega)]
  rfl
theorem pair_snoc {α : Type} {R : α → α → Prop} {xs : List α} {x : α} (h : xs.Pairwise R) (h2 : ∀ y ∈ xs, R y x) : (xs ++ [x]).Pairwise R :=
  List.pairwise_append.mpr ⟨h, List.pairwise_singleton _ _, fun a ha b hb => by cases List.mem_singleton.mp hb; exact h2 a ha⟩
section
variable {P : Program} {w : World} {K : PySem.W.Frag} {mg : Str → Option Value} {base : Heap} {B H H1 : Hp}
def sp_l_rates (T : Ctx K mg) : Sp := fun vs H Q _ => ∃ c k : Int, vs = [.int c, .int k] ∧ 0 ≤ k ∧ k ≤ 100 ∧ ∀ (H' : Hp) (v : Addr) (ra wa : Addr) (t : Tar), Same H H' → SqT K H' v [.ref ra, .ref wa] → SqT K H' ra (t.rates.map V.int) → SqT K H' wa (t.wakes.map V.int) → t.Valid → Q (.ref v) H'
theorem ok_l_rates (T : Ctx K mg) : FnOk P w K mg base CX0 2 T.a_l_rates T.fd_l_rates ["_law_cell_here", "_law_k"] (sp_l_rates T) := by
  have G_l_draw := ok_l_draw (P := P) (w := w) (base := base) T
  refine T.F_l_rates.ok sc_l_rates (fun vs H Q E h => ?_) (fun cdv A outer s H vs Q E hr h => ?_)
  · obtain ⟨c, k, rfl, k0, k1, kk⟩ := h
    rfl
  · obtain ⟨c, k, rfl, k0, k1, kk⟩ := h
    refine ⟨_, PSs.nox (pss_cons (ps_set (i := 2) sc_l_rates.nd rfl (Or.inl rfl) (pe_op op_add pe_int (pe_call G_l_draw (hr.mono (by decide)) rfl T.g_l_draw T.F_l_draw.kp T.b_l_draw .nil pass0 (pa_cons (pv 0) (pa_cons (pv 1) (pa_cons pe_int pa_nil))))))
    (pss_cons (ps_set (i := 3) sc_l_rates.nd rfl (Or.inl rfl) (pe_lst pa_nil))
    (pss_cons (ps_set (i := 4) sc_l_rates.nd rfl (Or.inl rfl) (pe_op op_add pe_int (pe_call G_l_draw (hr.mono (by decide)) rfl T.g_l_draw T.F_l_draw.kp T.b_l_draw .nil pass0 (pa_cons (pv 0) (pa_cons (pe_op op_add (pv 1) pe_int) (pa_cons pe_int pa_nil))))))
    (pss_cons (ps_for PassesOwn.never rfl (pi_range1 rfl T.n_range (pa_cons (pv 2) pa_nil)) (pg_name (i := 5) sc_l_rates.nd rfl (Or.inl rfl))
      (pss_cons (ps_set (i := 3) sc_l_rates.nd rfl (Or.inl rfl) (pe_op op_cat (pe_lst (pa_cons (pv 4) pa_nil)) (pv 3)))
      (pss_one (ps_set (i := 4) sc_l_rates.nd rfl (Or.inl rfl) (pe_op op_add (pe_op op_add (pv 4) pe_int) (pe_call G_l_draw (hr.mono (by decide)) rfl T.g_l_draw T.F_l_draw.kp T.b_l_draw .nil pass0 (pa_cons (pv 0) (pa_cons (pe_op op_add (pe_op op_add (pv 1) pe_int) (pv 5)) (pa_cons pe_int pa_nil)))))))))
    (pss_cons (ps_set (i := 6) sc_l_rates.nd rfl (Or.inl rfl) (pe_lst (pa_cons pe_int pa_nil)))
    (pss_cons (ps_for PassesOwn.never rfl (pi_range1 rfl T.n_range (pa_cons (pv 2) pa_nil)) (pg_name (i := 5) sc_l_rates.nd rfl (Or.inl rfl))
      (pss_one (ps_expr (pe_bm PySem.F.plainAttrs_list PySem.F.slot_list_append PySem.F.type_list_append mt_append (pv 6) (pa_cons (pe_op op_add (pe_op op_add (pe_ix ix_list (pv 6) (pe_un un_neg pe_int) (fun _ _ => rfl)) pe_int) (pe_call G_l_draw (hr.mono (by decide)) rfl T.g_l_draw T.F_l_draw.kp T.b_l_draw .nil pass0 (pa_cons (pv 0) (pa_cons (pe_op op_add (pe_op op_add (pv 1) pe_int) (pv 5)) (pa_cons pe_int pa_nil))))) pa_nil)))))
    (pss_cutK (ps_if (pt_cmpR op_eq (pe_call G_l_draw (hr.mono (by decide)) rfl T.g_l_draw T.F_l_draw.kp T.b_l_draw .nil pass0 (pa_cons (pv 0) (pa_cons (pe_op op_add (pv 1) pe_int) (pa_cons pe_int pa_nil)))) pe_int (nomark _))
      (pss_one (ps_asg pe_int (pg_sub (pv 6) (pe_un un_neg pe_int) set_list)))
      pss_nil)
    (pss_cutK (ps_if (pt_cmpR op_eq (pe_call G_l_draw (hr.mono (by decide)) rfl T.g_l_draw T.F_l_draw.kp T.b_l_draw .nil pass0 (pa_cons (pv 0) (pa_cons (pe_op op_add (pv 1) pe_int) (pa_cons pe_int pa_nil)))) pe_int (nomark _))
      (pss_one (ps_asg pe_int (pg_sub (pv 3) pe_int set_list)))
      pss_nil)
    (pss_one (ps_ret (pe_tup (pa_cons (pe_callTy call_tuple_of (by rfl) T.n_tuple (by decide +kernel) (pa_cons (pv 3) pa_nil)) (pa_cons (pe_callTy call_tuple_of (by rfl) T.n_tuple (by decide +kernel) (pa_cons (pv 6) pa_nil)) pa_nil))))))))))))), ?_⟩
    -- many
    refine ⟨_, rfl, _, rfl, c, k, 4, rfl, k0, by omega, by decide, fun z z0 z4 => ⟨_, _, rfl, rfl, ?_⟩⟩
    -- rates = []
    refine ⟨tl 0 rfl (by decide), fun r nr => ?_⟩
    have s1 := Same_new (o := .lst []) nr
    -- low
    refine ⟨_, rfl, _, rfl, _, _, rfl, rfl, c, k + 1, 3, rfl, by omega, by omega, by decide, fun y y0 y3 => ⟨_, _, rfl, rfl, ?_⟩⟩
    refine ⟨_, rfl, 1 + z, rfl, by omega, by omega, for_range (lo := 0) (n := (1 + z).toNat) (fun i σ H' => Same H H' ∧ ∃ (r : Addr) (rs : List Int) (low : Int) (x5 : Option V), σ = [some (.int c), some (.int k), some (.int (1 + z)), some (.ref r), some (.int low), x5, none] ∧ H r = none ∧ H' r = some (.lst (rs.map V.int)) ∧
        rs.length = i ∧ rs.Pairwise (fun x y => y < x) ∧ (∀ x ∈ rs, 1 ≤ x ∧ x < low) ∧ 1 ≤ low ∧ low ≤ 3 + 12 * i) ⟨s1, r, [], 1 + y, none, rfl, nr, upd_same, rfl, .nil, fun x h => (by cases h), by omega, by omega⟩ ?_ ?_⟩
    · rintro i σ H1 hi ⟨s, r, rs, low, x5, rfl, nr, hr, hl, hp, hx, l1, l2⟩
      refine ⟨_, rfl, tl 1 rfl (by decide), fun q nq => ⟨_, rfl, ?_⟩⟩
      have sq := Same_new (o := .lst [.int low]) nq
      refine ⟨q, r, [.int low], rs.map V.int, rfl, rfl, upd_same, sq _ _ hr, small_of (by rw [List.length_map]; show 1 + _ ≤ _; omega), fun p np => ?_⟩
      have sp := Same_new (o := .lst ([.int low] ++ rs.map V.int)) np
      refine ⟨_, rfl, _, _, rfl, rfl, _, rfl, _, rfl, _, _, rfl, rfl, _, rfl, _, _, rfl, rfl, c, _, 12, rfl, by omega, by omega, by decide, fun u u0 u12 => ⟨_, _, rfl, rfl, ?_⟩⟩
      refine ⟨(s.trans sq).trans sp, p, low :: rs, _, _, rfl, (s.trans sq).free np, upd_same, by rw [List.length_cons, hl], List.pairwise_cons.mpr ⟨fun x h => (hx x h).2, hp⟩, fun x h => ?_, by omega, by omega⟩
      rcases List.mem_cons.mp h with rfl | h
      · omega
      · have := hx x h
        omega
    · rintro σ H1 ⟨s, r, rs, low, x5, rfl, nr, hr, hl, hp, hx, l1, l2⟩
      -- wakes = [0]
      refine ⟨tl 1 rfl (by decide), fun q nq => ?_⟩
      have sq := Same_new (o := .lst [.int 0]) nq
      have nqr : q ≠ r := (ne_of_none hr nq).symm
      have nq0 : H q = none := s.free nq
      refine ⟨_, rfl, 1 + z, rfl, by omega, by omega, for_range (lo := 0) (n := (1 + z).toNat) (fun i σ H' => Same H H' ∧ ∃ (init : List Int) (last : Int) (x5 : Option V), σ = [some (.int c), some (.int k), some (.int (1 + z)), some (.ref r), some (.int low), x5, some (.ref q)] ∧ H' r = some (.lst (rs.map V.int)) ∧ H' q = some (.lst ((init ++ [last]).map V.int)) ∧
          init.length = i ∧ (init ++ [last])[0]? = some 0 ∧ (init ++ [last]).Pairwise (fun x y => x < y) ∧ 0 ≤ last ∧ last ≤ 25 * i) ⟨s.trans sq, [], 0, _, rfl, sq _ _ hr, upd_same, rfl, rfl, List.pairwise_singleton _ _, Int.le_refl _, by omega⟩ ?_ ?_⟩
      · rintro i σ H2 hi ⟨s2, init, last, x5, rfl, hr2, hq2, il, i0, ip, l0, l25⟩
        have hm : ((init ++ [last]).map V.int) = init.map V.int ++ [.int last] := List.map_append
        refine ⟨_, rfl, .inl ⟨rfl, _, SqL.of hq2⟩, _, rfl, _, rfl, _, _, _, _, rfl, rfl, SqL.of hq2, by rw [hm]; exact atI_last _ _, _, _, rfl, rfl, _, rfl, _, rfl, _, _, rfl, rfl, _, rfl, _, _, rfl, rfl, c, _, 25, rfl, by omega, by omega, by decide, fun u u0 u25 => ⟨_, _, rfl, rfl, ?_⟩⟩
        refine ⟨q, _, _, rfl, rfl, hq2, less_of (by rw [List.length_map, List.length_append]; show _ + 1 < _; omega), ?_⟩
        refine ⟨Same_mut s2 nq0, init ++ [last], last + 1 + u, _, rfl, by rw [upd_ne nqr.symm]; exact hr2, ?_, by rw [List.length_append, il]; rfl, ?_, pair_snoc ip fun y hy => ?_, by omega, by omega⟩
        · rw [List.map_append (l₁ := init ++ [last])]
          exact upd_same
        · rw [List.getElem?_append_left (by rw [List.length_append]; exact Nat.succ_pos _)]
          exact i0
        · rcases List.mem_append.mp hy with hy | hy
          · have := (List.pairwise_append.mp ip).2.2 y hy last (.head _)
            omega
          · cases List.mem_singleton.mp hy
            omega
      · rintro σ H2 ⟨s2, init, last, x5, rfl, hr2, hq2, il, i0, ip, l0, l25⟩
        have hm : ∀ l : Int, ((init ++ [l]).map V.int) = init.map V.int ++ [.int l] := fun l => List.map_append
        have ne : init ≠ [] := fun e => by rw [e] at il; change 0 = _ at il; omega
        have nr' : (rs : List Int).length = (1 + z).toNat := hl
        have plast : ∀ y ∈ init, y < last := fun y hy => (List.pairwise_append.mp ip).2.2 y hy last (.head _)
        have pinit := (List.pairwise_append.mp ip).1
        -- if .. : wakes[-1] = 10000
        refine ⟨fun σ' H' => Same H H' ∧ ∃ last' : Int, σ' = [some (.int c), some (.int k), some (.int (1 + z)), some (.ref r), some (.int low), x5, some (.ref q)] ∧ H' r = some (.lst (rs.map V.int)) ∧ H' q = some (.lst ((init ++ [last']).map V.int)) ∧ last ≤ last' ∧ last' ≤ 10000, ?_, ?_⟩
        · refine ⟨_, rfl, _, rfl, _, _, rfl, rfl, c, _, 9, rfl, by omega, by omega, by decide, fun u u0 u9 => ⟨rfl, _, rfl, ?_⟩⟩
          refine ite2 (fun h => ?_) (fun h => ?_)
          · refine ⟨_, rfl, _, rfl, q, _, _, init.length, rfl, rfl, hq2, ?_, Same_mut s2 nq0, 10000, rfl, by rw [upd_ne nqr.symm]; exact hr2, ?_, by omega, by omega⟩
            · rw [hm, List.length_append, List.length_map]
              exact ixN_last
            · rw [hm, hm, show (List.map V.int init ++ [V.int last]).set init.length (V.int 10000) = List.map V.int init ++ [V.int 10000] by
                rw [List.set_append_right _ _ (by rw [List.length_map]; exact Nat.le_refl _), List.length_map, Nat.sub_self]
                rfl]
              exact upd_same
          · exact ⟨s2, last, rfl, hr2, hq2, Int.le_refl _, by omega⟩
        · rintro σ' H3 ⟨s3, last', rfl, hr3, hq3, l1', l2'⟩
          -- if .. : rates[0] = 10000
          obtain ⟨r0, rs', rfl⟩ : ∃ r0 rs', rs = r0 :: rs' := by
            cases rs with
            | nil => change 0 = _ at hl; omega
            | cons a b => exact ⟨a, b, rfl⟩
          have pr := List.pairwise_cons.mp hp
          refine ⟨fun σ' H' => Same H H' ∧ ∃ r0' : Int, σ' = [some (.int c), some (.int k), some (.int (1 + z)), some (.ref r), some (.int low), x5, some (.ref q)] ∧ H' r = some (.lst ((r0' :: rs').map V.int)) ∧ H' q = some (.lst ((init ++ [last']).map V.int)) ∧ r0 ≤ r0' ∧ r0' ≤ 10000, ?_, ?_⟩
          · refine ⟨_, rfl, _, rfl, _, _, rfl, rfl, c, _, 9, rfl, by omega, by omega, by decide, fun u u0 u9 => ⟨rfl, _, rfl, ?_⟩⟩
            have hr0 := hx r0 (.head _)
            refine ite2 (fun h => ?_) (fun h => ?_)
            · exact ⟨_, rfl, r, _, _, 0, rfl, rfl, hr3, ixN_zero, Same_mut s3 nr, 10000, rfl, upd_same, by rw [upd_ne nqr]; exact hq3, by omega, by omega⟩
            · exact ⟨s3, r0, rfl, hr3, hq3, Int.le_refl _, by omega⟩
          · rintro σ' H4 ⟨s4, r0', rfl, hr4, hq4, r1', r2'⟩
            refine ⟨_, rfl, _, _, rfl, .inl ⟨SqL.of hr4, fun ra nra => ?_⟩⟩
            have s5 := Same_new (o := .tup ((r0' :: rs').map V.int)) nra
            refine ⟨_, rfl, _, _, rfl, .inl ⟨SqL.of (s5 _ _ hq4), fun wa nwa => ?_⟩⟩
            have s6 := Same_new (o := .tup ((init ++ [last']).map V.int)) nwa
            refine ⟨tl 2 rfl (by decide), fun v nv => ?_⟩
            have s7 := Same_new (o := .tup [.ref ra, .ref wa]) nv
            refine kk _ v ra wa ⟨r0' :: rs', init ++ [last']⟩ (((s4.trans s5).trans s6).trans s7) (SqT.of upd_same) (Same_t (s6.trans s7) (SqT.of upd_same)) (Same_t s7 (SqT.of upd_same)) ?_
            have hrl : (r0' :: rs').length = (1 + z).toNat := hl
            refine tar_valid (by rw [hrl]; omega) (by rw [hrl]; omega) (List.pairwise_cons.mpr ⟨fun x h => ?_, pr.2⟩) (fun x h => ?_) (by rw [hrl, il]) ?_ (pair_snoc pinit fun y hy => ?_) l2'
            · have := pr.1 x h
              omega
            · rcases List.mem_cons.mp h with rfl | h
              · have := hx r0 (.head _)
                omega
              · have := hx x (.tail _ h)
                omega
            · have lt : 0 < init.length := List.length_pos_iff.mpr ne
              rw [List.getElem?_append_left lt] at i0 ⊢
              exact i0
            · have := plast y hy
              omega
theorem serv_of {s : Serv} {a ra wa : Addr} (h : SqT K H a [.str s.name, .int s.room, .int s.lag, .int s.patience, .int s.weight, .int s.most, .int s.budget, .ref ra, .ref wa]) (hr : SqT K H ra (s.tar.rates.map V.int)) (hw : SqT K H wa (s.tar.wakes.map V.int)) : Dp K H (.ref a) (dServ s) :=
  .tup h (.cons (.str _) (.cons (.int _) (.cons (.int _) (.cons (.int _) (.cons (.int _) (.cons (.int _) (.cons (.int _) (.cons (ints_of hr) (.cons (ints_of hw) .nil)))))))))
theorem bit (b : Bool) : 0 ≤ (if b = true then 1 else 0 : Int) ∧ (if b = true then 1 else 0 : Int) ≤ 1 := by cases b <;> decide
def sp_l_service (T : Ctx K mg) : Sp := fun vs H Q _ => ∃ (c : Int) (nm : Str), vs = [.int c, .str nm] ∧ IsWord nm ∧ ∀ (H' : Hp) (v : V) (s : Serv), Same H H' → Dp K H' v (dServ s) → s.Valid → s.name = nm → Q v H'
theorem ok_l_service (T : Ctx K mg) : FnOk P w K mg base CX0 3 T.a_l_service T.fd_l_service ["_law_cell_here", "_law_name"] (sp_l_service T) := by
  have G_l_rates := ok_l_rates (P := P) (w := w) (base := base) T
  have G_l_draw := ok_l_draw (P := P) (w := w) (base := base) T
  refine T.F_l_service.ok sc_l_service (fun vs H Q E h => ?_) (fun cdv A outer s H vs Q E hr h => ?_)
  · obtain ⟨c, nm, rfl, hw, kk⟩ := h
    rfl
  · obtain ⟨c, nm, rfl, hw, kk⟩ := h
    refine ⟨_, PSs.nox (pss_cons (ps_asg (pe_call G_l_rates (hr.mono (by decide)) rfl T.g_l_rates T.F_l_rates.kp T.b_l_rates .nil pass0 (pa_cons (pv 0) (pa_cons pe_int pa_nil))) (pg_tup rfl (pgs_cons (pg_name (i := 2) sc_l_service.nd rfl (Or.inl rfl)) (pgs_cons (pg_name (i := 3) sc_l_service.nd rfl (Or.inl rfl)) pgs_nil))))
    (pss_cons (ps_set (i := 4) sc_l_service.nd rfl (Or.inl rfl) (pe_call G_l_draw (hr.mono (by decide)) rfl T.g_l_draw T.F_l_draw.kp T.b_l_draw .nil pass0 (pa_cons (pv 0) (pa_cons pe_int (pa_cons pe_int pa_nil)))))
    (pss_cons (ps_set (i := 5) sc_l_service.nd rfl (Or.inl rfl) (pe_op op_add (pv 4) (pe_call G_l_draw (hr.mono (by decide)) rfl T.g_l_draw T.F_l_draw.kp T.b_l_draw .nil pass0 (pa_cons (pv 0) (pa_cons pe_int (pa_cons pe_int pa_nil))))))
    (pss_cons (ps_set (i := 6) sc_l_service.nd rfl (Or.inl rfl) (pe_op op_add (pe_op op_add pe_int (pe_call G_l_draw (hr.mono (by decide)) rfl T.g_l_draw T.F_l_draw.kp T.b_l_draw .nil pass0 (pa_cons (pv 0) (pa_cons pe_int (pa_cons pe_int pa_nil))))) (pe_op op_mul pe_int (pe_callTy call_int1 (by rfl) T.n_int (by decide +kernel) (pa_cons (pe_cmpR op_eq (pe_call G_l_draw (hr.mono (by decide)) rfl T.g_l_draw T.F_l_draw.kp T.b_l_draw .nil pass0 (pa_cons (pv 0) (pa_cons pe_int (pa_cons pe_int pa_nil)))) pe_int (nomark _)) pa_nil)))))
    (pss_cons (ps_set (i := 7) sc_l_service.nd rfl (Or.inl rfl) (pe_op op_add (pe_call G_l_draw (hr.mono (by decide)) rfl T.g_l_draw T.F_l_draw.kp T.b_l_draw .nil pass0 (pa_cons (pv 0) (pa_cons pe_int (pa_cons pe_int pa_nil)))) (pe_op op_mul pe_int (pe_callTy call_int1 (by rfl) T.n_int (by decide +kernel) (pa_cons (pe_cmpR op_eq (pe_call G_l_draw (hr.mono (by decide)) rfl T.g_l_draw T.F_l_draw.kp T.b_l_draw .nil pass0 (pa_cons (pv 0) (pa_cons pe_int (pa_cons pe_int pa_nil)))) pe_int (nomark _)) pa_nil)))))
    (pss_cons (ps_set (i := 8) sc_l_service.nd rfl (Or.inl rfl) (pe_ix ix_list (pe_lst (pa_cons pe_int (pa_cons (pe_op op_add pe_int (pe_call G_l_draw (hr.mono (by decide)) rfl T.g_l_draw T.F_l_draw.kp T.b_l_draw .nil pass0 (pa_cons (pv 0) (pa_cons pe_int (pa_cons pe_int pa_nil))))) (pa_cons (pe_call G_l_draw (hr.mono (by decide)) rfl T.g_l_draw T.F_l_draw.kp T.b_l_draw .nil pass0 (pa_cons (pv 0) (pa_cons pe_int (pa_cons pe_int pa_nil)))) pa_nil)))) (pe_call G_l_draw (hr.mono (by decide)) rfl T.g_l_draw T.F_l_draw.kp T.b_l_draw .nil pass0 (pa_cons (pv 0) (pa_cons pe_int (pa_cons pe_int pa_nil)))) (fun _ _ => rfl)))
    (pss_one (ps_ret (pe_tup (pa_cons (pv 1) (pa_cons (pv 6) (pa_cons (pv 4) (pa_cons (pv 5) (pa_cons (pe_op op_add pe_int (pe_call G_l_draw (hr.mono (by decide)) rfl T.g_l_draw T.F_l_draw.kp T.b_l_draw .nil pass0 (pa_cons (pv 0) (pa_cons pe_int (pa_cons pe_int pa_nil))))) (pa_cons (pv 7) (pa_cons (pv 8) (pa_cons (pv 2) (pa_cons (pv 3) pa_nil)))))))))))))))))), ?_⟩
    refine ⟨_, rfl, c, 20, rfl, by decide, by decide, fun H1 v ra wa t s1 hv hra hwa ht => ?_⟩
    refine ⟨_, _, rfl, hv, rfl, _, _, rfl, _, _, rfl, rfl, ?_⟩
    refine ⟨_, rfl, c, 1, 4, rfl, by decide, by decide, by decide, fun lag l0 l4 => ?_⟩
    refine ⟨_, rfl, _, rfl, c, 2, 6, rfl, by decide, by decide, by decide, fun pt p0 p6 => ⟨_, _, rfl, rfl, ?_⟩⟩
    refine ⟨_, rfl, c, 3, 5, rfl, by decide, by decide, by decide, fun rm r0 r5 => ⟨_, _, rfl, rfl, _, rfl, c, 4, 12, rfl, by decide, by decide, by decide, fun rb _ _ => ⟨rfl, .inr ⟨_, rfl, _, _, rfl, rfl, .inl (by decide), _, _, rfl, rfl, ?_⟩⟩⟩⟩
    have b1 := bit (decide (V.int rb = V.int 0))
    refine ⟨_, rfl, c, 5, 7, rfl, by decide, by decide, by decide, fun mo m0 m7 => ⟨_, rfl, c, 6, 12, rfl, by decide, by decide, by decide, fun mb _ _ => ⟨rfl, .inr ⟨_, rfl, _, _, rfl, rfl, .inl (by decide), _, _, rfl, rfl, ?_⟩⟩⟩⟩
    have b2 := bit (decide (V.int mb = V.int 0))
    refine ⟨_, rfl, c, 7, 900, rfl, by decide, by decide, by decide, fun x1 u0 u1 => ⟨_, _, rfl, rfl, _, rfl, c, 7, 300, rfl, by decide, by decide, by decide, fun x2 v0 v1 => ⟨tl 3 rfl (by decide), fun L nL => ?_⟩⟩⟩
    have s2 := Same_new (o := .lst [.int 1000000, .int (400 + x1), .int x2]) nL
    refine ⟨_, rfl, c, 8, 3, rfl, by decide, by decide, by decide, fun ix i0 i3 => ?_⟩
    obtain ⟨bv, hb, bv0, bv1⟩ : ∃ bv : Int, atI [V.int 1000000, V.int (400 + x1), V.int x2] ix = some (.int bv) ∧ 0 ≤ bv ∧ bv ≤ 1000000 := by
      have : ix = ((0 : Nat) : Int) ∨ ix = ((1 : Nat) : Int) ∨ ix = ((2 : Nat) : Int) := by omega
      rcases this with rfl | rfl | rfl
      · exact ⟨1000000, atI_nat rfl, by decide, by decide⟩
      · exact ⟨400 + x1, atI_nat rfl, by omega, by omega⟩
      · exact ⟨x2, atI_nat rfl, by omega, by omega⟩
    refine ⟨_, _, _, _, rfl, rfl, SqL.of upd_same, hb, ?_⟩
    refine ⟨_, rfl, _, rfl, _, rfl, _, rfl, _, rfl, c, 9, 9, rfl, by decide, by decide, by decide, fun we w0 w9 => ⟨_, _, rfl, rfl, _, rfl, _, rfl, _, rfl, _, rfl, tl 9 rfl (by decide), fun R nR => ?_⟩⟩
    have s3 := Same_new (o := .tup [.str nm, .int (1 + rm + 59 * (if decide (V.int rb = V.int 0) = true then 1 else 0)), .int lag, .int (lag + pt), .int (1 + we), .int (mo + 34 * (if decide (V.int mb = V.int 0) = true then 1 else 0)), .int bv, .ref ra, .ref wa]) nR
    refine kk _ (.ref R) ⟨nm, 1 + rm + 59 * (if decide (V.int rb = V.int 0) = true then 1 else 0), lag, lag + pt, 1 + we, mo + 34 * (if decide (V.int mb = V.int 0) = true then 1 else 0), bv, t⟩ ((s1.trans s2).trans s3) (serv_of (SqT.of upd_same) (Same_t (s2.trans s3) hra) (Same_t (s2.trans s3) hwa)) ?_ rfl
    refine ⟨hw, ?_, ?_, ?_, ?_, ?_, ⟨bv0, bv1⟩, ht⟩
    · show 1 ≤ 1 + rm + 59 * (if decide (V.int rb = V.int 0) = true then 1 else 0) ∧ _ ≤ 64
      revert b1
      generalize (if decide (V.int rb = V.int 0) = true then (1 : Int) else 0) = q
      intro b1
      show 1 ≤ 1 + rm + 59 * q ∧ 1 + rm + 59 * q ≤ 64
      omega
    · show 0 ≤ lag ∧ lag ≤ 20
      omega
    · show lag ≤ lag + pt ∧ lag + pt ≤ 20
      omega
    · show 1 ≤ 1 + we ∧ 1 + we ≤ 9
      omega
    · show 0 ≤ mo + 34 * (if decide (V.int mb = V.int 0) = true then 1 else 0) ∧ mo + 34 * (if decide (V.int mb = V.int 0) = true then 1 else 0) ≤ 40
      revert b2
      generalize (if decide (V.int mb = V.int 0) = true then (1 : Int) else 0) = q
      intro b2
      omega
end
end K65
set_option Elab.async false
set_option linter.all false
set_option maxRecDepth 100000
set_option maxHeartbeats 4000000
namespace K65
open PySem L2
section
variable {P : Program} {w : World} {K : PySem.W.Frag} {mg : Str → Option Value} {base : Heap} {B H H1 : Hp}
theorem keep_of {k : Keep} {a : Addr} (h : SqT K H a [.str k.name, .int k.least, .int k.begin_, .int k.end_, .int k.period]) : Dp K H (.ref a) (dKeep k) := .tup h (.cons (.str _) (.cons (.int _) (.cons (.int _) (.cons (.int _) (.cons (.int _) .nil)))))
theorem noLs_servs (ss : List Serv) : noLs (ss.map dServ) = true := noLs_map noL_serv ss
theorem noLs_keeps (ss : List Keep) : noLs (ss.map dKeep) = true := noLs_map noL_keep ss
def sp_l_house (T : Ctx K mg) : Sp := fun vs H Q _ => ∃ (a : Addr) (ns : List Int), vs = [.ref a] ∧ SqL K H a (ns.map V.int) ∧ ∀ (H' : Hp) (v : V) (S : Sett), Same H H' → Dp K H' v (dSett S) → S.Valid → S.servs.length ≤ 3 → Q v H'
theorem ok_l_house (T : Ctx K mg) : FnOk P w K mg base CX0 4 T.a_l_house T.fd_l_house ["_law_script"] (sp_l_house T) := by
  have G_l_draw := ok_l_draw (P := P) (w := w) (base := base) T
  have G_l_cell := ok_l_cell (P := P) (w := w) (base := base) T
  have G_l_words := ok_l_words (P := P) (w := w) (base := base) T
  have G_l_service := ok_l_service (P := P) (w := w) (base := base) T
  refine T.F_l_house.ok sc_l_house (fun vs H Q E h => ?_) (fun cdv A outer s H vs Q E hr h => ?_)
  · obtain ⟨a, ns, rfl, hs, kk⟩ := h
    rfl
  · obtain ⟨a, ns, rfl, hs, kk⟩ := h
    refine ⟨_, PSs.nox (pss_cons (ps_set (i := 1) sc_l_house.nd rfl (Or.inl rfl) (pe_op op_add pe_int (pe_call G_l_draw (hr.mono (by decide)) rfl T.g_l_draw T.F_l_draw.kp T.b_l_draw .nil pass0 (pa_cons (pe_call G_l_cell (hr.mono (by decide)) rfl T.g_l_cell T.F_l_cell.kp T.b_l_cell .nil pass0 (pa_cons (pv 0) (pa_cons pe_int pa_nil))) (pa_cons pe_int (pa_cons pe_int pa_nil))))))
    (pss_cons (ps_set (i := 2) sc_l_house.nd rfl (Or.inl rfl) (pe_call G_l_words (hr.mono (by decide)) rfl T.g_l_words T.F_l_words.kp T.b_l_words .nil pass0 (pa_cons (pe_call G_l_cell (hr.mono (by decide)) rfl T.g_l_cell T.F_l_cell.kp T.b_l_cell .nil pass0 (pa_cons (pv 0) (pa_cons pe_int pa_nil))) (pa_cons (pv 1) pa_nil))))
    (pss_cons (ps_set (i := 3) sc_l_house.nd rfl (Or.inl rfl) (pe_lst pa_nil))
    (pss_cons (ps_for PassesOwn.never rfl (pi_range1 rfl T.n_range (pa_cons (pv 1) pa_nil)) (pg_name (i := 4) sc_l_house.nd rfl (Or.inl rfl))
      (pss_one (ps_expr (pe_bm PySem.F.plainAttrs_list PySem.F.slot_list_append PySem.F.type_list_append mt_append (pv 3) (pa_cons (pe_call G_l_service (hr.mono (by decide)) rfl T.g_l_service T.F_l_service.kp T.b_l_service .nil pass0 (pa_cons (pe_op op_add (pe_call G_l_cell (hr.mono (by decide)) rfl T.g_l_cell T.F_l_cell.kp T.b_l_cell .nil pass0 (pa_cons (pv 0) (pa_cons pe_int pa_nil))) (pe_op op_mul pe_int (pv 4))) (pa_cons (pe_ix ix_list (pv 2) (pv 4) (fun _ _ => rfl)) pa_nil))) pa_nil)))))
    (pss_cons (ps_set (i := 5) sc_l_house.nd rfl (Or.inl rfl) (pe_lst pa_nil))
    (pss_cons (ps_set (i := 6) sc_l_house.nd rfl (Or.inl rfl) (pe_call G_l_cell (hr.mono (by decide)) rfl T.g_l_cell T.F_l_cell.kp T.b_l_cell .nil pass0 (pa_cons (pv 0) (pa_cons pe_int pa_nil))))
    (pss_cons (ps_for PassesOwn.never rfl (pi_range1 rfl T.n_range (pa_cons (pe_call G_l_draw (hr.mono (by decide)) rfl T.g_l_draw T.F_l_draw.kp T.b_l_draw .nil pass0 (pa_cons (pv 6) (pa_cons pe_int (pa_cons pe_int pa_nil)))) pa_nil)) (pg_name (i := 4) sc_l_house.nd rfl (Or.inl rfl))
      (pss_cons (ps_set (i := 7) sc_l_house.nd rfl (Or.inl rfl) (pe_op op_add pe_int (pe_call G_l_draw (hr.mono (by decide)) rfl T.g_l_draw T.F_l_draw.kp T.b_l_draw .nil pass0 (pa_cons (pv 6) (pa_cons (pe_op op_add pe_int (pe_op op_mul pe_int (pv 4))) (pa_cons pe_int pa_nil))))))
      (pss_cons (ps_set (i := 8) sc_l_house.nd rfl (Or.inl rfl) (pe_call G_l_draw (hr.mono (by decide)) rfl T.g_l_draw T.F_l_draw.kp T.b_l_draw .nil pass0 (pa_cons (pv 6) (pa_cons (pe_op op_add pe_int (pe_op op_mul pe_int (pv 4))) (pa_cons (pv 7) pa_nil)))))
      (pss_cons (ps_set (i := 9) sc_l_house.nd rfl (Or.inl rfl) (pe_op op_add (pe_op op_add (pv 8) pe_int) (pe_call G_l_draw (hr.mono (by decide)) rfl T.g_l_draw T.F_l_draw.kp T.b_l_draw .nil pass0 (pa_cons (pv 6) (pa_cons (pe_op op_add pe_int (pe_op op_mul pe_int (pv 4))) (pa_cons (pe_op op_sub (pv 7) (pv 8)) pa_nil))))))
      (pss_one (ps_expr (pe_bm PySem.F.plainAttrs_list PySem.F.slot_list_append PySem.F.type_list_append mt_append (pv 5) (pa_cons (pe_tup (pa_cons (pe_ix ix_list (pv 2) (pe_call G_l_draw (hr.mono (by decide)) rfl T.g_l_draw T.F_l_draw.kp T.b_l_draw .nil pass0 (pa_cons (pv 6) (pa_cons (pe_op op_add pe_int (pe_op op_mul pe_int (pv 4))) (pa_cons (pv 1) pa_nil)))) (fun _ _ => rfl)) (pa_cons (pe_op op_add pe_int (pe_call G_l_draw (hr.mono (by decide)) rfl T.g_l_draw T.F_l_draw.kp T.b_l_draw .nil pass0 (pa_cons (pv 6) (pa_cons (pe_op op_add pe_int (pe_op op_mul pe_int (pv 4))) (pa_cons pe_int pa_nil))))) (pa_cons (pv 8) (pa_cons (pv 9) (pa_cons (pv 7) pa_nil)))))) pa_nil))))))))
    (pss_cons (ps_set (i := 10) sc_l_house.nd rfl (Or.inl rfl) (pe_op op_add (pe_call G_l_draw (hr.mono (by decide)) rfl T.g_l_draw T.F_l_draw.kp T.b_l_draw .nil pass0 (pa_cons (pv 6) (pa_cons pe_int (pa_cons pe_int pa_nil)))) (pe_op op_mul pe_int (pe_callTy call_int1 (by rfl) T.n_int (by decide +kernel) (pa_cons (pe_cmpR op_eq (pe_call G_l_draw (hr.mono (by decide)) rfl T.g_l_draw T.F_l_draw.kp T.b_l_draw .nil pass0 (pa_cons (pv 6) (pa_cons pe_int (pa_cons pe_int pa_nil)))) pe_int (nomark _)) pa_nil)))))
    (pss_one (ps_ret (pe_tup (pa_cons (pv 10) (pa_cons (pe_callTy call_tuple_of (by rfl) T.n_tuple (by decide +kernel) (pa_cons (pv 3) pa_nil)) (pa_cons (pe_callTy call_tuple_of (by rfl) T.n_tuple (by decide +kernel) (pa_cons (pv 5) pa_nil)) pa_nil)))))))))))))), ?_⟩
    refine ⟨_, rfl, a, ns, 0, rfl, hs, fun z1 => ⟨z1, 0, 3, rfl, by decide, by decide, by decide, fun m m0 m3 => ⟨_, _, rfl, rfl, ?_⟩⟩⟩
    refine ⟨_, rfl, a, ns, 0, rfl, hs, fun z2 => ⟨_, rfl, z2, 1 + m, rfl, by omega, by omega, fun H1 p ys s1 hp hl nd iw => ?_⟩⟩
    refine ⟨tl 0 rfl (by decide), fun L nL => ?_⟩
    have sL := Same_new (o := .lst []) nL
    have nL0 : H L = none := s1.free nL
    have npL : p ≠ L := ne_of_none hp nL
    refine ⟨_, rfl, 1 + m, rfl, by omega, by omega, for_range (lo := 0) (n := (1 + m).toNat) (fun i σ H' => Same H H' ∧ ∃ (vs : List V) (ss : List Serv) (x4 : Option V), σ = [some (.ref a), some (.int (1 + m)), some (.ref p), some (.ref L), x4, none, none, none, none, none, none] ∧ H' p = some (.lst (ys.map V.str)) ∧ H' L = some (.lst vs) ∧
        DpAll K H' vs (ss.map dServ) ∧ ss.length = i ∧ (∀ s ∈ ss, s.Valid) ∧ (ss.map fun s => s.name) = ys.take i) ⟨s1.trans sL, [], [], none, rfl, sL _ _ hp, upd_same, .nil, rfl, fun s h => (by cases h), rfl⟩ ?_ ?_⟩
    · rintro i σ H2 hi ⟨s2, vs, ss, x4, rfl, hp2, hL2, hvs, hsl, hval, hnm⟩
      have iy : i < ys.length := by omega
      obtain ⟨nm, hnmi⟩ := at_of_lt iy
      have hix : atI (ys.map V.str) (0 + (i : Int)) = some (.str nm) := by
        rw [Int.zero_add]
        exact atI_nat (by rw [List.getElem?_map, hnmi]; rfl)
      refine ⟨_, rfl, .inl ⟨rfl, _, SqL.of hL2⟩, _, rfl, a, ns, 1, rfl, Same_l s2 hs, fun z => ⟨_, rfl, _, _, rfl, rfl, .inl (by decide), _, _, rfl, rfl, _, rfl, _, rfl, _, _, _, _, rfl, rfl, SqL.of hp2, hix, ?_⟩⟩
      refine ⟨_, nm, rfl, iw nm (List.mem_of_getElem? hnmi), fun H3 v s s3 hd hv hn => ?_⟩
      have hL3 := s3 _ _ hL2
      refine ⟨L, vs, _, rfl, rfl, hL3, less_of ?_, Same_mut (s2.trans s3) nL0, vs ++ [v], ss ++ [s], _, rfl, by rw [upd_ne npL]; exact s3 _ _ hp2, upd_same, ?_, by rw [List.length_append, hsl]; rfl, fun t ht => ?_, ?_⟩
      · rw [dpa_len hvs, List.length_map]
        omega
      · rw [List.map_append]
        exact dpa_push hL3 (noLs_servs _) (noL_serv _) (Same_dpa s3 hvs) hd _
      · rcases List.mem_append.mp ht with ht | ht
        · exact hval t ht
        · cases List.mem_singleton.mp ht
          exact hv
      · rw [List.map_append, hnm, take_snoc hnmi, ← hn]
        rfl
    · rintro σ H2 ⟨s2, vs, ss, x4, rfl, hp2, hL2, hvs, hsl, hval, hnm⟩
      -- keeps = []
      refine ⟨tl 0 rfl (by decide), fun M nM => ?_⟩
      have sM := Same_new (o := .lst []) nM
      have nM0 : H M = none := s2.free nM
      have npM : p ≠ M := ne_of_none hp2 nM
      have nLM : L ≠ M := ne_of_none hL2 nM
      refine ⟨_, rfl, a, ns, 2, rfl, Same_l (s2.trans sM) hs, fun c => ?_⟩
      refine ⟨_, rfl, c, 0, 3, rfl, by decide, by decide, by decide, fun r r0 r3 => ?_⟩
      have hnames : (ss.map fun s => s.name) = ys := by rw [hnm, ← hl, List.take_length]
      refine ⟨r, rfl, by omega, by omega, for_range (lo := 0) (n := r.toNat) (fun i σ H' => Same H H' ∧ ∃ (ws : List V) (ks : List Keep) (x4 x7 x8 x9 : Option V), σ = [some (.ref a), some (.int (1 + m)), some (.ref p), some (.ref L), x4, some (.ref M), some (.int c), x7, x8, x9, none] ∧ H' p = some (.lst (ys.map V.str)) ∧ H' L = some (.lst vs) ∧
          DpAll K H' vs (ss.map dServ) ∧ H' M = some (.lst ws) ∧ DpAll K H' ws (ks.map dKeep) ∧ ks.length = i ∧ ∀ k ∈ ks, k.Valid (ss.map fun s => s.name)) ⟨s2.trans sM, [], [], _, _, _, _, rfl, sM _ _ hp2, sM _ _ hL2, Same_dpa sM hvs, upd_same, .nil, rfl, fun s h => (by cases h)⟩ ?_ ?_⟩
      · rintro i σ H3 hi ⟨s3, ws, ks, x4, x7, x8, x9, rfl, hp3, hL3, hvs3, hM3, hws3, hkl, hkv⟩
        -- period
        refine ⟨_, rfl, _, rfl, _, _, rfl, rfl, .inl (by decide), _, _, rfl, rfl, c, _, 30, rfl, by omega, by omega, by decide, fun pe p0 p30 => ⟨_, _, rfl, rfl, ?_⟩⟩
        -- begin
        refine ⟨_, rfl, _, rfl, _, _, rfl, rfl, .inl (by decide), _, _, rfl, rfl, _, rfl, c, _, _, rfl, by omega, by omega, by omega, fun bg b0 b1 => ?_⟩
        -- end
        refine ⟨_, rfl, _, _, rfl, rfl, _, rfl, _, rfl, _, _, rfl, rfl, .inl (by decide), _, _, rfl, rfl, _, rfl, _, rfl, _, _, rfl, rfl, c, _, _, rfl, by omega, by omega, by omega, fun en e0 e1 => ⟨_, _, rfl, rfl, ?_⟩⟩
        -- append
        refine ⟨_, rfl, .inl ⟨rfl, _, SqL.of hM3⟩, _, rfl, _, rfl, _, rfl, _, _, rfl, rfl, .inl (by decide), _, _, rfl, rfl, _, rfl, c, _, _, rfl, by omega, by omega, by omega, fun x x0 x1 => ?_⟩
        have ix : x.toNat < ys.length := by omega
        obtain ⟨nm, hnmi⟩ := at_of_lt ix
        have hix : atI (ys.map V.str) x = some (.str nm) := by
          have e : ((x.toNat : Nat) : Int) = x := by omega
          rw [← e]
          exact atI_nat (by rw [List.getElem?_map, hnmi]; rfl)
        refine ⟨_, _, _, _, rfl, rfl, SqL.of hp3, hix, _, rfl, _, rfl, _, _, rfl, rfl, .inl (by decide), _, _, rfl, rfl, c, _, _, rfl, by omega, by omega, by decide, fun y y0 y5 => ⟨_, _, rfl, rfl, _, rfl, _, rfl, _, rfl, tl 5 rfl (by decide), fun t nt => ?_⟩⟩
        have st := Same_new (o := .tup [.str nm, .int (1 + y), .int bg, .int (bg + 1 + en), .int (1 + pe)]) nt
        have hM4 := st _ _ hM3
        refine ⟨M, ws, _, rfl, rfl, hM4, less_of ?_, Same_mut (s3.trans st) nM0, ws ++ [.ref t], ks ++ [⟨nm, 1 + y, bg, bg + 1 + en, 1 + pe⟩], _, _, _, _, rfl, by rw [upd_ne npM]; exact st _ _ hp3, by rw [upd_ne nLM]; exact st _ _ hL3, Tups_dpa (Tups_upd hM4 rfl) (noLs_servs _) (Same_dpa st hvs3), upd_same, ?_, by rw [List.length_append, hkl]; rfl, fun k hk => ?_⟩
        · rw [dpa_len hws3, List.length_map]
          omega
        · rw [List.map_append]
          exact dpa_push hM4 (noLs_keeps _) (noL_keep _) (Same_dpa st hws3) (keep_of (k := ⟨nm, 1 + y, bg, bg + 1 + en, 1 + pe⟩) (SqT.of upd_same)) _
        · rcases List.mem_append.mp hk with hk | hk
          · exact hkv k hk
          · cases List.mem_singleton.mp hk
            refine ⟨by rw [hnames]; exact List.mem_of_getElem? hnmi, ?_, ?_⟩
            · show 1 ≤ 1 + y ∧ 1 + y ≤ 40
              omega
            · show 0 ≤ bg ∧ bg < bg + 1 + en ∧ bg + 1 + en ≤ 1 + pe ∧ 1 + pe ≤ 100
              omega
      · rintro σ H3 ⟨s3, ws, ks, x4, x7, x8, x9, rfl, hp3, hL3, hvs3, hM3, hws3, hkl, hkv⟩
        -- quota
        refine ⟨_, rfl, c, 1, 12, rfl, by decide, by decide, by decide, fun q q0 q12 => ⟨_, rfl, c, 2, 6, rfl, by decide, by decide, by decide, fun qb _ _ => ⟨rfl, .inr ⟨_, rfl, _, _, rfl, rfl, .inl (by decide), _, _, rfl, rfl, ?_⟩⟩⟩⟩
        have b1 := bit (decide (V.int qb = V.int 0))
        refine ⟨_, rfl, _, rfl, _, _, rfl, .inl ⟨SqL.of hL3, fun sa nsa => ?_⟩⟩
        have s4 := Same_new (o := .tup vs) nsa
        refine ⟨_, rfl, _, _, rfl, .inl ⟨SqL.of (s4 _ _ hM3), fun ka nka => ⟨tl 3 rfl (by decide), fun t nt => ?_⟩⟩⟩
        have s5 := Same_new (o := .tup ws) nka
        have s6 := Same_new (o := .tup [.int (q + 180 * (if decide (V.int qb = V.int 0) = true then 1 else 0)), .ref sa, .ref ka]) nt
        refine kk _ (.ref t) ⟨q + 180 * (if decide (V.int qb = V.int 0) = true then 1 else 0), ss, ks⟩ (((s3.trans s4).trans s5).trans s6) (.tup (SqT.of upd_same) (.cons (.int _) (.cons (.tup (Same_t (s5.trans s6) (SqT.of upd_same)) (Same_dpa ((s4.trans s5).trans s6) hvs3)) (.cons (.tup (Same_t s6 (SqT.of upd_same)) (Same_dpa ((s4.trans s5).trans s6) hws3)) .nil)))) ⟨?_, ?_, hval, ?_, ?_, hkv⟩ ?_
        · show 0 ≤ q + 180 * (if decide (V.int qb = V.int 0) = true then 1 else 0) ∧ q + 180 * (if decide (V.int qb = V.int 0) = true then 1 else 0) ≤ 200
          revert b1
          generalize (if decide (V.int qb = V.int 0) = true then (1 : Int) else 0) = u
          intro b1
          omega
        · show 1 ≤ ss.length ∧ ss.length ≤ 6
          omega
        · show (ss.map fun s => s.name).Nodup
          rw [hnames]
          exact nd
        · show ks.length ≤ 12
          omega
        · show ss.length ≤ 3
          omega
theorem noLs_rows (e : List Row) : noLs (e.map dRow) = true := noLs_map noL_row e
def RowsOk (n : Nat) (e : List Row) : Prop := e.length = n ∧ ∀ r ∈ e, (1 ≤ r.price ∧ r.price ≤ 100) ∧ 0 ≤ r.came ∧ r.came ≤ 1000
def sp_l_entry (T : Ctx K mg) : Sp := fun vs H Q _ => ∃ (sv : V) (S : Sett) (c : Int), vs = [sv, .int c] ∧ Dp K H sv (dSett S) ∧ S.servs.length ≤ 10 ∧ ∀ (H' : Hp) (a : Addr) (xs : List V) (e : List Row), Same H H' → H a = none → H' a = some (.lst xs) → DpAll K H' xs (e.map dRow) → RowsOk S.servs.length e → Q (.ref a) H'
theorem ok_l_entry (T : Ctx K mg) : FnOk P w K mg base CX0 2 T.a_l_entry T.fd_l_entry ["_law_setting", "_law_cell_here"] (sp_l_entry T) := by
  have G_l_draw := ok_l_draw (P := P) (w := w) (base := base) T
  refine T.F_l_entry.ok sc_l_entry (fun vs H Q E h => ?_) (fun cdv A outer s H vs Q E hr h => ?_)
  · obtain ⟨sv, S, c, rfl, hS, few, kk⟩ := h
    rfl
  · obtain ⟨sv, S, c, rfl, hS, few, kk⟩ := h
    refine ⟨_, PSs.nox (pss_cons (ps_set (i := 2) sc_l_entry.nd rfl (Or.inl rfl) (pe_lst pa_nil))
    (pss_cons (ps_for PassesOwn.never rfl (pi_range1 rfl T.n_range (pa_cons (pe_callB call_len_seq (by rfl) T.n_len (by decide +kernel) (pa_cons (pe_ix ix_tup (pv 0) pe_int (fun _ _ => rfl)) pa_nil)) pa_nil)) (pg_name (i := 3) sc_l_entry.nd rfl (Or.inl rfl))
      (pss_cons (ps_set (i := 4) sc_l_entry.nd rfl (Or.inl rfl) (pe_op op_add (pe_op op_add pe_int (pe_call G_l_draw (hr.mono (by decide)) rfl T.g_l_draw T.F_l_draw.kp T.b_l_draw .nil pass0 (pa_cons (pv 1) (pa_cons (pe_op op_add pe_int (pe_op op_mul pe_int (pv 3))) (pa_cons pe_int pa_nil))))) (pe_op op_mul pe_int (pe_callTy call_int1 (by rfl) T.n_int (by decide +kernel) (pa_cons (pe_cmpR op_eq (pe_call G_l_draw (hr.mono (by decide)) rfl T.g_l_draw T.F_l_draw.kp T.b_l_draw .nil pass0 (pa_cons (pv 1) (pa_cons (pe_op op_add pe_int (pe_op op_mul pe_int (pv 3))) (pa_cons pe_int pa_nil)))) pe_int (nomark _)) pa_nil)))))
      (pss_cons (ps_set (i := 5) sc_l_entry.nd rfl (Or.inl rfl) (pe_op op_mul (pe_call G_l_draw (hr.mono (by decide)) rfl T.g_l_draw T.F_l_draw.kp T.b_l_draw .nil pass0 (pa_cons (pv 1) (pa_cons (pe_op op_add pe_int (pe_op op_mul pe_int (pv 3))) (pa_cons pe_int pa_nil)))) (pe_callTy call_int1 (by rfl) T.n_int (by decide +kernel) (pa_cons (pe_cmpR op_gt (pe_call G_l_draw (hr.mono (by decide)) rfl T.g_l_draw T.F_l_draw.kp T.b_l_draw .nil pass0 (pa_cons (pv 1) (pa_cons (pe_op op_add pe_int (pe_op op_mul pe_int (pv 3))) (pa_cons pe_int pa_nil)))) pe_int (nomark _)) pa_nil))))
      (pss_one (ps_expr (pe_bm PySem.F.plainAttrs_list PySem.F.slot_list_append PySem.F.type_list_append mt_append (pv 2) (pa_cons (pe_tup (pa_cons (pv 4) (pa_cons (pv 5) (pa_cons (pe_cmpR op_eq (pe_call G_l_draw (hr.mono (by decide)) rfl T.g_l_draw T.F_l_draw.kp T.b_l_draw .nil pass0 (pa_cons (pv 1) (pa_cons (pe_op op_add pe_int (pv 3)) (pa_cons pe_int pa_nil)))) pe_int (nomark _)) pa_nil)))) pa_nil)))))))
    (pss_one (ps_ret (pv 2))))), ?_⟩
    obtain ⟨a, sa, ka, ss, ks, rfl, h1, h2, h3, h4, h5⟩ := sett_inv hS
    have e3 : ss.length = S.servs.length := by rw [dpa_len h3, List.length_map]
    refine ⟨tl 0 rfl (by decide), fun L nL => ?_⟩
    have sL := Same_new (o := .lst []) nL
    refine ⟨_, rfl, _, _, _, _, rfl, rfl, Same_t sL h1, rfl, _, _, rfl, .inr (Same_t sL h2), _, rfl, by omega, by rw [e3]; omega, for_range (lo := 0) (n := ((ss.length : Nat) : Int).toNat) (fun i σ H' => Same H H' ∧ ∃ (xs : List V) (e : List Row) (x3 x4 x5 : Option V), σ = [some (.ref a), some (.int c), some (.ref L), x3, x4, x5] ∧ H' L = some (.lst xs) ∧ DpAll K H' xs (e.map dRow) ∧ RowsOk i e)
      ⟨sL, [], [], _, _, _, rfl, upd_same, .nil, rfl, fun r h => (by cases h)⟩ ?_ ?_⟩
    · rintro i σ H1 hi ⟨s1, xs, e, x3, x4, x5, rfl, hL, hxs, hel, her⟩
      have il : i < S.servs.length := by omega
      -- price
      refine ⟨_, rfl, _, rfl, _, _, rfl, rfl, .inl (by decide), _, _, rfl, rfl, c, _, 6, rfl, by omega, by omega, by decide, fun p p0 p6 => ⟨_, _, rfl, rfl, _, rfl, _, rfl, _, _, rfl, rfl, .inl (by decide), _, _, rfl, rfl, c, _, 12, rfl, by omega, by omega, by decide, fun pb _ _ => ⟨rfl, .inr ⟨_, rfl, _, _, rfl, rfl, .inl (by decide), _, _, rfl, rfl, ?_⟩⟩⟩⟩
      have b1 := bit (decide (V.int pb = V.int 0))
      -- came
      refine ⟨_, rfl, _, rfl, _, _, rfl, rfl, .inl (by decide), _, _, rfl, rfl, c, _, 9, rfl, by omega, by omega, by decide, fun q q0 q9 => ⟨_, rfl, _, rfl, _, _, rfl, rfl, .inl (by decide), _, _, rfl, rfl, c, _, 3, rfl, by omega, by omega, by decide, fun qb _ _ => ⟨_, _, rfl, rfl, .inr ⟨_, rfl, _, _, rfl, rfl, .inl ⟨by omega, by omega⟩, ?_⟩⟩⟩⟩
      have b2 := bit (decide (0 < qb))
      -- append
      refine ⟨_, rfl, .inl ⟨rfl, _, SqL.of hL⟩, _, rfl, _, rfl, _, rfl, _, rfl, _, _, rfl, rfl, c, _, 12, rfl, by omega, by omega, by decide, fun rb _ _ => ⟨rfl, tl 3 rfl (by decide), fun t nt => ?_⟩⟩
      have st := Same_new (o := .tup [.int (1 + p + 94 * (if decide (V.int pb = V.int 0) = true then 1 else 0)), .int (q * (if decide (0 < qb) = true then 1 else 0)), .bl (decide (V.int rb = V.int 0))]) nt
      have hL1 := st _ _ hL
      refine ⟨L, xs, _, rfl, rfl, hL1, less_of ?_, Same_mut (s1.trans st) nL, xs ++ [.ref t], e ++ [⟨1 + p + 94 * (if decide (V.int pb = V.int 0) = true then 1 else 0), q * (if decide (0 < qb) = true then 1 else 0), decide (V.int rb = V.int 0)⟩], _, _, _, rfl, upd_same, ?_, by rw [List.length_append, hel]; rfl, fun r hr => ?_⟩
      · rw [dpa_len hxs, List.length_map]
        omega
      · rw [List.map_append]
        exact dpa_push hL1 (noLs_rows _) (noL_row _) (Same_dpa st hxs) (row_of (r := ⟨1 + p + 94 * (if decide (V.int pb = V.int 0) = true then 1 else 0), q * (if decide (0 < qb) = true then 1 else 0), decide (V.int rb = V.int 0)⟩) (SqT.of upd_same)) _
      · rcases List.mem_append.mp hr with hr | hr
        · exact her r hr
        · cases List.mem_singleton.mp hr
          show (1 ≤ 1 + p + 94 * (if decide (V.int pb = V.int 0) = true then 1 else 0) ∧ 1 + p + 94 * (if decide (V.int pb = V.int 0) = true then 1 else 0) ≤ 100) ∧ 0 ≤ q * (if decide (0 < qb) = true then 1 else 0) ∧ q * (if decide (0 < qb) = true then 1 else 0) ≤ 1000
          revert b1
          generalize (if decide (V.int pb = V.int 0) = true then (1 : Int) else 0) = u
          intro b1
          refine ⟨by omega, ?_⟩
          cases decide (0 < qb) with
          | true =>
            rw [if_pos rfl]
            omega
          | false =>
            rw [if_neg (by decide)]
            omega
    · rintro σ H1 ⟨s1, xs, e, x3, x4, x5, rfl, hL, hxs, hel, her⟩
      exact ⟨_, rfl, kk _ L xs e s1 nL hL hxs ⟨by rw [hel, e3]; exact Int.toNat_natCast _, her⟩⟩
theorem ents_keep : ∀ {led : Led} {vs : List V}, DpAll K H vs (led.map dEntry) → Tups H H1 → (∀ z o, V.ref z ∈ vs → H z = some o → H1 z = some o) → DpAll K H1 vs (led.map dEntry)
  | [], _, h, _, _ => by cases h; exact .nil
  | m :: ms, _, h, u, k => by
    obtain ⟨v, r, rfl, h1, h2⟩ := dpa_cons h
    obtain ⟨a, xs, rfl, h3, h4⟩ := dp_lst h1
    exact .cons (.lst (SqL_keep h3 fun o h => k a o (.head _) h) (Tups_dpa u (noLs_rows m) h4)) (ents_keep h2 u fun z o hz h => k z o (.tail _ hz) h)
def sp_l_ledger (T : Ctx K mg) : Sp := fun vs H Q _ => ∃ (sv : V) (S : Sett) (ca : Addr) (cs : List Int), vs = [sv, .ref ca] ∧ Dp K H sv (dSett S) ∧ S.servs.length ≤ 10 ∧ SqL K H ca (cs.map V.int) ∧ cs.length ≤ 500 ∧ ∀ (H' : Hp) (a : Addr) (xs : List V) (led : Led), Same H H' → H' a = some (.lst xs) → DpAll K H' xs (led.map dEntry) → led.length = cs.length → LedOk S.servs.length led → Q (.ref a) H'
theorem ok_l_ledger (T : Ctx K mg) : FnOk P w K mg base CX0 3 T.a_l_ledger T.fd_l_ledger ["_law_setting", "_law_cells"] (sp_l_ledger T) := by
  have G_l_entry := ok_l_entry (P := P) (w := w) (base := base) T
  refine T.F_l_ledger.ok sc_l_ledger (fun vs H Q E h => ?_) (fun cdv A outer s H vs Q E hr h => ?_)
  · obtain ⟨sv, S, ca, cs, rfl, hS, few, hc, hcl, kk⟩ := h
    rfl
  · obtain ⟨sv, S, ca, cs, rfl, hS, few, hc, hcl, kk⟩ := h
    refine ⟨_, PSs.nox (pss_one (ps_ret (pe_lc (own := [("_law_cell_here", 2)]) rfl sc_l_ledger.nd (pi_list (pv 1)) (blkOk_by (N := N_l_ledger) (sc := defScope s_l_ledger) (own := [("_law_cell_here", 2)]) (by decide +kernel)) (fun _ _ _ _ _ => (pg_name (i := 2) sc_l_ledger.nd rfl (Or.inl rfl))) (fun _ _ _ _ _ => pts_nil) (fun _ _ _ _ _ => (pe_call G_l_entry (hr.mono (by decide)) rfl T.g_l_entry T.F_l_entry.kp T.b_l_entry .nil pass0 (pa_cons (pv 0) (pa_cons (pv 2) pa_nil))))))), ?_⟩
    refine ⟨_, rfl, ca, rfl, ⟨_, hc⟩, fun D nD => ?_⟩
    refine lc_list (xs := cs.map V.int) (fun i H' => Same H H' ∧ ∃ (xs : List V) (led : Led), H' D = some (.lst xs) ∧ DpAll K H' xs (led.map dEntry) ∧ led.length = i ∧ (∀ e ∈ led, RowsOk S.servs.length e) ∧ ∀ z, V.ref z ∈ xs → z ≠ D ∧ ∃ ys, H' z = some (.lst ys)) ⟨Same_new nD, [], [], upd_same, .nil, rfl, fun e h => (by cases h), fun z h => (by cases h)⟩ (fun i H' _ p => Same_l p.1 hc) ?_ ?_
    · rintro i x H1 hi ⟨s1, xs, led, hD, hxs, hl, her, hz⟩
      rw [List.getElem?_map] at hi
      have il : i < cs.length := by
        cases q : cs[i]? with
        | none => rw [q] at hi; cases hi
        | some y => exact (List.getElem?_eq_some_iff.mp q).1
      rw [List.getElem?_eq_getElem il] at hi
      cases hi
      refine ⟨rfl, _, rfl, _, rfl, sv, S, _, rfl, Same_dp s1 hS, few, fun H2 e ys en s2 ne he hys hok => ?_⟩
      have hD2 := s2 _ _ hD
      have neD : e ≠ D := (ne_of_none hD ne).symm
      have u := Tups_upd (o := .lst (xs ++ [.ref e])) hD2 rfl
      have kp : ∀ {z o}, z ≠ D → H2 z = some o → upd H2 D (.lst (xs ++ [.ref e])) z = some o := fun hz h => by rw [upd_ne hz]; exact h
      refine ⟨xs, hD2, less_of ?_, Same_mut (s1.trans s2) nD, _, led ++ [en], upd_same, ?_, by rw [List.length_append, hl]; rfl, fun e' he' => ?_, fun z hz' => ?_⟩
      · rw [dpa_len hxs, List.length_map]
        omega
      · rw [List.map_append]
        exact dpa_app (ents_keep (Same_dpa s2 hxs) u fun z o h1 h2 => kp (hz z h1).1 h2) (.cons (.lst (SqL.of (kp neD he)) (Tups_dpa u (noLs_rows en) hys)) .nil)
      · rcases List.mem_append.mp he' with h | h
        · exact her e' h
        · cases List.mem_singleton.mp h
          exact hok
      · rcases List.mem_append.mp hz' with h | h
        · obtain ⟨h2, zs, h3⟩ := hz z h
          exact ⟨h2, zs, kp h2 (s2 _ _ h3)⟩
        · cases List.mem_singleton.mp h
          exact ⟨neD, ys, kp neD he⟩
    · rintro H1 ⟨s1, xs, led, hD, hxs, hl, her, hz⟩
      rw [List.length_map] at hl
      exact kk _ D xs led s1 hD hxs hl ⟨by omega, her⟩
end
end K65
set_option Elab.async false
set_option linter.all false
set_option maxRecDepth 100000
set_option maxHeartbeats 4000000
namespace K65
open PySem L2
theorem cut_to (xs : List V) (k : Nat) : cutV xs none (some (k : Int)) = xs.take k := by
  unfold cutV
  rw [HT.sIx_none, HT.sIx_nat, List.drop_zero, Nat.sub_zero]
  by_cases h : k ≤ xs.length
  · rw [Nat.min_eq_left h]
  · rw [Nat.min_eq_right (by omega), List.take_length, List.take_of_length_le (by omega)]
theorem cut_from (xs : List V) (k : Nat) : cutV xs (some (k : Int)) none = xs.drop k := by
  unfold cutV
  rw [HT.sIx_none, HT.sIx_nat]
  by_cases h : k ≤ xs.length
  · rw [Nat.min_eq_left h, List.take_of_length_le (by rw [List.length_drop]; exact Nat.le_refl _)]
  · rw [Nat.min_eq_right (by omega), List.drop_length, List.drop_eq_nil_of_le (by omega)]
    exact List.take_nil
theorem set_cut {α : Type} {xs : List α} {i : Nat} {y : α} (h : i < xs.length) : xs.take i ++ [y] ++ xs.drop (i + 1) = xs.set i y := by
  rw [List.set_eq_take_append_cons_drop, if_pos h, List.append_assoc]
  rfl
def deedV (d : Deed) (sa : Addr) : List V := [.int d.price, .int d.came, .bl d.brk, .int d.due, .int d.want, .int d.limit, .int d.given, .int d.run, .int d.dropped, .str d.why, .int d.need, .ref sa, .int d.cost]
/-- one field other: what is given stays, or it goes up or down by one -/
def OneField (d d' : Deed) : Prop := (d'.given = d.given ∨ ∃ s : Int, (s = 1 ∨ s = -1) ∧ d' = { d with given := d.given + s }) ∧ (PyData.strOk d.why = true → PyData.strOk d'.why = true)
def Spoilt (rec other : Recd) : Prop :=
  (∃ t, t < rec.length ∧ other = rec.take t ++ rec.drop (t + 1)) ∨ (∃ t m, rec[t]? = some m ∧ other = rec.set t (m.drop 1)) ∨
    ∃ t m k d d', rec[t]? = some m ∧ m[k]? = some d ∧ other = rec.set t (m.set k d') ∧ OneField d d'
theorem field_int (d : Deed) (sa : Addr) (s : Int) (hs : s = 1 ∨ s = -1) (j : Nat) (hj : j < 13) (h2 : j ≠ 2) (h9 : j ≠ 9) (h11 : j ≠ 11) :
    ∃ x d', (deedV d sa)[j]? = some (.int x) ∧ OneField d d' ∧ (deedV d sa).set j (.int (x + s)) = deedV d' sa ∧ d'.states = d.states := by
  match j, hj, h2, h9, h11 with
  | 0, _, _, _, _ => exact ⟨d.price, { d with price := d.price + s }, rfl, ⟨.inl rfl, id⟩, rfl, rfl⟩
  | 1, _, _, _, _ => exact ⟨d.came, { d with came := d.came + s }, rfl, ⟨.inl rfl, id⟩, rfl, rfl⟩
  | 3, _, _, _, _ => exact ⟨d.due, { d with due := d.due + s }, rfl, ⟨.inl rfl, id⟩, rfl, rfl⟩
  | 4, _, _, _, _ => exact ⟨d.want, { d with want := d.want + s }, rfl, ⟨.inl rfl, id⟩, rfl, rfl⟩
  | 5, _, _, _, _ => exact ⟨d.limit, { d with limit := d.limit + s }, rfl, ⟨.inl rfl, id⟩, rfl, rfl⟩
  | 6, _, _, _, _ => exact ⟨d.given, { d with given := d.given + s }, rfl, ⟨.inr ⟨s, hs, rfl⟩, id⟩, rfl, rfl⟩
  | 7, _, _, _, _ => exact ⟨d.run, { d with run := d.run + s }, rfl, ⟨.inl rfl, id⟩, rfl, rfl⟩
  | 8, _, _, _, _ => exact ⟨d.dropped, { d with dropped := d.dropped + s }, rfl, ⟨.inl rfl, id⟩, rfl, rfl⟩
  | 10, _, _, _, _ => exact ⟨d.need, { d with need := d.need + s }, rfl, ⟨.inl rfl, id⟩, rfl, rfl⟩
  | 12, _, _, _, _ => exact ⟨d.cost, { d with cost := d.cost + s }, rfl, ⟨.inl rfl, id⟩, rfl, rfl⟩
  | 2, _, h, _, _ => exact absurd rfl h
  | 9, _, _, h, _ => exact absurd rfl h
  | 11, _, _, _, h => exact absurd rfl h
  | n + 13, h, _, _, _ => exact absurd h (by omega)
section
variable {P : Program} {w : World} {K : PySem.W.Frag} {mg : Str → Option Value} {base : Heap} {B H H1 : Hp}
theorem slA_of {Q : VK} {a : Addr} {xs : List V} {lo hi : Option Int} (hs : SqT K H a xs) (k : ∀ r H', Same H H' → SqT K H' r (cutV xs lo hi) → Q (.ref r) H') : rSlA K (.ref a) lo hi H Q := by
  refine ⟨a, xs, rfl, hs, fun hw => k a H (Same.refl H) ?_, fun _ p np => k p _ (Same_new np) (SqT.of upd_same)⟩
  unfold cutV
  rw [hw.1, hw.2, List.drop_zero, Nat.sub_zero, List.take_length]
  exact hs
theorem catA_of {Q : VK} {a b : Addr} {xs ys : List V} (ha : SqT K H a xs) (hb : SqT K H b ys) (hz : xs.length + ys.length ≤ 100000) (k : ∀ r H', Same H H' → SqT K H' r (xs ++ ys) → Q (.ref r) H') : rCatA K (.ref a) (.ref b) H Q :=
  ⟨a, b, xs, ys, rfl, rfl, ha, hb, small_of hz, fun e => k b H (Same.refl H) (by rw [e]; exact hb), fun _ e => k a H (Same.refl H) (by rw [e, List.append_nil]; exact ha), fun _ _ p np => k p _ (Same_new np) (SqT.of upd_same)⟩
/-- the copied moments, each a list of its own -/
def Rows (K : PySem.W.Frag) (H : Hp) (zs : List Addr) (rec : Recd) : Prop :=
  zs.length = rec.length ∧ ∀ (i : Nat) (z : Addr) (m : List Deed), zs[i]? = some z → rec[i]? = some m → ∃ ys, H z = some (.lst ys) ∧ DpAll K H ys (m.map dDeed)
theorem Rows.dpa : ∀ {zs : List Addr} {rec : Recd}, Rows K H zs rec → DpAll K H (zs.map V.ref) (rec.map dMom)
  | [], [], _ => .nil
  | [], _ :: _, h => by cases h.1
  | _ :: _, [], h => by cases h.1
  | z :: zs, m :: ms, h => by
    obtain ⟨ys, h1, h2⟩ := h.2 0 z m rfl rfl
    exact .cons (.lst (SqL.of h1) h2) (Rows.dpa ⟨Nat.succ.inj h.1, fun i z m hz hm => h.2 (i + 1) z m hz hm⟩)
theorem Rows.keep {zs : List Addr} {rec : Recd} (h : Rows K H zs rec) (u : Tups H H1) (k : ∀ z ∈ zs, ∀ o, H z = some o → H1 z = some o) : Rows K H1 zs rec :=
  ⟨h.1, fun i z m hz hm => by
    obtain ⟨ys, h1, h2⟩ := h.2 i z m hz hm
    exact ⟨ys, k z (List.mem_of_getElem? hz) _ h1, Tups_dpa u (noLs_deeds m) h2⟩⟩
theorem Rows.put {zs : List Addr} {rec : Recd} {t : Nat} {z : Addr} {m m' : List Deed} {ys ys' : List V} (h : Rows K H zs rec) (nd : zs.Nodup) (hz : zs[t]? = some z) (hm : rec[t]? = some m) (hy : H z = some (.lst ys)) (hd : DpAll K H ys' (m'.map dDeed)) : Rows K (upd H z (.lst ys')) zs (rec.set t m') := by
  have u : Tups H (upd H z (.lst ys')) := Tups_upd hy rfl
  refine ⟨by rw [List.length_set]; exact h.1, fun i y n hi hn => ?_⟩
  rcases set_some hn with ⟨rfl, rfl⟩ | ⟨ne, hn⟩
  · rw [hz] at hi
    cases hi
    exact ⟨ys', upd_same, Tups_dpa u (noLs_deeds _) hd⟩
  · obtain ⟨xs, h1, h2⟩ := h.2 i y n hi hn
    have nz : y ≠ z := fun e => by
      subst e
      obtain ⟨a1, b1⟩ := List.getElem?_eq_some_iff.mp hi
      obtain ⟨a2, b2⟩ := List.getElem?_eq_some_iff.mp hz
      rcases Nat.lt_or_ge i t with q | q
      · exact List.pairwise_iff_getElem.mp nd i t a1 a2 q (by rw [b1, b2])
      · exact List.pairwise_iff_getElem.mp nd t i a2 a1 (by omega) (by rw [b1, b2])
    exact ⟨xs, by rw [upd_ne nz]; exact h1, Tups_dpa u (noLs_deeds _) h2⟩
theorem ixN_at {n j : Nat} (h : j < n) : ixN n (j : Int) = some j := by
  unfold ixN
  rw [if_pos (by omega), if_pos (by omega), Int.toNat_natCast]
theorem mem_set {α : Type} {xs : List α} {i : Nat} {x y : α} (h : y ∈ xs.set i x) : y = x ∨ y ∈ xs := by
  obtain ⟨k, hk⟩ := List.getElem?_of_mem h
  rcases set_some hk with ⟨_, e⟩ | ⟨_, e⟩
  · exact .inl e
  · exact .inr (List.mem_of_getElem? e)
theorem Spoilt.ok {rec other : Recd} (h : RecOk rec) (x : Spoilt rec other) : RecOk other := by
  have hl := h.len
  rcases x with ⟨t, ht, rfl⟩ | ⟨t, m, hm, rfl⟩ | ⟨t, m, k, d, d', hm, hd, rfl, ho⟩
  · refine ⟨by rw [List.length_append, List.length_take, List.length_drop]; omega, fun e he => ?_⟩
    rcases List.mem_append.mp he with he | he
    · exact h.each e (List.mem_of_mem_take he)
    · exact h.each e (List.mem_of_mem_drop he)
  · refine ⟨by rw [List.length_set]; exact hl, fun e he => ?_⟩
    rcases mem_set he with rfl | he
    · have := h.each m (List.mem_of_getElem? hm)
      exact ⟨by rw [List.length_drop]; omega, fun d hd => this.2 d (List.mem_of_mem_drop hd)⟩
    · exact h.each e he
  · refine ⟨by rw [List.length_set]; exact hl, fun e he => ?_⟩
    rcases mem_set he with rfl | he
    · have := h.each m (List.mem_of_getElem? hm)
      refine ⟨by rw [List.length_set]; exact this.1, fun b hb => ?_⟩
      rcases mem_set hb with rfl | hb
      · exact ho.2 (this.2 d (List.mem_of_getElem? hd))
      · exact this.2 b hb
    · exact h.each e he
def sp_l_spoil_record (T : Ctx K mg) : Sp := fun vs H Q _ => ∃ (rv : V) (rec : Recd) (c : Int), vs = [rv, .int c] ∧ Dp K H rv (dRec rec) ∧ RecOk rec ∧ rec ≠ [] ∧ (∀ m ∈ rec, m ≠ [] ∧ ∀ d ∈ m, d.states.length = 40) ∧
  ∀ (H' : Hp) (v : V) (other : Recd), Same H H' → Dp K H' v (dRec other) → Spoilt rec other → RecOk other → Q v H'
theorem ok_l_spoil_record (T : Ctx K mg) : FnOk P w K mg base CX0 2 T.a_l_spoil_record T.fd_l_spoil_record ["_law_record", "_law_cell_here"] (sp_l_spoil_record T) := by
  have G_l_draw := ok_l_draw (P := P) (w := w) (base := base) T
  refine T.F_l_spoil_record.ok sc_l_spoil_record (fun vs H Q E h => ?_) (fun cdv A outer s H vs Q E hr h => ?_)
  · obtain ⟨rv, rec, c, rfl, hR, rok, rne, full, kk⟩ := h
    rfl
  · obtain ⟨rv, rec, c, rfl, hR, rok, rne, full, kk⟩ := h
    refine ⟨_, PSs.nox (pss_cons (ps_setLc (i := 2) (own := [("_law_moment", 10)]) rfl sc_l_spoil_record.nd rfl rfl (sw_true rfl rfl rfl (by decide +kernel)) (pi_list (pv 0)) (blkOk_by (N := N_l_spoil_record) (sc := defScope s_l_spoil_record) (own := [("_law_moment", 10)]) (by decide +kernel)) (fun _ _ _ _ _ => (pg_name (i := 10) sc_l_spoil_record.nd rfl (Or.inl rfl))) (fun _ _ _ _ _ => pts_nil) (fun _ _ _ _ _ => (pe_callTy (call_list_ofK (K := K) rfl) (by rfl) T.n_list (by decide +kernel) (pa_cons (pv 10) pa_nil))))
    (pss_cons (ps_set (i := 3) sc_l_spoil_record.nd rfl (Or.inl rfl) (pe_call G_l_draw (hr.mono (by decide)) rfl T.g_l_draw T.F_l_draw.kp T.b_l_draw .nil pass0 (pa_cons (pv 1) (pa_cons pe_int (pa_cons (pe_callB call_len_seq (by rfl) T.n_len (by decide +kernel) (pa_cons (pv 2) pa_nil)) pa_nil)))))
    (pss_cons (ps_set (i := 4) sc_l_spoil_record.nd rfl (Or.inl rfl) (pe_call G_l_draw (hr.mono (by decide)) rfl T.g_l_draw T.F_l_draw.kp T.b_l_draw .nil pass0 (pa_cons (pv 1) (pa_cons pe_int (pa_cons (pe_callB call_len_seq (by rfl) T.n_len (by decide +kernel) (pa_cons (pe_ix ix_list (pv 2) (pv 3) (fun _ _ => rfl)) pa_nil)) pa_nil)))))
    (pss_cons (ps_set (i := 5) sc_l_spoil_record.nd rfl (Or.inl rfl) (pe_ix ix_list (pe_ix ix_list (pv 2) (pv 3) (fun _ _ => rfl)) (pv 4) (fun _ _ => rfl)))
    (pss_cons (ps_set (i := 6) sc_l_spoil_record.nd rfl (Or.inl rfl) (pe_call G_l_draw (hr.mono (by decide)) rfl T.g_l_draw T.F_l_draw.kp T.b_l_draw .nil pass0 (pa_cons (pv 1) (pa_cons pe_int (pa_cons pe_int pa_nil)))))
    (pss_cons (ps_set (i := 7) sc_l_spoil_record.nd rfl (Or.inl rfl) (pe_op op_sub pe_int (pe_op op_mul pe_int (pe_call G_l_draw (hr.mono (by decide)) rfl T.g_l_draw T.F_l_draw.kp T.b_l_draw .nil pass0 (pa_cons (pv 1) (pa_cons pe_int (pa_cons pe_int pa_nil)))))))
    (pss_cons (ps_if (pt_cmpR op_eq (pv 6) pe_int (nomark _))
      (pss_one (ps_ret (pe_op op_cat (pe_slice sl_list (pv 2) po_none (po_some (pv 3))) (pe_slice sl_list (pv 2) (po_some (pe_op op_add (pv 3) pe_int)) po_none))))
      pss_nil)
    (pss_cons (ps_if (pt_cmpR op_eq (pv 6) pe_int (nomark _))
      (pss_cons (ps_asg (pe_slice sl_list (pe_ix ix_list (pv 2) (pv 3) (fun _ _ => rfl)) (po_some pe_int) po_none) (pg_sub (pv 2) (pv 3) set_list))
      (pss_one (ps_ret (pv 2))))
      pss_nil)
    (pss_cutK (ps_if (pt_cmpR op_eq (pv 6) pe_int (nomark _))
      (pss_one (ps_set (i := 8) sc_l_spoil_record.nd rfl (Or.inl rfl) (pe_not (pe_ix ix_tup (pv 5) pe_int (fun _ _ => rfl)))))
      (pss_one (ps_if (pt_cmpR op_eq (pv 6) pe_int (nomark _))
        (pss_one (ps_set (i := 8) sc_l_spoil_record.nd rfl (Or.inl rfl) (pe_ix ix_list (pe_lst (pa_cons pe_str (pa_cons pe_str (pa_cons pe_str (pa_cons pe_str pa_nil))))) (pe_call G_l_draw (hr.mono (by decide)) rfl T.g_l_draw T.F_l_draw.kp T.b_l_draw .nil pass0 (pa_cons (pv 1) (pa_cons pe_int (pa_cons pe_int pa_nil)))) (fun _ _ => rfl))))
        (pss_one (ps_if (pt_cmpR op_eq (pv 6) pe_int (nomark _))
          (pss_cons (ps_set (i := 9) sc_l_spoil_record.nd rfl (Or.inl rfl) (pe_call G_l_draw (hr.mono (by decide)) rfl T.g_l_draw T.F_l_draw.kp T.b_l_draw .nil pass0 (pa_cons (pv 1) (pa_cons pe_int (pa_cons pe_int pa_nil)))))
          (pss_one (ps_set (i := 8) sc_l_spoil_record.nd rfl (Or.inl rfl) (pe_op op_catA (pe_op op_catA (pe_slice sl_tupA (pe_ix ix_tup (pv 5) pe_int (fun _ _ => rfl)) po_none (po_some (pv 9))) (pe_tup (pa_cons (pe_op op_add (pe_ix ix_tup (pe_ix ix_tup (pv 5) pe_int (fun _ _ => rfl)) (pv 9) (fun _ _ => rfl)) (pv 7)) pa_nil))) (pe_slice sl_tupA (pe_ix ix_tup (pv 5) pe_int (fun _ _ => rfl)) (po_some (pe_op op_add (pv 9) pe_int)) po_none)))))
          (pss_one (ps_set (i := 8) sc_l_spoil_record.nd rfl (Or.inl rfl) (pe_op op_add (pe_ix ix_tup (pv 5) (pv 6) (fun _ _ => rfl)) (pv 7)))))))))
    (pss_cons (ps_asg (pe_op op_catA (pe_op op_catA (pe_slice sl_tupA (pv 5) po_none (po_some (pv 6))) (pe_tup (pa_cons (pv 8) pa_nil))) (pe_slice sl_tupA (pv 5) (po_some (pe_op op_add (pv 6) pe_int)) po_none)) (pg_sub (pe_ix ix_list (pv 2) (pv 3) (fun _ _ => rfl)) (pv 4) set_list))
    (pss_one (ps_ret (pv 2))))))))))))), ?_⟩
    obtain ⟨ra, rs, rfl, hr, hrs⟩ := dp_lst hR
    have rl := rok.len
    have el : rs.length = rec.length := by rw [dpa_len hrs, List.length_map]
    -- rows = [list(moment) for moment in record]
    refine ⟨_, rfl, ra, rfl, ⟨rs, hr⟩, fun D nD => ?_⟩
    refine lc_list (xs := rs) (fun i H' => Same H H' ∧ ∃ zs : List Addr, zs.Nodup ∧ H' D = some (.lst (zs.map V.ref)) ∧ Rows K H' zs (rec.take i) ∧ ∀ z ∈ zs, z ≠ D ∧ H z = none ∧ ∃ o, H' z = some o) ⟨Same_new nD, [], List.nodup_nil, upd_same, ⟨rfl, fun i z m hz => (by cases hz)⟩, fun z hz => (by cases hz)⟩ (fun i H' _ p => Same_l p.1 hr) ?_ ?_
    · rintro i x H1 hi ⟨s1, zs, nd, hD, hzs, hz⟩
      obtain ⟨m, hm, hdm⟩ := dpa_map_at hrs hi
      obtain ⟨ma, ys, rfl, hm1, hm2⟩ := dp_lst hdm
      have il : i < rec.length := (List.getElem?_eq_some_iff.mp hm).1
      refine ⟨rfl, _, rfl, _, _, rfl, .inl (Same_l s1 hm1), fun F nF => ?_⟩
      have sF := Same_new (o := .lst ys) nF
      have nFD : F ≠ D := (ne_of_none hD nF).symm
      have hDF := sF _ _ hD
      have u := Tups_upd (o := .lst (zs.map V.ref ++ [.ref F])) hDF rfl
      have kp : ∀ {z o}, z ≠ D → (upd H1 F (.lst ys)) z = some o → upd (upd H1 F (.lst ys)) D (.lst (zs.map V.ref ++ [.ref F])) z = some o := fun hz h => by rw [upd_ne hz]; exact h
      have zl : zs.length = i := by rw [hzs.1, List.length_take]; omega
      refine ⟨_, hDF, less_of ?_, Same_mut (s1.trans sF) nD, zs ++ [F], ?_, ?_, ⟨?_, fun j z m' hj hm' => ?_⟩, fun z hz' => ?_⟩
      · rw [List.length_map]
        omega
      · refine List.nodup_append.mpr ⟨nd, List.pairwise_singleton _ _, fun a ha b hb e => ?_⟩
        cases List.mem_singleton.mp hb
        obtain ⟨_, _, o, h⟩ := hz a ha
        rw [e, nF] at h
        cases h
      · rw [List.map_append]
        exact upd_same
      · rw [List.length_append, zl, List.length_take]
        show i + 1 = _
        omega
      · by_cases hji : j < i
        · rw [List.getElem?_append_left (by omega)] at hj
          obtain ⟨xs, h1, h2⟩ := hzs.2 j z m' hj (by rw [List.getElem?_take_of_lt hji]; rw [List.getElem?_take_of_lt (by omega)] at hm'; exact hm')
          exact ⟨xs, kp (hz z (List.mem_of_getElem? hj)).1 (sF _ _ h1), Tups_dpa u (noLs_deeds _) (Same_dpa sF h2)⟩
        · have ej : j = i := by
            have := (List.getElem?_eq_some_iff.mp hj).1
            rw [List.length_append, zl] at this
            have e1 : [F].length = 1 := rfl
            omega
          subst ej
          rw [List.getElem?_append_right (by omega), zl, Nat.sub_self] at hj
          cases hj
          rw [List.getElem?_take_of_lt (Nat.lt_succ_self _), hm] at hm'
          cases hm'
          exact ⟨ys, kp nFD upd_same, Tups_dpa u (noLs_deeds m) (Same_dpa (s1.trans sF) hm2)⟩
      · rcases List.mem_append.mp hz' with h | h
        · obtain ⟨h2, h0, o, h3⟩ := hz z h
          exact ⟨h2, h0, o, kp h2 (sF _ _ h3)⟩
        · cases List.mem_singleton.mp h
          exact ⟨nFD, s1.free nF, _, kp nFD upd_same⟩
    · rintro H1 ⟨s1, zs, nd, hD, hzs, hz⟩
      rw [el, List.take_length] at hzs
      have zl : zs.length = rec.length := hzs.1
      have zl' : (zs.map V.ref).length = rec.length := by rw [List.length_map]; exact zl
      have r0 : 0 < rec.length := List.length_pos_iff.mpr rne
      -- t
      refine ⟨_, rfl, _, rfl, _, _, rfl, .inl (SqL.of hD), c, 60, _, rfl, by decide, by decide, by rw [zl']; omega, fun t t0 t1 => ?_⟩
      rw [zl'] at t1
      obtain ⟨t, rfl⟩ : ∃ n : Nat, t = (n : Int) := ⟨t.toNat, by omega⟩
      have tl' : t < rec.length := by omega
      obtain ⟨m, hm⟩ := at_of_lt tl'
      obtain ⟨z, hzt⟩ := at_of_lt (xs := zs) (i := t) (by omega)
      obtain ⟨ys, hy, hys⟩ := hzs.2 t z m hzt hm
      obtain ⟨nzD, nz0, _⟩ := hz z (List.mem_of_getElem? hzt)
      have mmem := List.mem_of_getElem? hm
      have m0 : 0 < m.length := List.length_pos_iff.mpr (full m mmem).1
      have m1 := (rok.each m mmem).1
      have yl : ys.length = m.length := by rw [dpa_len hys, List.length_map]
      have hix : atI (zs.map V.ref) (t : Int) = some (.ref z) := atI_nat (ref_at hzt)
      -- k
      refine ⟨_, rfl, _, rfl, _, rfl, _, _, _, _, rfl, rfl, SqL.of hD, hix, _, _, rfl, .inl (SqL.of hy), c, 61, _, rfl, by decide, by decide, by rw [yl]; omega, fun k k0 k1 => ?_⟩
      rw [yl] at k1
      obtain ⟨k, rfl⟩ : ∃ n : Nat, k = (n : Int) := ⟨k.toNat, by omega⟩
      obtain ⟨d, hd⟩ := at_of_lt (xs := m) (i := k) (by omega)
      obtain ⟨dv, hdv, hdd⟩ := dpa_get (d := dDeed d) hys (by rw [List.getElem?_map, hd]; rfl)
      obtain ⟨da, sa, rfl, hda, hsa⟩ := deed_inv hdd
      have hda' : SqT K H1 da (deedV d sa) := hda
      have s40 := (full m mmem).2 d (List.mem_of_getElem? hd)
      have dwhy := (rok.each m mmem).2 d (List.mem_of_getElem? hd)
      -- deed
      refine ⟨_, rfl, _, rfl, _, _, _, _, rfl, rfl, SqL.of hD, hix, _, rfl, _, _, _, _, rfl, rfl, SqL.of hy, atI_nat hdv, ?_⟩
      -- at, step
      refine ⟨_, rfl, c, 62, 15, rfl, by decide, by decide, by decide, fun at_ a0 a15 => ?_⟩
      obtain ⟨j, rfl⟩ : ∃ n : Nat, at_ = (n : Int) := ⟨at_.toNat, by omega⟩
      refine ⟨_, rfl, c, 63, 2, rfl, by decide, by decide, by decide, fun u u0 u1 => ⟨_, _, rfl, rfl, .inl (by decide), _, _, rfl, rfl, ?_⟩⟩
      have hs : (1 - 2 * u) = 1 ∨ (1 - 2 * u) = -1 := by omega
      have dj : ∀ {i : Int}, decide (V.int (j : Int) = V.int i) = true → (j : Int) = i := fun h => by
        have := of_decide_eq_true h
        injection this
      have dn : ∀ {i : Int}, ¬ decide (V.int (j : Int) = V.int i) = true → ¬ (j : Int) = i := fun h e => h (by rw [e]; exact decide_eq_true rfl)
      -- if at == 13
      refine ⟨_, rfl, rfl, _, rfl, ?_⟩
      refine ite2 (fun h => ?_) (fun h13 => ?_)
      · refine ⟨_, rfl, _, rfl, _, rfl, D, _, rfl, SqL.of hD, fun p np => ?_⟩
        have s2 := Same_new (o := .lst (cutV (zs.map V.ref) none (some (t : Int)))) np
        refine ⟨_, rfl, _, rfl, _, _, rfl, rfl, _, rfl, D, _, rfl, SqL.of (s2 _ _ hD), fun p2 np2 => ?_⟩
        have s3 := Same_new (o := .lst (cutV (zs.map V.ref) (some ((t : Int) + 1)) none)) np2
        refine ⟨p, p2, _, _, rfl, rfl, s3 _ _ upd_same, upd_same, small_of ?_, fun p3 np3 => ?_⟩
        · have c1 := cutV_length (zs.map V.ref) none (some (t : Int))
          have c2 := cutV_length (zs.map V.ref) (some ((t : Int) + 1)) none
          omega
        · have s4 := Same_new (o := .lst (cutV (zs.map V.ref) none (some (t : Int)) ++ cutV (zs.map V.ref) (some ((t : Int) + 1)) none)) np3
          have s14 := (s2.trans s3).trans s4
          have sp : Spoilt rec (rec.take t ++ rec.drop (t + 1)) := .inl ⟨t, tl', rfl⟩
          refine kk _ _ _ (s1.trans s14) (.lst (SqL.of upd_same) ?_) sp (sp.ok rok)
          have e1 : cutV (zs.map V.ref) none (some (t : Int)) = (zs.map V.ref).take t := cut_to _ _
          have e2 : cutV (zs.map V.ref) (some ((t : Int) + 1)) none = (zs.map V.ref).drop (t + 1) := cut_from _ (t + 1)
          have hall := Same_dpa s14 hzs.dpa
          rw [e1, e2] at *
          rw [List.map_append, List.map_take, List.map_drop]
          exact dpa_app (dpa_take t hall) (dpa_drop (t + 1) hall)
      -- if at == 14
      refine ⟨_, rfl, rfl, _, rfl, ?_⟩
      refine ite2 (fun h => ?_) (fun h14 => ?_)
      · refine ⟨_, rfl, _, rfl, _, _, _, _, rfl, rfl, SqL.of hD, hix, _, rfl, z, ys, rfl, SqL.of hy, fun p np => ?_⟩
        have s2 := Same_new (o := .lst (cutV ys (some 1) none)) np
        have hD2 := s2 _ _ hD
        have npD : p ≠ D := (ne_of_none hD np).symm
        refine ⟨_, rfl, _, rfl, D, _, _, t, rfl, rfl, hD2, ixN_at (by rw [zl']; exact tl'), ?_⟩
        have sp : Spoilt rec (rec.set t (m.drop 1)) := .inr (.inl ⟨t, m, hm, rfl⟩)
        refine ⟨_, rfl, kk _ _ _ (Same_mut (s1.trans s2) nD) (.lst (SqL.of upd_same) ?_) sp (sp.ok rok)⟩
        have u := Tups_upd (o := .lst ((zs.map V.ref).set t (.ref p))) hD2 rfl
        rw [List.map_set]
        refine dpa_set t (Rows.dpa (Rows.keep (Rows.keep hzs (Same.tups s2) fun z _ o h => s2 _ _ h) u fun y hy o h => by rw [upd_ne (hz y hy).1]; exact h)) (.lst (SqL.of (by rw [upd_ne npD]; exact upd_same)) ?_)
        have e2 : cutV ys (some 1) none = ys.drop 1 := cut_from _ 1
        have q := dpa_drop 1 (Tups_dpa u (noLs_deeds m) (Same_dpa s2 hys))
        rw [← e2] at q
        rw [List.map_drop]
        exact q
      have j13 : j < 13 := by
        have := dn h13
        have := dn h14
        omega
      -- the value
      refine ⟨fun σ' H' => ∃ (v : V) (d' : Deed) (x9 : Option V), σ' = [some (.ref ra), some (.int c), some (.ref D), some (.int (t : Int)), some (.int (k : Int)), some (.ref da), some (.int (j : Int)), some (.int (1 - 2 * u)), some v, x9, none] ∧ Same H1 H' ∧ OneField d d' ∧
        ∀ (H'' : Hp) (R : Addr), Same H' H'' → SqT K H'' R ((deedV d sa).set j v) → Dp K H'' (.ref R) (dDeed d'), ?_, ?_⟩
      · refine ⟨_, rfl, rfl, _, rfl, ?_⟩
        refine ite2 (fun h => ?_) (fun h2 => ?_)
        · have e : j = 2 := by
            have := dj h
            omega
          subst e
          refine ⟨_, rfl, _, _, _, _, rfl, rfl, hda', rfl, ?_⟩
          refine ⟨_, rfl, .bl (!d.brk), { d with brk := !d.brk }, _, rfl, Same.refl _, ⟨.inl rfl, id⟩, fun H'' R s hR => deed_of (d := { d with brk := !d.brk }) hR (Same_t s hsa)⟩
        refine ⟨_, rfl, rfl, _, rfl, ?_⟩
        refine ite2 (fun h => ?_) (fun h9 => ?_)
        · have e : j = 9 := by
            have := dj h
            omega
          subst e
          refine ⟨tl 4 rfl (by decide), fun L nL => ⟨_, rfl, c, 64, 4, rfl, by decide, by decide, by decide, fun x x0 x4 => ?_⟩⟩
          have s2 := Same_new (o := .lst [.str "all", .str "quota", .str "budget", .str "most"]) nL
          obtain ⟨wy, hwy, hok⟩ : ∃ wy : Str, atI [V.str "all", V.str "quota", V.str "budget", V.str "most"] x = some (.str wy) ∧ PyData.strOk wy = true := by
            have : x = ((0 : Nat) : Int) ∨ x = ((1 : Nat) : Int) ∨ x = ((2 : Nat) : Int) ∨ x = ((3 : Nat) : Int) := by omega
            rcases this with rfl | rfl | rfl | rfl
            · exact ⟨"all", atI_nat rfl, by decide +kernel⟩
            · exact ⟨"quota", atI_nat rfl, by decide +kernel⟩
            · exact ⟨"budget", atI_nat rfl, by decide +kernel⟩
            · exact ⟨"most", atI_nat rfl, by decide +kernel⟩
          exact ⟨_, _, _, _, rfl, rfl, SqL.of upd_same, hwy, .str wy, { d with why := wy }, _, rfl, s2, ⟨.inl rfl, fun _ => hok⟩, fun H'' R s hR => deed_of (d := { d with why := wy }) hR (Same_t (s2.trans s) hsa)⟩
        refine ⟨_, rfl, rfl, _, rfl, ?_⟩
        refine ite2 (fun h => ?_) (fun h11 => ?_)
        · have e : j = 11 := by
            have := dj h
            omega
          subst e
          refine ⟨_, rfl, c, 65, 40, rfl, by decide, by decide, by decide, fun l l0 l40 => ?_⟩
          obtain ⟨l, rfl⟩ : ∃ n : Nat, l = (n : Int) := ⟨l.toNat, by omega⟩
          have ll : l < d.states.length := by omega
          have nl : (d.states.map V.int).length = d.states.length := List.length_map _
          have hsl : (d.states.map V.int)[l]? = some (.int (d.states.getD l 0)) := getD_at ll
          refine ⟨_, rfl, _, _, _, _, rfl, rfl, hda', rfl, _, rfl, _, rfl, slA_of hsa fun r1 H2 s2 h1 => ?_⟩
          refine ⟨_, rfl, _, _, _, _, rfl, rfl, Same_t s2 hda', rfl, _, rfl, _, _, _, _, rfl, rfl, Same_t s2 hsa, atI_nat hsl, _, rfl, _, _, rfl, rfl, tl 1 rfl (by decide), fun q nq => ?_⟩
          have s3 := Same_new (o := .tup [.int (d.states.getD l 0 + (1 - 2 * u))]) nq
          refine catA_of (Same_t s3 h1) (SqT.of upd_same) ?_ fun r2 H4 s4 h4 => ?_
          · have c1 := cutV_length (d.states.map V.int) none (some (l : Int))
            show _ + 1 ≤ _
            omega
          · have s24 := (s2.trans s3).trans s4
            refine ⟨_, rfl, _, _, _, _, rfl, rfl, Same_t s24 hda', rfl, _, rfl, _, _, rfl, rfl, _, rfl, ?_⟩
            unfold tNoPart
            refine slA_of (Same_t s24 hsa) fun r5 H5 s5 h5 => ?_
            refine catA_of (Same_t s5 h4) h5 ?_ fun r6 H6 s6 h6 => ?_
            · have c1 := cutV_length (d.states.map V.int) none (some (l : Int))
              have c2 := cutV_length (d.states.map V.int) (some ((l : Int) + 1)) none
              rw [List.length_append]
              show _ + 1 + _ ≤ _
              omega
            · have e1 : cutV (d.states.map V.int) none (some (l : Int)) = (d.states.map V.int).take l := cut_to _ _
              have e2 : cutV (d.states.map V.int) (some ((l : Int) + 1)) none = (d.states.map V.int).drop (l + 1) := cut_from _ (l + 1)
              rw [e1, e2, set_cut (by rw [nl]; exact ll), ← List.map_set] at h6
              exact ⟨.ref r6, { d with states := d.states.set l (d.states.getD l 0 + (1 - 2 * u)) }, _, rfl, (s24.trans s5).trans s6, ⟨.inl rfl, id⟩, fun H'' R s hR => deed_of (d := { d with states := d.states.set l (d.states.getD l 0 + (1 - 2 * u)) }) hR (Same_t s h6)⟩
        obtain ⟨x, d', hx, hof, hset, hst⟩ := field_int d sa (1 - 2 * u) hs j j13 (fun e => dn h2 (by omega)) (fun e => dn h9 (by omega)) (fun e => dn h11 (by omega))
        refine ⟨_, rfl, _, rfl, _, _, _, _, rfl, rfl, hda', atI_nat hx, _, rfl, _, _, rfl, rfl, .int (x + (1 - 2 * u)), d', _, rfl, Same.refl _, hof, fun H'' R s hR => ?_⟩
        rw [hset] at hR
        exact deed_of (d := d') hR (by rw [hst]; exact Same_t s hsa)
      · rintro σ' H2 ⟨v, d', x9, rfl, s2, hof, hdp⟩
        have dl : (deedV d sa).length = 13 := rfl
        refine ⟨_, rfl, _, rfl, _, rfl, slA_of (Same_t s2 hda') fun r1 H3 s3 h3 => ?_⟩
        refine ⟨_, rfl, tl 1 rfl (by decide), fun q nq => ?_⟩
        have s4 := Same_new (o := .tup [v]) nq
        refine catA_of (Same_t s4 h3) (SqT.of upd_same) ?_ fun r5 H5 s5 h5 => ?_
        · have c1 := cutV_length (deedV d sa) none (some (j : Int))
          show _ + 1 ≤ _
          omega
        · have s25 := ((s2.trans s3).trans s4).trans s5
          refine ⟨_, rfl, _, rfl, _, _, rfl, rfl, _, rfl, ?_⟩
          unfold tNoPart
          refine slA_of (Same_t s25 hda') fun r6 H6 s6 h6 => ?_
          refine catA_of (Same_t s6 h5) h6 ?_ fun r7 H7 s7 h7 => ?_
          · have c1 := cutV_length (deedV d sa) none (some (j : Int))
            have c2 := cutV_length (deedV d sa) (some ((j : Int) + 1)) none
            rw [List.length_append]
            show _ + 1 + _ ≤ _
            omega
          · have e1 : cutV (deedV d sa) none (some (j : Int)) = (deedV d sa).take j := cut_to _ _
            have e2 : cutV (deedV d sa) (some ((j : Int) + 1)) none = (deedV d sa).drop (j + 1) := cut_from _ (j + 1)
            rw [e1, e2, set_cut (by rw [dl]; exact j13)] at h7
            have s17 := (s25.trans s6).trans s7
            have hd7 := hdp H7 r7 ((((s3.trans s4).trans s5).trans s6).trans s7) h7
            have hy7 := s17 _ _ hy
            refine ⟨_, rfl, _, rfl, _, _, _, _, rfl, rfl, SqL.of (s17 _ _ hD), hix, _, rfl, z, ys, _, k, rfl, rfl, hy7, ixN_at (by rw [yl]; omega), ?_⟩
            have sp : Spoilt rec (rec.set t (m.set k d')) := .inr (.inr ⟨t, m, k, d, d', hm, hd, rfl, hof⟩)
            have rw7 : Rows K H7 zs rec := hzs.keep (Same.tups s17) fun z _ o h => s17 _ _ h
            refine ⟨_, rfl, kk _ _ _ (Same_mut (s1.trans s17) nz0) (.lst (SqL.of (by rw [upd_ne nzD.symm]; exact s17 _ _ hD)) (Rows.dpa (rw7.put nd hzt hm hy7 ?_))) sp (sp.ok rok)⟩
            rw [List.map_set]
            exact dpa_set k (Same_dpa s17 hys) hd7
end
end K65
set_option Elab.async false
set_option linter.all false
set_option maxRecDepth 100000
set_option maxHeartbeats 4000000
/-! the plain law: the record of the house is accepted, a spoilt one is accepted if it is the same -/
namespace K65
open PySem L2
/-! equality of data -/
theorem eqv_int (i j : Int) : PyData.eqv (.int i) (.int j) = decide (i = j) := by
  simp only [PyData.eqv]
  rfl
theorem eqvAll_map {α : Type} [DecidableEq α] {f : α → PyData} (h : ∀ x y, PyData.eqv (f x) (f y) = decide (x = y)) : ∀ xs ys : List α, PyData.eqvAll (xs.map f) (ys.map f) = decide (xs = ys)
  | [], [] => by simp [PyData.eqvAll]
  | [], y :: ys => by simp [PyData.eqvAll]
  | x :: xs, [] => by simp [PyData.eqvAll]
  | x :: xs, y :: ys => by
    rw [List.map_cons, List.map_cons, PyData.eqvAll, h, eqvAll_map h xs ys, Bool.eq_iff_iff]
    simp
theorem eqv_ints (a b : List Int) : PyData.eqv (dInts a) (dInts b) = decide (a = b) := by
  unfold dInts
  rw [PyData.eqv, eqvAll_map eqv_int]
theorem eqv_dL (a b : List Int) : PyData.eqv (dL a) (dL b) = decide (a = b) := by
  unfold dL
  rw [PyData.eqv, eqvAll_map eqv_int]
theorem head6_eq (d e : Deed) : PyData.eqv (head6 d) (head6 e) = true ↔ d.price = e.price ∧ d.came = e.came ∧ d.brk = e.brk ∧ d.due = e.due ∧ d.want = e.want ∧ d.limit = e.limit := by
  unfold head6
  simp [PyData.eqv, PyData.eqvAll]
theorem tail6_eq (d e : Deed) : PyData.eqv (tail6 d) (tail6 e) = true ↔ d.run = e.run ∧ d.dropped = e.dropped ∧ d.why = e.why ∧ d.need = e.need ∧ d.states = e.states ∧ d.cost = e.cost := by
  unfold tail6
  simp only [PyData.eqv, PyData.eqvAll, eqv_ints]
  simp
theorem eqv_deed (d e : Deed) : PyData.eqv (dDeed d) (dDeed e) = decide (d = e) := by
  rw [Bool.eq_iff_iff]
  unfold dDeed
  simp only [PyData.eqv, PyData.eqvAll, eqv_ints]
  cases d
  cases e
  simp
theorem eqv_mom (a b : List Deed) : PyData.eqv (dMom a) (dMom b) = decide (a = b) := by
  unfold dMom
  rw [PyData.eqv, eqvAll_map eqv_deed]
theorem eqv_rec (a b : Recd) : PyData.eqv (dRec a) (dRec b) = decide (a = b) := by
  unfold dRec
  rw [PyData.eqv, eqvAll_map eqv_mom]
/-! what is given, one by one -/
theorem before_tri {ws gs : List Int} {a b c : Nat} (hw : ∀ i, i < ws.length → 1 ≤ ws.getD i 0) (ha : a < ws.length) (hb : b < ws.length) (hc : c < ws.length) (h1 : before ws gs a b = true) (h2 : before ws gs b c = true) : before ws gs a c = true := by
  have u := hw a ha
  have v := hw b hb
  have w := hw c hc
  unfold before at *
  simp only [Bool.or_eq_true, Bool.and_eq_true, decide_eq_true_eq] at *
  generalize gs.getD a 0 = x at *
  generalize gs.getD b 0 = y at *
  generalize gs.getD c 0 = z at *
  generalize ws.getD a 0 = p at *
  generalize ws.getD b 0 = q at *
  generalize ws.getD c 0 = r at *
  have e1 : x * r * q = x * q * r := Int.mul_right_comm ..
  have e2 : z * p * q = z * q * p := Int.mul_right_comm ..
  have e3 : y * p * r = y * r * p := Int.mul_right_comm ..
  rcases h1 with h1 | ⟨h1, l1⟩
  · left
    have a1 : x * q * r < y * p * r := Int.mul_lt_mul_of_pos_right h1 (by omega)
    have a2 : y * r * p ≤ z * q * p := by
      rcases h2 with h2 | ⟨h2, _⟩
      · exact Int.mul_le_mul_of_nonneg_right (Int.le_of_lt h2) (by omega)
      · rw [h2]
        exact Int.le_refl _
    exact Int.lt_of_mul_lt_mul_right (a := q) (by omega) (by omega)
  · rcases h2 with h2 | ⟨h2, l2⟩
    · left
      have a1 : x * q * r = y * p * r := by rw [h1]
      have a2 : y * r * p < z * q * p := Int.mul_lt_mul_of_pos_right h2 (by omega)
      exact Int.lt_of_mul_lt_mul_right (a := q) (by omega) (by omega)
    · right
      refine ⟨?_, by omega⟩
      have a1 : x * q * r = y * p * r := by rw [h1]
      have a2 : y * r * p = z * q * p := by rw [h2]
      exact Int.eq_of_mul_eq_mul_right (a := q) (by omega) (by omega)
theorem before_tot {ws gs : List Int} {a b : Nat} (h : ¬ before ws gs a b = true) (l : b < a) : before ws gs b a = true := by
  unfold before at *
  simp only [Bool.or_eq_true, Bool.and_eq_true, decide_eq_true_eq] at *
  omega
theorem nextN_none {wants ws gs : List Int} : ∀ {n : Nat}, nextN wants ws gs n = none → ∀ i, i < n → ¬ gs.getD i 0 < wants.getD i 0
  | 0, _, i, h => absurd h (Nat.not_lt_zero i)
  | n + 1, h, i, hi => by
    unfold nextN at h
    split at h
    · cases h
    · next hc =>
      rcases Nat.lt_succ_iff_lt_or_eq.mp hi with hi | rfl
      · exact nextN_none h i hi
      · intro hl
        apply hc
        unfold claims
        rw [h, decide_eq_true hl]
        rfl
theorem nextN_some {wants ws gs : List Int} (hw : ∀ i, i < ws.length → 1 ≤ ws.getD i 0) : ∀ {n m : Nat}, n ≤ ws.length → nextN wants ws gs n = some m → m < n ∧ gs.getD m 0 < wants.getD m 0 ∧ ∀ i, i < n → gs.getD i 0 < wants.getD i 0 → i ≠ m → before ws gs m i = true
  | 0, m, _, h => by cases h
  | n + 1, m, hn, h => by
    unfold nextN at h
    split at h
    · next hc =>
      cases h
      unfold claims at hc
      rw [Bool.and_eq_true, decide_eq_true_eq] at hc
      refine ⟨Nat.lt_succ_self _, hc.1, fun i hi hl hne => ?_⟩
      have hi' : i < n := by omega
      cases hb : nextN wants ws gs n with
      | none => exact absurd hl (nextN_none hb i hi')
      | some j =>
        have hc2 := hc.2
        rw [hb] at hc2
        have hc2' : before ws gs n j = true := hc2
        obtain ⟨j1, j2, j3⟩ := nextN_some hw (by omega) hb
        by_cases e : i = j
        · rw [e]
          exact hc2'
        · exact before_tri hw (by omega) (by omega) (by omega) hc2' (j3 i hi' hl e)
    · next hc =>
      obtain ⟨j1, j2, j3⟩ := nextN_some hw (by omega) h
      refine ⟨by omega, j2, fun i hi hl hne => ?_⟩
      rcases Nat.lt_succ_iff_lt_or_eq.mp hi with hi | rfl
      · exact j3 i hi hl hne
      · refine before_tot (fun hb => hc ?_) j1
        unfold claims
        rw [h, decide_eq_true hl]
        exact hb
theorem sum_set : ∀ {gs : List Int} {m : Nat} (x : Int), m < gs.length → (gs.set m x).sum = gs.sum - gs.getD m 0 + x
  | [], m, x, h => absurd h (Nat.not_lt_zero m)
  | g :: gs, 0, x, _ => by
    show (x :: gs).sum = (g :: gs).sum - g + x
    rw [List.sum_cons, List.sum_cons]
    omega
  | g :: gs, m + 1, x, h => by
    show (g :: gs.set m x).sum = (g :: gs).sum - gs.getD m 0 + x
    rw [List.sum_cons, List.sum_cons, sum_set x (Nat.lt_of_succ_lt_succ h)]
    omega
theorem getD_set {gs : List Int} {m i : Nat} {x : Int} (h : m < gs.length) : (gs.set m x).getD i 0 = if i = m then x else gs.getD i 0 := by
  rw [List.getD_eq_getElem?_getD, List.getD_eq_getElem?_getD, List.getElem?_set]
  by_cases e : m = i
  · subst e
    rw [if_pos rfl, if_pos h, if_pos rfl]
    rfl
  · rw [if_neg e, if_neg (fun q => e q.symm)]
def fairP (ws gs : List Int) (a b : Nat) : Prop := (gs.getD b 0 - 1) * ws.getD a 0 < gs.getD a 0 * ws.getD b 0 ∨ ((gs.getD b 0 - 1) * ws.getD a 0 = gs.getD a 0 * ws.getD b 0 ∧ b < a)
structure Fair (wants ws gs : List Int) : Prop where
  len : gs.length = wants.length
  range : ∀ i, i < wants.length → 0 ≤ gs.getD i 0 ∧ gs.getD i 0 ≤ wants.getD i 0
  fair : ∀ a b, a < wants.length → b < wants.length → a ≠ b → gs.getD a 0 < wants.getD a 0 → 1 ≤ gs.getD b 0 → fairP ws gs a b
theorem getD_rep (n i : Nat) : (List.replicate n (0 : Int)).getD i 0 = 0 := by
  rw [List.getD_eq_getElem?_getD, List.getElem?_replicate]
  split <;> rfl
theorem sum_rep : ∀ n : Nat, (List.replicate n (0 : Int)).sum = 0
  | 0 => rfl
  | n + 1 => by rw [List.replicate_succ, List.sum_cons, sum_rep n]; rfl
theorem sharesN_fair {wants ws : List Int} (hl : ws.length = wants.length) (hw : ∀ i, i < ws.length → 1 ≤ ws.getD i 0) (h0 : ∀ i, i < wants.length → 0 ≤ wants.getD i 0) :
    ∀ k : Nat, Fair wants ws (sharesN wants ws k) ∧ (sharesN wants ws k).sum ≤ (k : Int) ∧ ((sharesN wants ws k).sum = (k : Int) ∨ nextN wants ws (sharesN wants ws k) wants.length = none)
  | 0 => by
    have e : ∀ i, (sharesN wants ws 0).getD i 0 = 0 := fun i => getD_rep _ i
    refine ⟨⟨sharesN_len wants ws 0, fun i hi => ?_, fun a b _ _ _ _ h1 => ?_⟩, ?_, .inl ?_⟩
    · rw [e i]
      exact ⟨Int.le_refl _, h0 i hi⟩
    · rw [e b] at h1
      omega
    · exact Int.le_of_eq (sum_rep _)
    · exact sum_rep _
  | k + 1 => by
    obtain ⟨f, s1, s2⟩ := sharesN_fair hl hw h0 k
    show Fair wants ws (giveTo wants ws (sharesN wants ws k)) ∧ (giveTo wants ws (sharesN wants ws k)).sum ≤ ((k + 1 : Nat) : Int) ∧ ((giveTo wants ws (sharesN wants ws k)).sum = ((k + 1 : Nat) : Int) ∨ nextN wants ws (giveTo wants ws (sharesN wants ws k)) wants.length = none)
    revert f s1 s2
    generalize sharesN wants ws k = gs
    intro f s1 s2
    unfold giveTo
    cases hb : nextN wants ws gs wants.length with
    | none => exact ⟨f, by show gs.sum ≤ _; omega, .inr hb⟩
    | some m =>
      obtain ⟨m1, m2, m3⟩ := nextN_some hw (by omega) hb
      have mg : m < gs.length := by rw [f.len]; exact m1
      have hs := sum_set (gs.getD m 0 + 1) mg
      have gd := fun i => getD_set (i := i) (x := gs.getD m 0 + 1) mg
      have sk : gs.sum = (k : Int) := by
        rcases s2 with h | h
        · exact h
        · rw [hb] at h
          cases h
      refine ⟨⟨by rw [List.length_set]; exact f.len, fun i hi => ?_, fun a b ha hb' hab hlt hge => ?_⟩, ?_, .inl ?_⟩
      · show 0 ≤ (gs.set m (gs.getD m 0 + 1)).getD i 0 ∧ (gs.set m (gs.getD m 0 + 1)).getD i 0 ≤ _
        rw [gd i]
        have := f.range i hi
        split
        · next e =>
          subst e
          omega
        · exact this
      · have hlt' : (gs.set m (gs.getD m 0 + 1)).getD a 0 < wants.getD a 0 := hlt
        have hge' : 1 ≤ (gs.set m (gs.getD m 0 + 1)).getD b 0 := hge
        show fairP ws (gs.set m (gs.getD m 0 + 1)) a b
        unfold fairP
        rw [gd a] at hlt'
        rw [gd b] at hge'
        rw [gd a, gd b]
        by_cases eb : b = m
        · subst eb
          rw [if_pos rfl, if_neg hab]
          rw [if_neg hab] at hlt'
          have h := m3 a ha hlt' hab
          unfold before at h
          simp only [Bool.or_eq_true, Bool.and_eq_true, decide_eq_true_eq] at h
          rw [Int.add_sub_cancel]
          exact h
        · rw [if_neg eb]
          rw [if_neg eb] at hge'
          by_cases ea : a = m
          · subst ea
            rw [if_pos rfl]
            left
            have h := f.fair a b ha hb' hab m2 hge'
            have wb := hw b (by omega)
            have e : (gs.getD a 0 + 1) * ws.getD b 0 = gs.getD a 0 * ws.getD b 0 + ws.getD b 0 := by rw [Int.add_mul, Int.one_mul]
            rw [e]
            unfold fairP at h
            omega
          · rw [if_neg ea]
            rw [if_neg ea] at hlt'
            exact f.fair a b ha hb' hab hlt' hge'
      · show (gs.set m (gs.getD m 0 + 1)).sum ≤ _
        omega
      · show (gs.set m (gs.getD m 0 + 1)).sum = _
        omega
theorem zip_all {f : Int × Int → Bool} {gs wants : List Int} (hl : gs.length = wants.length) : (List.zip gs wants).all f = true ↔ ∀ i, i < wants.length → f (gs.getD i 0, wants.getD i 0) = true := by
  rw [List.all_eq_true]
  constructor
  · intro h i hi
    refine h _ ?_
    have e : (List.zip gs wants)[i]? = some (gs.getD i 0, wants.getD i 0) := by
      rw [List.getElem?_zip_eq_some, List.getD_eq_getElem?_getD, List.getD_eq_getElem?_getD, List.getElem?_eq_getElem hi, List.getElem?_eq_getElem (by omega)]
      exact ⟨rfl, rfl⟩
    exact List.mem_of_getElem? e
  · intro h p hp
    obtain ⟨i, hi⟩ := List.getElem?_of_mem hp
    obtain ⟨h1, h2⟩ := List.getElem?_zip_eq_some.mp hi
    have := h i (List.getElem?_eq_some_iff.mp h2).1
    rw [List.getD_eq_getElem?_getD, List.getD_eq_getElem?_getD, h1, h2] at this
    exact this
theorem inRange_iff {wants gs : List Int} (hl : gs.length = wants.length) : inRange wants gs = true ↔ ∀ i, i < wants.length → 0 ≤ gs.getD i 0 ∧ gs.getD i 0 ≤ wants.getD i 0 := by
  unfold inRange
  rw [zip_all hl]
  constructor
  · intro h i hi
    have := h i hi
    simp at this
    simpa using this
  · intro h i hi
    have := h i hi
    simp
    simpa using this
theorem list_eq {gs wants : List Int} (hl : gs.length = wants.length) (h : ∀ i, i < wants.length → gs.getD i 0 = wants.getD i 0) : gs = wants := by
  refine List.ext_getElem hl fun i h1 h2 => ?_
  have := h i h2
  rw [getD_lt h1, getD_lt h2] at this
  exact this
theorem accS_shares {quota : Int} {wants ws : List Int} (q0 : 0 ≤ quota) (hl : ws.length = wants.length) (hw : ∀ i, i < ws.length → 1 ≤ ws.getD i 0) (h0 : ∀ i, i < wants.length → 0 ≤ wants.getD i 0) : accS quota wants ws (sharesN wants ws quota.toNat) = true := by
  obtain ⟨f, s1, s2⟩ := sharesN_fair hl hw h0 quota.toNat
  have eq : ((quota.toNat : Nat) : Int) = quota := by omega
  rw [eq] at s1 s2
  revert f s1 s2
  generalize sharesN wants ws quota.toNat = gs
  intro f s1 s2
  unfold accS
  rw [(inRange_iff f.len).mpr f.range, Bool.true_and, Bool.and_eq_true]
  constructor
  · unfold wrongSum
    rw [decide_eq_false (by omega), Bool.false_or]
    rcases s2 with h | h
    · rw [decide_eq_false (by omega)]
      rfl
    · have e : gs = wants := list_eq f.len fun i hi => by
        have a := nextN_none h i hi
        have b := f.range i hi
        omega
      rw [e, eqv_dL, decide_eq_true rfl]
      simp
  · unfold allFair
    rw [List.all_eq_true]
    intro a ha
    rw [List.all_eq_true]
    intro b hb
    have ha' := List.mem_range.mp ha
    have hb' := List.mem_range.mp hb
    unfold fairB
    by_cases c : a = b ∨ wants.getD a 0 ≤ gs.getD a 0 ∨ gs.getD b 0 < 1
    · rw [if_pos c]
    · rw [if_neg c]
      have h := f.fair a b ha' hb' (fun e => c (.inl e)) (by omega) (by omega)
      unfold fairP at h
      simp only [Bool.or_eq_true, Bool.and_eq_true, decide_eq_true_eq]
      exact h
/-- one place other by one: not accepted -/
theorem accS_other {quota : Int} {wants ws gs : List Int} {k : Nat} {s : Int} (hl : gs.length = wants.length) (hk : k < wants.length) (hs : s = 1 ∨ s = -1) (h1 : accS quota wants ws gs = true) (h2 : accS quota wants ws (gs.set k (gs.getD k 0 + s)) = true) : False := by
  have kg : k < gs.length := by omega
  have hl2 : (gs.set k (gs.getD k 0 + s)).length = wants.length := by rw [List.length_set]; exact hl
  unfold accS at h1 h2
  rw [Bool.and_eq_true, Bool.and_eq_true] at h1 h2
  have r1 := (inRange_iff hl).mp h1.1 k hk
  have r2 := (inRange_iff hl2).mp h2.1 k hk
  rw [getD_set kg, if_pos rfl] at r2
  have w1 := h1.2.1
  have w2 := h2.2.1
  unfold wrongSum at w1 w2
  rw [eqv_dL, Bool.not_eq_true', Bool.or_eq_false_iff, Bool.and_eq_false_iff] at w1 w2
  have sm := sum_set (gs.getD k 0 + s) kg
  have a1 := of_decide_eq_false w1.1
  have a2 := of_decide_eq_false w2.1
  rcases hs with rfl | rfl
  · rcases w1.2 with h | h
    · have := of_decide_eq_false h
      omega
    · rw [Bool.not_eq_false'] at h
      have e : gs = wants := of_decide_eq_true h
      rw [e] at r2
      omega
  · rcases w2.2 with h | h
    · have := of_decide_eq_false h
      omega
    · rw [Bool.not_eq_false'] at h
      have e : gs.set k (gs.getD k 0 + -1) = wants := of_decide_eq_true h
      have e2 : (gs.set k (gs.getD k 0 + -1)).getD k 0 = wants.getD k 0 := by rw [e]
      rw [getD_set kg, if_pos rfl] at e2
      omega
end K65
set_option Elab.async false
set_option linter.all false
set_option maxRecDepth 100000
set_option maxHeartbeats 4000000
namespace K65
open PySem L2
theorem isDeedB_iff {s : Serv} {least : Int} {q : QS} {p : PoolS} {r : Row} {d : Deed} : isDeedB s least q p r d = true ↔ 0 ≤ d.given ∧ d.given ≤ (deedOf s least q p r d.given).limit ∧ d = deedOf s least q p r d.given := by
  unfold isDeedB
  rw [Bool.and_eq_true, Bool.and_eq_true, Bool.and_eq_true, head6_eq, tail6_eq]
  constructor
  · rintro ⟨⟨a1, a2, a3, a4, a5, a6⟩, b1, b2, c1, c2, c3, c4, c5, c6⟩
    have b1' := of_decide_eq_false (Bool.not_eq_true' _ ▸ b1 : decide (d.given < 0) = false)
    have b2' := of_decide_eq_false (Bool.not_eq_true' _ ▸ b2 : decide ((deedOf s least q p r d.given).limit < d.given) = false)
    refine ⟨by omega, by omega, ?_⟩
    have hg : d.given = (deedOf s least q p r d.given).given := rfl
    revert a1 a2 a3 a4 a5 a6 c1 c2 c3 c4 c5 c6 hg
    generalize deedOf s least q p r d.given = e
    intro a1 a2 a3 a4 a5 a6 c1 c2 c3 c4 c5 c6 hg
    cases d
    cases e
    simp only at *
    simp [*]
  · rintro ⟨h1, h2, h3⟩
    have b1 : decide (d.given < 0) = false := decide_eq_false (by omega)
    have b2 : decide ((deedOf s least q p r d.given).limit < d.given) = false := decide_eq_false (by omega)
    rw [b1, b2]
    have e : ∀ e : Deed, d = e → (d.price = e.price ∧ d.came = e.came ∧ d.brk = e.brk ∧ d.due = e.due ∧ d.want = e.want ∧ d.limit = e.limit) ∧ (d.run = e.run ∧ d.dropped = e.dropped ∧ d.why = e.why ∧ d.need = e.need ∧ d.states = e.states ∧ d.cost = e.cost) := fun e h => by
      rw [h]
      exact ⟨⟨rfl, rfl, rfl, rfl, rfl, rfl⟩, rfl, rfl, rfl, rfl, rfl, rfl⟩
    have e' := e _ h3
    exact ⟨e'.1, rfl, rfl, e'.2⟩
theorem getD_range {α : Type} [Inhabited α] {f : Nat → α} {n k : Nat} (h : k < n) : ((List.range n).map f).getD k default = f k := getD_some (range_at h)
theorem getD_mem {xs : List Int} {i : Nat} (h : i < xs.length) : xs.getD i 0 ∈ xs := by
  rw [getD_lt h]
  exact List.getElem_mem h
theorem weights_ok {S : Sett} (ok : S.Ok) : ∀ i, i < (wsM S).length → 1 ≤ (wsM S).getD i 0 := fun i hi => by
  have hm : (wsM S).getD i 0 ∈ S.servs.map fun s => s.weight := getD_mem hi
  obtain ⟨s, hs, e⟩ := List.mem_map.mp hm
  rw [← e]
  exact (ok.servs s hs).weight.1
theorem limK_nn (S : Sett) (st : StF) (e : List Row) (k : Nat) : 0 ≤ limK S st e k := by
  unfold limK limOf PoolS.lim
  exact Int.natCast_nonneg _
theorem limsM_nn (S : Sett) (st : StF) (e : List Row) : ∀ i, i < (limsM S st e).length → 0 ≤ (limsM S st e).getD i 0 := fun i hi => by
  have hm : (limsM S st e).getD i 0 ∈ (List.range S.servs.length).map (limK S st e) := getD_mem hi
  obtain ⟨k, _, e⟩ := List.mem_map.mp hm
  rw [← e]
  exact limK_nn ..
theorem givM_fair {S : Sett} (ok : S.Ok) (st : StF) (e : List Row) : Fair (limsM S st e) (wsM S) (givM S st e) := by
  refine (sharesN_fair ?_ (weights_ok ok) (limsM_nn S st e) _).1
  rw [limsM_len]
  unfold wsM
  rw [List.length_map]
theorem limsM_at {S : Sett} {st : StF} {e : List Row} {k : Nat} (h : k < S.servs.length) : (limsM S st e).getD k 0 = limK S st e k := by
  rw [List.getD_eq_getElem?_getD]
  unfold limsM
  rw [range_at h]
  rfl
theorem deeds_recF {S : Sett} (ok : S.Ok) {k : Nat} (hk : k < S.servs.length) : ∀ (led : Led) (now : Nat) (st : StF), deedsF S (servAt S k) k now (st k).1 (st k).2 led (recF S now st led) = true
  | [], now, st => rfl
  | e :: es, now, st => by
    show (isDeedB (servAt S k) (keptF S.keeps (servAt S k).name (now : Int)) (st k).1 (st k).2 (e.getD k default) ((momM S now st e).getD k default) &&
      deedsF S (servAt S k) k (now + 1) (nextQ (servAt S k) (st k).1 (e.getD k default) ((momM S now st e).getD k default).given) (nextP (servAt S k) (keptF S.keeps (servAt S k).name (now : Int)) (st k).2 (e.getD k default) ((momM S now st e).getD k default).given) es (recF S (now + 1) (stM S now st e) es)) = true
    have hm : (momM S now st e).getD k default = deedK S now st e k := getD_range hk
    rw [hm, Bool.and_eq_true]
    have r := (givM_fair ok st e).range k (by rw [limsM_len]; exact hk)
    rw [limsM_at hk] at r
    refine ⟨isDeedB_iff.mpr ⟨r.1, r.2, rfl⟩, ?_⟩
    exact deeds_recF ok hk es (now + 1) (stM S now st e)
theorem map_given (S : Sett) (now : Nat) (st : StF) (e : List Row) : (momM S now st e).map (fun d => d.given) = givM S st e := by
  refine list_eq ?_ fun i hi => ?_
  · unfold momM
    rw [List.length_map, List.length_map, List.length_range, givM_len]
  · rw [givM_len] at hi
    unfold momM
    rw [List.map_map, List.getD_eq_getElem?_getD, range_at hi]
    rfl
theorem map_limit (S : Sett) (now : Nat) (st : StF) (e : List Row) : (momM S now st e).map (fun d => d.limit) = limsM S st e := by
  unfold momM limsM
  rw [List.map_map]
  rfl
theorem share_momM {S : Sett} (ok : S.Ok) (now : Nat) (st : StF) (e : List Row) : shareB S (momM S now st e) = true := by
  unfold shareB
  rw [map_given, map_limit]
  refine accS_shares ok.quota.1 ?_ (weights_ok ok) (limsM_nn S st e)
  rw [limsM_len]
  exact List.length_map _
theorem recF_len (S : Sett) : ∀ (led : Led) (now : Nat) (st : StF), (recF S now st led).length = led.length
  | [], _, _ => rfl
  | e :: es, now, st => congrArg (· + 1) (recF_len S es (now + 1) (stM S now st e))
def StOk (S : Sett) (st : StF) : Prop := ∀ k, (st k).2.Ok (servAt S k).tar
theorem st0_ok (S : Sett) : StOk S (st0 S) := fun k => PoolS.new_ok _
theorem stM_ok {S : Sett} {st : StF} (h : StOk S st) (now : Nat) (e : List Row) : StOk S (stM S now st e) := fun k => nextP_ok (h k) _ _ _
structure MomOk (S : Sett) (m : List Deed) : Prop where
  len : m.length = S.servs.length
  share : shareB S m = true
  each : ∀ d ∈ m, d.states.length = 40 ∧ PyData.strOk d.why = true
theorem momM_ok {S : Sett} (ok : S.Ok) {st : StF} (h : StOk S st) (now : Nat) (e : List Row) : MomOk S (momM S now st e) := by
  refine ⟨?_, share_momM ok now st e, fun d hd => ?_⟩
  · unfold momM
    rw [List.length_map, List.length_range]
  · obtain ⟨k, _, rfl⟩ := List.mem_map.mp hd
    refine ⟨?_, reason_ok ..⟩
    show ((PoolS.step _ _ _ _).states).length = 40
    unfold PoolS.states
    rw [List.length_map]
    exact (PoolS.step_ok (h k) _ _).len
theorem recF_ok {S : Sett} (ok : S.Ok) : ∀ (led : Led) (now : Nat) (st : StF), StOk S st → ∀ m ∈ recF S now st led, MomOk S m
  | [], _, _, _, m, hm => by cases hm
  | e :: es, now, st, h, m, hm => by
    rcases List.mem_cons.mp hm with rfl | hm
    · exact momM_ok ok h now e
    · exact recF_ok ok es (now + 1) (stM S now st e) (stM_ok h now e) m hm
theorem recH_len (S : Sett) (led : Led) : (recH S led).length = led.length := recF_len S led 0 (st0 S)
theorem recH_mom {S : Sett} (ok : S.Ok) (led : Led) : ∀ m ∈ recH S led, MomOk S m := recF_ok ok led 0 (st0 S) (st0_ok S)
theorem recH_ok {S : Sett} (ok : S.Ok) {led : Led} (h : led.length ≤ 500) : RecOk (recH S led) :=
  ⟨by rw [recH_len]; exact h, fun m hm => by
    have q := recH_mom ok led m hm
    have := ok.few
    exact ⟨by rw [q.len]; omega, fun d hd => (q.each d hd).2⟩⟩
theorem shape_iff {n : Nat} {led : Led} {rec : Recd} : shapeB n led rec = true ↔ rec.length = led.length ∧ ∀ m ∈ rec, m.length = n := by
  unfold shapeB
  rw [Bool.and_eq_true, decide_eq_true_eq, List.all_eq_true]
  exact ⟨fun h => ⟨h.1, fun m hm => of_decide_eq_true (h.2 m hm)⟩, fun h => ⟨h.1, fun m hm => decide_eq_true (h.2 m hm)⟩⟩
theorem acc_iff {S : Sett} {led : Led} {rec : Recd} : accB S led rec = true ↔ (rec.length = led.length ∧ ∀ m ∈ rec, m.length = S.servs.length) ∧ (∀ m ∈ rec, shareB S m = true) ∧ ∀ k, k < S.servs.length → deedsB S led rec k = true := by
  unfold accB
  rw [Bool.and_eq_true, Bool.and_eq_true, shape_iff, List.all_eq_true, List.all_eq_true]
  exact ⟨fun h => ⟨h.1, h.2.1, fun k hk => h.2.2 k (List.mem_range.mpr hk)⟩, fun h => ⟨h.1, h.2.1, fun k hk => h.2.2 k (List.mem_range.mp hk)⟩⟩
/-- the record of the house is accepted -/
theorem acc_house {S : Sett} (ok : S.Ok) (led : Led) : accB S led (recH S led) = true :=
  acc_iff.mpr ⟨⟨recH_len S led, fun m hm => (recH_mom ok led m hm).len⟩, fun m hm => (recH_mom ok led m hm).share, fun k hk => deeds_recF ok hk led 0 (st0 S)⟩
/-- what is given tells the deeds -/
theorem same_given {S : Sett} {s : Serv} {k : Nat} : ∀ {led : Led} {rec rec' : Recd} {now : Nat} {q : QS} {p : PoolS}, rec.length = led.length → rec'.length = led.length → deedsF S s k now q p led rec = true → deedsF S s k now q p led rec' = true →
    (∀ (t : Nat) (m m' : List Deed), rec[t]? = some m → rec'[t]? = some m' → (m.getD k default).given = (m'.getD k default).given) → ∀ (t : Nat) (m m' : List Deed), rec[t]? = some m → rec'[t]? = some m' → m.getD k default = m'.getD k default
  | [], [], _, _, _, _, _, _, _, _, _, t, m, m', h, _ => by cases h
  | [], _ :: _, _, _, _, _, h, _, _, _, _, _, _, _, _, _ => by cases h
  | _ :: _, [], _, _, _, _, h, _, _, _, _, _, _, _, _, _ => by cases h
  | _ :: _, _ :: _, [], _, _, _, _, h, _, _, _, _, _, _, _, _ => by cases h
  | e :: es, a :: as, b :: bs, now, q, p, h1, h2, d1, d2, hg, t, m, m', ht, ht' => by
    have d1' : (isDeedB s (keptF S.keeps s.name (now : Int)) q p (e.getD k default) (a.getD k default) &&
      deedsF S s k (now + 1) (nextQ s q (e.getD k default) (a.getD k default).given) (nextP s (keptF S.keeps s.name (now : Int)) p (e.getD k default) (a.getD k default).given) es as) = true := d1
    have d2' : (isDeedB s (keptF S.keeps s.name (now : Int)) q p (e.getD k default) (b.getD k default) &&
      deedsF S s k (now + 1) (nextQ s q (e.getD k default) (b.getD k default).given) (nextP s (keptF S.keeps s.name (now : Int)) p (e.getD k default) (b.getD k default).given) es bs) = true := d2
    rw [Bool.and_eq_true] at d1' d2'
    have g0 := hg 0 a b rfl rfl
    have i1 := (isDeedB_iff.mp d1'.1).2.2
    have i2 := (isDeedB_iff.mp d2'.1).2.2
    cases t with
    | zero =>
      cases ht
      cases ht'
      rw [i1, i2, g0]
    | succ t =>
      have r2 := d2'.2
      rw [← g0] at r2
      exact same_given (Nat.succ.inj h1) (Nat.succ.inj h2) d1'.2 r2 (fun t m m' x y => hg (t + 1) m m' x y) t m m' ht ht'
theorem getD_set_self {α : Type} {xs : List α} {k : Nat} {x d : α} (h : k < xs.length) : (xs.set k x).getD k d = x := by
  rw [List.getD_eq_getElem?_getD, List.getElem?_set, if_pos rfl, if_pos h]
  rfl
theorem set_same {α : Type} {xs : List α} {k : Nat} {x : α} (h : xs[k]? = some x) : xs.set k x = xs := set_self h
/-- a spoilt record is accepted if it is the same -/
theorem acc_spoilt {S : Sett} {led : Led} {rec other : Recd} (n1 : 1 ≤ S.servs.length) (h : accB S led rec = true) (sp : Spoilt rec other) : accB S led other = decide (other = rec) := by
  by_cases e : other = rec
  · rw [e, h]
    exact (decide_eq_true rfl).symm
  rw [decide_eq_false e]
  refine Bool.eq_false_iff.mpr fun h2 => e ?_
  obtain ⟨⟨l1, w1⟩, s1, d1⟩ := acc_iff.mp h
  obtain ⟨⟨l2, w2⟩, s2, d2⟩ := acc_iff.mp h2
  rcases sp with ⟨t, ht, rfl⟩ | ⟨t, m, hm, rfl⟩ | ⟨t, m, k, d, d', hm, hd, rfl, ho, _⟩
  · rw [List.length_append, List.length_take, List.length_drop] at l2
    omega
  · have ht := (List.getElem?_eq_some_iff.mp hm).1
    have a := w1 m (List.mem_of_getElem? hm)
    have b := w2 (m.drop 1) (List.mem_of_getElem? (i := t) (by rw [List.getElem?_set, if_pos rfl, if_pos ht]))
    rw [List.length_drop] at b
    omega
  · have ht := (List.getElem?_eq_some_iff.mp hm).1
    have hk := (List.getElem?_eq_some_iff.mp hd).1
    have lm := w1 m (List.mem_of_getElem? hm)
    have ht2 : (rec.set t (m.set k d'))[t]? = some (m.set k d') := by rw [List.getElem?_set, if_pos rfl, if_pos ht]
    have dk : m.getD k default = d := getD_some hd
    rcases ho with hg | ⟨s, hs, rfl⟩
    · have q := same_given (k := k) l1 l2 (d1 k (by omega)) (d2 k (by omega)) (fun t' a b ha hb => by
        rcases set_some hb with ⟨rfl, rfl⟩ | ⟨_, hb⟩
        · rw [hm] at ha
          cases ha
          rw [dk, getD_set_self hk]
          exact hg.symm
        · rw [ha] at hb
          cases hb
          rfl) t m _ hm ht2
      rw [dk, getD_set_self hk] at q
      rw [← q, set_self hd, set_self hm]
    · exfalso
      have a := s1 m (List.mem_of_getElem? hm)
      have b := s2 _ (List.mem_of_getElem? ht2)
      unfold shareB at a b
      rw [List.map_set, List.map_set] at b
      have e1 : (m.map fun d => d.limit).set k d.limit = m.map fun d => d.limit := set_self (by rw [List.getElem?_map, hd]; rfl)
      have e2 : (m.map fun d => d.given).getD k 0 = d.given := by rw [List.getD_eq_getElem?_getD, List.getElem?_map, hd]; rfl
      have b' : accS S.quota ((m.map fun d => d.limit).set k d.limit) (S.servs.map fun s => s.weight) ((m.map fun d => d.given).set k (d.given + s)) = true := b
      rw [e1, ← e2] at b'
      exact accS_other (by rw [List.length_map, List.length_map]) (by rw [List.length_map]; exact hk) hs a b'
theorem acc_short {S : Sett} {led : Led} {rec : Recd} (h : rec.length = led.length) (l : led ≠ []) : accB S (led.drop 1) rec = false := by
  refine Bool.eq_false_iff.mpr fun h2 => ?_
  have e := (acc_iff.mp h2).1.1
  rw [List.length_drop] at e
  have := List.length_pos_iff.mpr l
  omega
theorem acc_nil (S : Sett) : accB S [] [] = true := acc_iff.mpr ⟨⟨rfl, fun m hm => (by cases hm)⟩, fun m hm => (by cases hm), fun k _ => rfl⟩
theorem lay_map {α : Type} {f : α → PyData} : ∀ {xs : List α}, (∀ x ∈ xs, PyData.canLay0 (f x) = true) → PyData.canLayAll0 (xs.map f) = true
  | [], _ => rfl
  | x :: xs, h => by
    show (PyData.canLay0 (f x) && PyData.canLayAll0 (xs.map f)) = true
    rw [h x (.head _), lay_map fun y hy => h y (.tail _ hy)]
    rfl
theorem depth_map {α : Type} {f : α → PyData} {n : Nat} : ∀ {xs : List α}, (∀ x ∈ xs, PyData.depth (f x) ≤ n) → PyData.depthAll (xs.map f) ≤ n
  | [], _ => Nat.zero_le _
  | x :: xs, h => by
    show max (PyData.depth (f x)) (PyData.depthAll (xs.map f)) ≤ n
    exact Nat.max_le.mpr ⟨h x (.head _), depth_map fun y hy => h y (.tail _ hy)⟩
theorem deed_lay {d : Deed} (h : PyData.strOk d.why = true) : PyData.canLay0 (dDeed d) = true ∧ PyData.depth (dDeed d) ≤ 2 := by
  obtain ⟨h1, h2⟩ := dInts_lay d.states
  constructor
  · show (true && (true && (true && (true && (true && (true && (true && (true && (true && (PyData.strOk d.why && (true && (PyData.canLay0 (dInts d.states) && (true && true))))))))))))) = true
    rw [h, h1]
    rfl
  · show (max 0 (max 0 (max 0 (max 0 (max 0 (max 0 (max 0 (max 0 (max 0 (max 0 (max 0 (max (PyData.depth (dInts d.states)) (max 0 0))))))))))))) + 1 ≤ 2
    rw [h2]
    decide
theorem mom_lay {m : List Deed} (h : ∀ d ∈ m, PyData.strOk d.why = true) : PyData.canLay0 (dMom m) = true ∧ PyData.depth (dMom m) ≤ 3 := by
  constructor
  · exact lay_map fun d hd => (deed_lay (h d hd)).1
  · show PyData.depthAll (m.map dDeed) + 1 ≤ 3
    have := depth_map (f := dDeed) (n := 2) (xs := m) fun d hd => (deed_lay (h d hd)).2
    omega
/-- the record can be told as data -/
theorem shaped_rec {rec : Recd} (h : RecOk rec) : SeqAt.shaped (dRec rec) = true := by
  have a : PyData.canLayAll0 (rec.map dMom) = true := lay_map fun m hm => (mom_lay (h.each m hm).2).1
  have b := depth_map (f := dMom) (n := 3) (xs := rec) fun m hm => (mom_lay (h.each m hm).2).2
  show (PyData.canLayAll0 (rec.map dMom) && decide (PyData.depthAll (rec.map dMom) + 1 ≤ 64)) = true
  rw [a, decide_eq_true (by omega)]
  rfl
end K65
set_option Elab.async false
set_option linter.all false
set_option maxRecDepth 100000
set_option maxHeartbeats 4000000
namespace K65
open PySem L2
theorem cut_cells (ns : List Int) : ∃ cs : List Int, cutV (ns.map V.int) (some 3) (some 28) = cs.map V.int ∧ cs.length ≤ 25 := by
  refine ⟨(ns.drop (HT.sIx ns.length 0 (some 3))).take (HT.sIx ns.length ns.length (some 28) - HT.sIx ns.length 0 (some 3)), ?_, ?_⟩
  · unfold cutV
    rw [List.length_map, List.map_take, List.map_drop]
  · have e1 : HT.sIx ns.length 0 (some 3) = min 3 ns.length := HT.sIx_nat _ _ 3
    have e2 : HT.sIx ns.length ns.length (some 28) = min 28 ns.length := HT.sIx_nat _ _ 28
    rw [e1, e2, List.length_take]
    omega
section
variable {P : Program} {w : World} {K : PySem.W.Frag} {mg : Str → Option Value} {base : Heap} {B H H1 : Hp}
theorem HouseI.ob {T : Ctx K mg} {h : Addr} {S : Sett} {now : Nat} {st : StF} {rec : Recd} (x : HouseI T B H h S now st rec) : ∃ dx sv q p e d, H h = some (.ins T.c_House dx (houseF sv q p e d)) := by
  obtain ⟨aq, ap, ae, ad, cells, fz, vs, h1, h2, ⟨dx, sv, h3⟩, _⟩ := x
  exact ⟨dx, sv, _, _, _, _, h3⟩
def sp_law (T : Ctx K mg) : Sp := fun vs H Q _ => ∃ (a : Addr) (ns : List Int), vs = [.ref a] ∧ SqL K H a (ns.map V.int) ∧ ∀ H', Q (.bl true) H'
theorem ok_law (T : Ctx K mg) : FnOk P w K mg base CX0 12 T.a_law T.fd_law ["_law_script"] (sp_law T) := by
  have G_l_house := ok_l_house (P := P) (w := w) (base := base) T
  have G_l_ledger := ok_l_ledger (P := P) (w := w) (base := base) T
  have G_House_init := ok_House_init (P := P) (w := w) (base := base) T
  have G_House_moment := ok_House_moment (P := P) (w := w) (base := base) T
  have G_House_record := ok_House_record (P := P) (w := w) (base := base) T
  have G_accepts_record := ok_accepts_record (P := P) (w := w) (base := base) T
  have G_l_spoil_record := ok_l_spoil_record (P := P) (w := w) (base := base) T
  have G_l_is_flag := ok_l_is_flag (P := P) (w := w) (base := base) T
  refine T.F_law.ok sc_law (fun vs H Q E h => ?_) (fun cdv A outer s H vs Q E hr h => ?_)
  · obtain ⟨a, ns, rfl, hs, kk⟩ := h
    rfl
  · obtain ⟨a, ns, rfl, hs, kk⟩ := h
    refine ⟨_, PSs.nox (pss_cons (ps_set (i := 1) sc_law.nd rfl (Or.inl rfl) (pe_call G_l_house (hr.mono (by decide)) rfl T.g_l_house T.F_l_house.kp T.b_l_house .nil pass0 (pa_cons (pv 0) pa_nil)))
    (pss_cons (ps_set (i := 2) sc_law.nd rfl (Or.inl rfl) (pe_call G_l_ledger (hr.mono (by decide)) rfl T.g_l_ledger T.F_l_ledger.kp T.b_l_ledger .nil pass0 (pa_cons (pv 1) (pa_cons (pe_lc (own := [("_law_cell_here", 6)]) rfl sc_law.nd (pi_list (pe_slice sl_list (pv 0) (po_some pe_int) (po_some pe_int))) (blkOk_by (N := N_law) (sc := defScope s_law) (own := [("_law_cell_here", 6)]) (by decide +kernel)) (fun _ _ _ _ _ => (pg_name (i := 6) sc_law.nd rfl (Or.inl rfl))) (fun _ _ _ _ _ => pts_nil) (fun _ _ _ _ _ => (pe_callTy call_int1 (by rfl) T.n_int (by decide +kernel) (pa_cons (pv 6) pa_nil)))) pa_nil))))
    (pss_cons (ps_set (i := 3) sc_law.nd rfl (Or.inl rfl) (pe_make T.mk_House G_House_init (hr.mono (by decide)) rfl T.g_House T.b_House_init .nil pass0 (pa_cons (pv 1) pa_nil)))
    (pss_cons (ps_for PassesOwn.never rfl (pi_list (pv 2)) (pg_name (i := 4) sc_law.nd rfl (Or.inl rfl))
      (pss_one (ps_expr (pe_meth (pv 3) T.cl_House T.m_House_moment G_House_moment (hr.mono (by decide)) T.b_House_moment .nil pass0 (pa_cons (pv 4) pa_nil)))))
    (pss_cons (ps_set (i := 5) sc_law.nd rfl (Or.inl rfl) (pe_meth0 (pv 3) T.cl_House T.m_House_record G_House_record (hr.mono (by decide)) T.b_House_record .nil pass0))
    (pss_cons (ps_if (pt_cmpR op_notBl (pe_call G_accepts_record (hr.mono (by decide)) rfl T.g_accepts_record T.F_accepts_record.kp T.b_accepts_record .nil pass0 (pa_cons (pv 1) (pa_cons (pv 2) (pa_cons (pv 5) pa_nil)))) pe_bl (nomark _))
      (pss_one (ps_ret pe_bl))
      pss_nil)
    (pss_cons (ps_for PassesOwn.never rfl (pi_list (pe_slice sl_list (pv 0) (po_some pe_int) (po_some pe_int))) (pg_name (i := 6) sc_law.nd rfl (Or.inl rfl))
      (pss_cons (ps_set (i := 7) sc_law.nd rfl (Or.inl rfl) (pe_call G_l_spoil_record (hr.mono (by decide)) rfl T.g_l_spoil_record T.F_l_spoil_record.kp T.b_l_spoil_record .nil pass0 (pa_cons (pv 5) (pa_cons (pe_callTy call_int1 (by rfl) T.n_int (by decide +kernel) (pa_cons (pv 6) pa_nil)) pa_nil))))
      (pss_cons (ps_set (i := 8) sc_law.nd rfl (Or.inl rfl) (pe_call G_accepts_record (hr.mono (by decide)) rfl T.g_accepts_record T.F_accepts_record.kp T.b_accepts_record .nil pass0 (pa_cons (pv 1) (pa_cons (pv 2) (pa_cons (pv 7) pa_nil)))))
      (pss_one (ps_if (PW.pt (pw_or (pt_not (pt_val (pe_call G_l_is_flag (hr.mono (by decide)) rfl T.g_l_is_flag T.F_l_is_flag.kp T.b_l_is_flag .nil pass0 (pa_cons (pv 8) pa_nil)))) (pw_or1 (pt_cmpR op_ne (pv 8) (pe_cmpR (op_eqD hr.units) (pv 7) (pv 5) (nomark _)) (nomark _)))))
        (pss_one (ps_ret pe_bl))
        pss_nil)))))
    (pss_cons (ps_if (PW.pt (pw_and (pt_cmpR op_gt (pe_callB call_len_seq (by rfl) T.n_len (by decide +kernel) (pa_cons (pv 2) pa_nil)) pe_int (nomark _)) (pw_and1 (pt_cmpR op_notBl (pe_call G_accepts_record (hr.mono (by decide)) rfl T.g_accepts_record T.F_accepts_record.kp T.b_accepts_record .nil pass0 (pa_cons (pv 1) (pa_cons (pe_slice sl_list (pv 2) (po_some pe_int) po_none) (pa_cons (pv 5) pa_nil)))) pe_bl (nomark _)))))
      (pss_one (ps_ret pe_bl))
      pss_nil)
    (pss_one (ps_ret (pe_and (pe_cmpR (op_eqD hr.units) (pe_meth0 (pv 3) T.cl_House T.m_House_record G_House_record (hr.mono (by decide)) T.b_House_record .nil pass0) (pv 5) (nomark _)) (pe_one (pe_cmpR op_isBl (pe_call G_accepts_record (hr.mono (by decide)) rfl T.g_accepts_record T.F_accepts_record.kp T.b_accepts_record .nil pass0 (pa_cons (pv 1) (pa_cons (pe_lst pa_nil) (pa_cons (pe_lst pa_nil) pa_nil)))) pe_bl (nomark _)))))))))))))), ?_⟩
    obtain ⟨cs, hcs, csl⟩ := cut_cells ns
    -- setting
    refine ⟨_, rfl, a, ns, rfl, hs, fun H1 sv S s1 hS val few => ?_⟩
    have ok := val.ok
    have n1 := val.many.1
    -- ledger
    refine ⟨_, rfl, _, rfl, _, rfl, _, rfl, a, _, rfl, Same_l s1 hs, fun p np => ⟨p, rfl, ⟨_, SqL.of upd_same⟩, fun D nD => ?_⟩⟩
    have s2 := Same_new (o := .lst (cutV (ns.map V.int) (some 3) (some 28))) np
    have hp2 := upd_same (H := H1) (a := p) (o := .lst (cutV (ns.map V.int) (some 3) (some 28)))
    revert s2 hp2 nD
    generalize upd H1 p (.lst (cutV (ns.map V.int) (some 3) (some 28))) = H2
    intro nD s2 hp2
    rw [hcs] at hp2
    refine lc_list (xs := cs.map V.int) (fun i H' => Same H2 H' ∧ H' D = some (.lst ((cs.take i).map V.int))) ⟨Same_new nD, upd_same⟩ (fun i H' _ q => SqL.of (q.1 _ _ hp2)) ?_ ?_
    · rintro i x H' hi ⟨s, hD⟩
      rw [List.getElem?_map] at hi
      obtain ⟨y, hy, rfl⟩ : ∃ y, cs[i]? = some y ∧ V.int y = x := by
        cases q : cs[i]? with
        | none => rw [q] at hi; cases hi
        | some y => rw [q] at hi; cases hi; exact ⟨y, rfl, rfl⟩
      refine ⟨rfl, _, rfl, .inl ⟨_, rfl, _, hD, less_of ?_, Same_mut s nD, ?_⟩⟩
      · rw [List.length_map, List.length_take]
        omega
      · rw [take_snoc hy, List.map_append]
        exact upd_same
    rintro H3 ⟨s3, hD3⟩
    rw [List.length_map, List.take_length] at hD3
    have s13 := s2.trans s3
    refine ⟨sv, S, D, cs, rfl, Same_dp s13 hS, by omega, SqL.of hD3, by omega, fun B L xs led s4 hL hxs hlen lok => ?_⟩
    have s14 := s13.trans s4
    have hSB := Same_dp s14 hS
    have s04 := s1.trans s14
    have xl : xs.length = led.length := by rw [dpa_len hxs, List.length_map]
    have hLB : Dp K B (.ref L) (dLed led) := .lst (SqL.of hL) hxs
    -- house
    refine ⟨_, rfl, fun h dh nh ndh ndhh => ?_⟩
    have sB : Same B (upd (upd B dh (.own h)) h (.ins T.c_House dh [])) := fun b o e => by
      rw [upd_ne (ne_of_none e nh), upd_ne (ne_of_none e ndh)]
      exact e
    refine ⟨h, dh, sv, S, B, rfl, upd_same, sB, nh, hSB, val, fun H5 hI5 => ⟨rfl, ?_⟩⟩
    have l500 := lok.len
    -- for entry in ledger: house.moment(entry)
    refine ⟨_, rfl, L, rfl, ⟨xs, SqL.of (hI5.below _ _ hL)⟩, for_list (xs := xs) (fun i σ H' => ∃ (x4 : Option V) (st : StF) (rec : Recd), σ = [some (.ref a), some sv, some (.ref L), some (.ref h), x4, none, none, none, none] ∧ HouseI T B H' h S i st rec ∧ rec ++ recF S i st (led.drop i) = recH S led)
      ⟨none, st0 S, [], rfl, hI5, rfl⟩ (fun i σ H' _ ⟨_, _, _, _, q, _⟩ => SqL.of (q.below _ _ hL)) ?_ ?_⟩
    · rintro i x σ H6 hi ⟨x4, st, rec, rfl, hI6, hrec⟩
      obtain ⟨e, he, hde⟩ := dpa_map_at hxs hi
      obtain ⟨le, re⟩ := lok.each e (List.mem_of_getElem? he)
      have il : i < led.length := (List.getElem?_eq_some_iff.mp he).1
      obtain ⟨dx, sv', fq, fp, fe, fd, hh⟩ := hI6.ob
      refine ⟨_, rfl, h, dx, _, rfl, hh, houseF_no _ _ _ _ _ (by decide +kernel) (by decide +kernel) (by decide +kernel) (by decide +kernel) (by decide +kernel) (by decide +kernel), _, rfl, ?_⟩
      refine ⟨h, S, B, i, st, rec, x, e, rfl, hI6, ok, hde, le, re, by omega, fun H7 v hI7 => ?_⟩
      refine ⟨_, _, _, rfl, hI7, ?_⟩
      rw [← hrec, drop_cons he, List.append_assoc]
      rfl
    · rintro σ H6 ⟨x4, st, rec, rfl, hI6, hrec⟩
      rw [xl] at hI6 hrec
      rw [List.drop_length] at hrec
      have hrec' : rec = recH S led := by
        rw [← hrec]
        exact (List.append_nil _).symm
      subst hrec'
      have hacc := acc_house ok led
      have hrl := recH_len S led
      have rok := recH_ok ok l500
      -- record
      obtain ⟨dx, sv', fq, fp, fe, fd, hh⟩ := hI6.ob
      refine ⟨_, rfl, h, dx, _, rfl, hh, houseF_no _ _ _ _ _ (by decide +kernel) (by decide +kernel) (by decide +kernel) (by decide +kernel) (by decide +kernel) (by decide +kernel), ?_⟩
      refine ⟨h, S, B, _, st, _, rfl, hI6, by omega, fun H7 rv s7 hR => ?_⟩
      have b7 := hI6.below.trans s7
      -- if accepts_record(..) is not True
      refine ⟨_, rfl, _, rfl, _, rfl, sv, .ref L, rv, S, led, recH S led, rfl, Same_dp b7 hSB, ok, Same_dp b7 hLB, lok, hR, rok, fun H8 s8 => ⟨_, _, rfl, rfl, _, rfl, ?_⟩⟩
      rw [hacc]
      refine iteF ?_
      have s68 := s7.trans s8
      have s08 := s04.trans (hI6.below.trans s68)
      -- for cell in script[3:28]
      refine ⟨_, rfl, _, rfl, _, rfl, a, _, rfl, Same_l s08 hs, fun p2 np2 => ⟨p2, rfl, ⟨_, SqL.of upd_same⟩, ?_⟩⟩
      have s9 := Same_new (o := .lst (cutV (ns.map V.int) (some 3) (some 28))) np2
      have hp9 := upd_same (H := H8) (a := p2) (o := .lst (cutV (ns.map V.int) (some 3) (some 28)))
      revert s9 hp9
      generalize upd H8 p2 (.lst (cutV (ns.map V.int) (some 3) (some 28))) = H9
      intro s9 hp9
      rw [hcs] at hp9
      have b9 := hI6.below.trans (s68.trans s9)
      have hR9 := Same_dp (s8.trans s9) hR
      have hI9 := hI6.same (s68.trans s9)
      refine for_list (xs := cs.map V.int) (fun i σ H' => ∃ (x4 x6 x7 x8 : Option V), σ = [some (.ref a), some sv, some (.ref L), some (.ref h), x4, some rv, x6, x7, x8] ∧ Same H9 H') ⟨_, _, _, _, rfl, Same.refl _⟩ (fun i σ H' _ ⟨_, _, _, _, _, q⟩ => SqL.of (q _ _ hp9)) ?_ ?_
      · rintro i x σ H10 hi ⟨x4, x6, x7, x8, rfl, s10⟩
        rw [List.getElem?_map] at hi
        obtain ⟨y, hy, rfl⟩ : ∃ y, cs[i]? = some y ∧ V.int y = x := by
          cases q : cs[i]? with
          | none => rw [q] at hi; cases hi
          | some y => rw [q] at hi; cases hi; exact ⟨y, rfl, rfl⟩
        have ci : i < cs.length := (List.getElem?_eq_some_iff.mp hy).1
        have rne : recH S led ≠ [] := fun e => by
          rw [e] at hrl
          change 0 = _ at hrl
          omega
        refine ⟨_, rfl, _, rfl, .inl ⟨_, rfl, rv, recH S led, y, rfl, Same_dp s10 hR9, rok, rne, fun m hm => ?_, fun H11 ov other s11 hO sp oko => ?_⟩⟩
        · have q := recH_mom ok led m hm
          refine ⟨fun e => ?_, fun d hd => (q.each d hd).1⟩
          have := q.len
          rw [e] at this
          change 0 = _ at this
          omega
        · have b11 := b9.trans (s10.trans s11)
          refine ⟨_, rfl, _, rfl, _, rfl, sv, .ref L, ov, S, led, other, rfl, Same_dp b11 hSB, ok, Same_dp b11 hLB, lok, hO, oko, fun H12 s12 => ?_⟩
          rw [acc_spoilt n1 hacc sp]
          have s912 := s10.trans (s11.trans s12)
          refine ⟨_, rfl, _, rfl, _, rfl, iteF ⟨_, rfl, _, rfl, _, rfl, dRec other, dRec (recH S led), Same_dp s12 hO, Same_dp s912 hR9, shaped_rec oko, shaped_rec rok, rfl, _, rfl, ?_⟩⟩
          rw [eqv_rec]
          exact iteNF rfl ⟨_, _, _, _, rfl, s912⟩
      · rintro σ H10 ⟨x4, x6, x7, x8, rfl, s10⟩
        have b10 := b9.trans s10
        have hI10 := hI9.same s10
        have hR10 := Same_dp s10 hR9
        have fin : ∀ H', Same H10 H' → tRet (tAndV (tOp (rEqD K) (tMeth T.c_House "record" (sp_House_record T) [] E0 (tVar 3) tNil) (tVar 5)) (tOp rIsB (tCall (sp_accepts_record T) [] E0 (tCons (tVar 1) (tCons (tLst tNil) (tCons (tLst tNil) tNil)))) (tC (.bl true))))
            { nx := fun _ H' => Q .non H', rt := Q } [some (.ref a), some sv, some (.ref L), some (.ref h), x4, some rv, x6, x7, x8] H' := by
          intro H11 s11
          have hI11 := hI10.same s11
          obtain ⟨dx, sv', fq, fp, fe, fd, hh⟩ := hI11.ob
          refine ⟨_, rfl, h, dx, _, rfl, hh, houseF_no _ _ _ _ _ (by decide +kernel) (by decide +kernel) (by decide +kernel) (by decide +kernel) (by decide +kernel) (by decide +kernel), ?_⟩
          refine ⟨h, S, B, _, st, _, rfl, hI11, by omega, fun H12 rv2 s12 hR12 => ?_⟩
          refine ⟨_, rfl, dRec (recH S led), dRec (recH S led), hR12, Same_dp (s11.trans s12) hR10, shaped_rec rok, shaped_rec rok, _, rfl, ?_⟩
          rw [eqv_rec, decide_eq_true rfl]
          refine iteT ⟨_, rfl, tl 0 rfl (by decide), fun A nA => ⟨tl 0 rfl (by decide), fun C nC => ?_⟩⟩
          have sA := Same_new (o := .lst []) nA
          have sC := Same_new (o := .lst []) nC
          have b14 := b10.trans ((s11.trans s12).trans (sA.trans sC))
          refine ⟨sv, .ref A, .ref C, S, [], [], rfl, Same_dp b14 hSB, ok, .lst (SqL.of (sC _ _ upd_same)) .nil, ⟨Nat.zero_le _, fun e he => (by cases he)⟩, .lst (SqL.of upd_same) .nil, ⟨Nat.zero_le _, fun m hm => (by cases hm)⟩, fun H15 s15 => ⟨_, _, rfl, rfl, ?_⟩⟩
          rw [acc_nil]
          exact kk _
        have hL10 := b10 _ _ hL
        refine ⟨_, rfl, _, _, rfl, .inl (SqL.of hL10), _, _, rfl, rfl, _, rfl, ?_⟩
        refine ite2 (fun hpos => ?_) (fun hpos => ?_)
        · have lne : led ≠ [] := fun e => by
            have q := of_decide_eq_true hpos
            rw [xl, e] at q
            exact absurd q (by decide)
          refine ⟨_, rfl, _, rfl, _, rfl, L, xs, rfl, SqL.of hL10, fun p3 np3 => ?_⟩
          have s11 := Same_new (o := .lst (cutV xs (some 1) none)) np3
          have b11 := b10.trans s11
          have e2 : cutV xs (some 1) none = xs.drop 1 := cut_from _ 1
          have hLd : Dp K (upd H10 p3 (.lst (cutV xs (some 1) none))) (.ref p3) (dLed (led.drop 1)) := by
            have q := dpa_drop 1 (Same_dpa b11 hxs)
            rw [← e2, ← List.map_drop] at q
            exact .lst (SqL.of upd_same) q
          refine ⟨_, rfl, sv, .ref p3, rv, S, led.drop 1, recH S led, rfl, Same_dp b11 hSB, ok, hLd, ⟨by rw [List.length_drop]; omega, fun e he => lok.each e (List.mem_of_mem_drop he)⟩, Same_dp s11 hR10, rok, fun H12 s12 => ⟨_, _, rfl, rfl, _, rfl, ?_⟩⟩
          rw [acc_short hrl lne]
          exact iteF (fin _ (s11.trans s12))
        · exact fin _ (Same.refl _)
end
end K65
set_option Elab.async false
set_option linter.all false
set_option maxRecDepth 100000
set_option maxHeartbeats 0
namespace K65
open PySem PySem.Spec PyProof.Rows L2
/-! the head: facts by names, the run -/
def d_limit : He.DefD := ⟨("limit", none), "limit", "limit", defArgs s_limit, defBody s_limit, defScope s_limit, [], []⟩
def d_check_tariff : He.DefD := ⟨("check_tariff", none), "check_tariff", "check_tariff", defArgs s_check_tariff, defBody s_check_tariff, defScope s_check_tariff, [], []⟩
def d_off : He.DefD := ⟨("off", none), "off", "off", defArgs s_off, defBody s_off, defScope s_off, [], []⟩
def d_rate : He.DefD := ⟨("rate", none), "rate", "rate", defArgs s_rate, defBody s_rate, defScope s_rate, [], []⟩
def d_wake : He.DefD := ⟨("wake", none), "wake", "wake", defArgs s_wake, defBody s_wake, defScope s_wake, [], []⟩
def d_state_cost : He.DefD := ⟨("state_cost", none), "state_cost", "state_cost", defArgs s_state_cost, defBody s_state_cost, defScope s_state_cost, [], []⟩
def d_idle_state : He.DefD := ⟨("idle_state", none), "idle_state", "idle_state", defArgs s_idle_state, defBody s_idle_state, defScope s_idle_state, [], []⟩
def d_needed_lane : He.DefD := ⟨("needed_lane", none), "needed_lane", "needed_lane", defArgs s_needed_lane, defBody s_needed_lane, defScope s_needed_lane, [], []⟩
def d_idle_lane : He.DefD := ⟨("idle_lane", none), "idle_lane", "idle_lane", defArgs s_idle_lane, defBody s_idle_lane, defScope s_idle_lane, [], []⟩
def d_moved_lanes : He.DefD := ⟨("moved_lanes", none), "moved_lanes", "moved_lanes", defArgs s_moved_lanes, defBody s_moved_lanes, defScope s_moved_lanes, [], []⟩
def d_reserve_of : He.DefD := ⟨("reserve_of", none), "reserve_of", "reserve_of", defArgs s_reserve_of, defBody s_reserve_of, defScope s_reserve_of, [], []⟩
def d_Pool_init : He.DefD := ⟨("Pool", some "__init__"), "__init__", "Pool.__init__", defArgs s_Pool_init, defBody s_Pool_init, defScope s_Pool_init, [], []⟩
def d_Pool_step : He.DefD := ⟨("Pool", some "step"), "step", "Pool.step", defArgs s_Pool_step, defBody s_Pool_step, defScope s_Pool_step, [], []⟩
def d_Pool_after : He.DefD := ⟨("Pool", some "after"), "after", "Pool.after", defArgs s_Pool_after, defBody s_Pool_after, defScope s_Pool_after, [], []⟩
def d_Pool_end_break : He.DefD := ⟨("Pool", some "end_break"), "end_break", "Pool.end_break", defArgs s_Pool_end_break, defBody s_Pool_end_break, defScope s_Pool_end_break, [], []⟩
def d_Pool_states : He.DefD := ⟨("Pool", some "states"), "states", "Pool.states", defArgs s_Pool_states, defBody s_Pool_states, defScope s_Pool_states, [], []⟩
def d_Queue_init : He.DefD := ⟨("Queue", some "__init__"), "__init__", "Queue.__init__", defArgs s_Queue_init, defBody s_Queue_init, defScope s_Queue_init, [], []⟩
def d_Queue_due : He.DefD := ⟨("Queue", some "due"), "due", "Queue.due", defArgs s_Queue_due, defBody s_Queue_due, defScope s_Queue_due, [], []⟩
def d_Queue_take : He.DefD := ⟨("Queue", some "take"), "take", "Queue.take", defArgs s_Queue_take, defBody s_Queue_take, defScope s_Queue_take, [], []⟩
def d_Queue_drop : He.DefD := ⟨("Queue", some "drop"), "drop", "Queue.drop", defArgs s_Queue_drop, defBody s_Queue_drop, defScope s_Queue_drop, [], []⟩
def d_Queue_step : He.DefD := ⟨("Queue", some "step"), "step", "Queue.step", defArgs s_Queue_step, defBody s_Queue_step, defScope s_Queue_step, [], []⟩
def d_is_word : He.DefD := ⟨("is_word", none), "is_word", "is_word", defArgs s_is_word, defBody s_is_word, defScope s_is_word, [], []⟩
def d_check_service : He.DefD := ⟨("check_service", none), "check_service", "check_service", defArgs s_check_service, defBody s_check_service, defScope s_check_service, [], []⟩
def d_check_keep : He.DefD := ⟨("check_keep", none), "check_keep", "check_keep", defArgs s_check_keep, defBody s_check_keep, defScope s_check_keep, [], []⟩
def d_check_house : He.DefD := ⟨("check_house", none), "check_house", "check_house", defArgs s_check_house, defBody s_check_house, defScope s_check_house, [], []⟩
def d_kept : He.DefD := ⟨("kept", none), "kept", "kept", defArgs s_kept, defBody s_kept, defScope s_kept, [], []⟩
def d_comes_before : He.DefD := ⟨("comes_before", none), "comes_before", "comes_before", defArgs s_comes_before, defBody s_comes_before, defScope s_comes_before, [], []⟩
def d_next_service : He.DefD := ⟨("next_service", none), "next_service", "next_service", defArgs s_next_service, defBody s_next_service, defScope s_next_service, [], []⟩
def d_shares : He.DefD := ⟨("shares", none), "shares", "shares", defArgs s_shares, defBody s_shares, defScope s_shares, [], []⟩
def d_is_fair : He.DefD := ⟨("is_fair", none), "is_fair", "is_fair", defArgs s_is_fair, defBody s_is_fair, defScope s_is_fair, [], []⟩
def d_accepts_shares : He.DefD := ⟨("accepts_shares", none), "accepts_shares", "accepts_shares", defArgs s_accepts_shares, defBody s_accepts_shares, defScope s_accepts_shares, [], []⟩
def d_wanted : He.DefD := ⟨("wanted", none), "wanted", "wanted", defArgs s_wanted, defBody s_wanted, defScope s_wanted, [], []⟩
def d_reason : He.DefD := ⟨("reason", none), "reason", "reason", defArgs s_reason, defBody s_reason, defScope s_reason, [], []⟩
def d_check_entry : He.DefD := ⟨("check_entry", none), "check_entry", "check_entry", defArgs s_check_entry, defBody s_check_entry, defScope s_check_entry, [], []⟩
def d_House_init : He.DefD := ⟨("House", some "__init__"), "__init__", "House.__init__", defArgs s_House_init, defBody s_House_init, defScope s_House_init, [], []⟩
def d_House_record : He.DefD := ⟨("House", some "record"), "record", "House.record", defArgs s_House_record, defBody s_House_record, defScope s_House_record, [], []⟩
def d_House_now : He.DefD := ⟨("House", some "now"), "now", "House.now", defArgs s_House_now, defBody s_House_now, defScope s_House_now, [], []⟩
def d_House_plan : He.DefD := ⟨("House", some "plan"), "plan", "House.plan", defArgs s_House_plan, defBody s_House_plan, defScope s_House_plan, [], []⟩
def d_House_do : He.DefD := ⟨("House", some "do"), "do", "House.do", defArgs s_House_do, defBody s_House_do, defScope s_House_do, [], []⟩
def d_House_need : He.DefD := ⟨("House", some "need"), "need", "House.need", defArgs s_House_need, defBody s_House_need, defScope s_House_need, [], []⟩
def d_House_moment : He.DefD := ⟨("House", some "moment"), "moment", "House.moment", defArgs s_House_moment, defBody s_House_moment, defScope s_House_moment, [], []⟩
def d_has_shape : He.DefD := ⟨("has_shape", none), "has_shape", "has_shape", defArgs s_has_shape, defBody s_has_shape, defScope s_has_shape, [], []⟩
def d_are_shares : He.DefD := ⟨("are_shares", none), "are_shares", "are_shares", defArgs s_are_shares, defBody s_are_shares, defScope s_are_shares, [], []⟩
def d_is_deed : He.DefD := ⟨("is_deed", none), "is_deed", "is_deed", defArgs s_is_deed, defBody s_is_deed, defScope s_is_deed, [], []⟩
def d_are_deeds : He.DefD := ⟨("are_deeds", none), "are_deeds", "are_deeds", defArgs s_are_deeds, defBody s_are_deeds, defScope s_are_deeds, [], []⟩
def d_accepts_record : He.DefD := ⟨("accepts_record", none), "accepts_record", "accepts_record", defArgs s_accepts_record, defBody s_accepts_record, defScope s_accepts_record, [], []⟩
def d_l_cell : He.DefD := ⟨("_law_cell", none), "_law_cell", "_law_cell", defArgs s_l_cell, defBody s_l_cell, defScope s_l_cell, [], []⟩
def d_l_draw : He.DefD := ⟨("_law_draw", none), "_law_draw", "_law_draw", defArgs s_l_draw, defBody s_l_draw, defScope s_l_draw, [], []⟩
def d_l_word : He.DefD := ⟨("_law_word", none), "_law_word", "_law_word", defArgs s_l_word, defBody s_l_word, defScope s_l_word, [], []⟩
def d_l_words : He.DefD := ⟨("_law_words", none), "_law_words", "_law_words", defArgs s_l_words, defBody s_l_words, defScope s_l_words, [], []⟩
def d_l_is_flag : He.DefD := ⟨("_law_is_flag", none), "_law_is_flag", "_law_is_flag", defArgs s_l_is_flag, defBody s_l_is_flag, defScope s_l_is_flag, [], []⟩
def d_l_rates : He.DefD := ⟨("_law_rates", none), "_law_rates", "_law_rates", defArgs s_l_rates, defBody s_l_rates, defScope s_l_rates, [], []⟩
def d_l_service : He.DefD := ⟨("_law_service", none), "_law_service", "_law_service", defArgs s_l_service, defBody s_l_service, defScope s_l_service, [], []⟩
def d_l_house : He.DefD := ⟨("_law_house", none), "_law_house", "_law_house", defArgs s_l_house, defBody s_l_house, defScope s_l_house, [], []⟩
def d_l_entry : He.DefD := ⟨("_law_entry", none), "_law_entry", "_law_entry", defArgs s_l_entry, defBody s_l_entry, defScope s_l_entry, [], []⟩
def d_l_ledger : He.DefD := ⟨("_law_ledger", none), "_law_ledger", "_law_ledger", defArgs s_l_ledger, defBody s_l_ledger, defScope s_l_ledger, [], []⟩
def d_l_spoil_record : He.DefD := ⟨("_law_spoil_record", none), "_law_spoil_record", "_law_spoil_record", defArgs s_l_spoil_record, defBody s_l_spoil_record, defScope s_l_spoil_record, [], []⟩
def d_law : He.DefD := ⟨("law", none), "law", "law", defArgs s_law, defBody s_law, defScope s_law, [], []⟩
def fnL : List He.DefD := [d_limit, d_check_tariff, d_off, d_rate, d_wake, d_state_cost, d_idle_state, d_needed_lane, d_idle_lane, d_moved_lanes, d_reserve_of, d_Pool_init, d_Pool_step, d_Pool_after, d_Pool_end_break, d_Pool_states, d_Queue_init, d_Queue_due, d_Queue_take, d_Queue_drop, d_Queue_step, d_is_word, d_check_service, d_check_keep, d_check_house, d_kept, d_comes_before, d_next_service, d_shares, d_is_fair, d_accepts_shares, d_wanted, d_reason, d_check_entry, d_House_init, d_House_record, d_House_now, d_House_plan, d_House_do, d_House_need, d_House_moment, d_has_shape, d_are_shares, d_is_deed, d_are_deeds, d_accepts_record, d_l_cell, d_l_draw, d_l_word, d_l_words, d_l_is_flag, d_l_rates, d_l_service, d_l_house, d_l_entry, d_l_ledger, d_l_spoil_record, d_law]
def faL : List He.Fa := [.glo "limit",
  .glo "check_tariff",
  .glo "off",
  .glo "rate",
  .glo "wake",
  .glo "state_cost",
  .glo "idle_state",
  .glo "needed_lane",
  .glo "idle_lane",
  .glo "moved_lanes",
  .glo "reserve_of",
  .meth "Pool" "step",
  .meth "Pool" "after",
  .meth "Pool" "end_break",
  .meth "Pool" "states",
  .meth "Queue" "due",
  .meth "Queue" "take",
  .meth "Queue" "drop",
  .meth "Queue" "step",
  .glo "is_word",
  .glo "check_service",
  .glo "check_keep",
  .glo "check_house",
  .glo "kept",
  .glo "comes_before",
  .glo "next_service",
  .glo "shares",
  .glo "is_fair",
  .glo "accepts_shares",
  .glo "wanted",
  .glo "reason",
  .glo "check_entry",
  .meth "House" "record",
  .meth "House" "now",
  .meth "House" "plan",
  .meth "House" "do",
  .meth "House" "need",
  .meth "House" "moment",
  .glo "has_shape",
  .glo "are_shares",
  .glo "is_deed",
  .glo "are_deeds",
  .glo "accepts_record",
  .glo "_law_cell",
  .glo "_law_draw",
  .glo "_law_word",
  .glo "_law_words",
  .glo "_law_is_flag",
  .glo "_law_rates",
  .glo "_law_service",
  .glo "_law_house",
  .glo "_law_entry",
  .glo "_law_ledger",
  .glo "_law_spoil_record",
  .glo "law",
  .glo "Pool",
  .cls "Pool",
  .mkr "Pool",
  .noat "Pool" "tariff",
  .noat "Pool" "_lanes",
  .noat "Pool" "_spent",
  .glo "Queue",
  .cls "Queue",
  .mkr "Queue",
  .noat "Queue" "lag",
  .noat "Queue" "patience",
  .noat "Queue" "waiting",
  .noat "Queue" "coming",
  .glo "House",
  .cls "House",
  .mkr "House",
  .noat "House" "told_setting",
  .noat "House" "queues",
  .noat "House" "pools",
  .noat "House" "entries",
  .noat "House" "deeds",
  .noat "House" "begun",
  .free "abs",
  .free "all",
  .free "enumerate",
  .free "int",
  .free "len",
  .free "list",
  .free "max",
  .free "min",
  .free "range",
  .free "sorted",
  .free "sum",
  .free "tuple",
  .free "zip",
  .int "LANES" 40,
  .int "MOST_RATES" 4,
  .int "GREATEST" 10000,
  .int "MAX_LETTERS" 12,
  .int "MAX_SERVICES" 6,
  .int "MAX_QUOTA" 200,
  .int "MAX_KEEPS" 12,
  .int "MAX_MOST" 40,
  .int "MAX_PERIOD" 100,
  .int "MAX_PRICE" 100,
  .int "MAX_CAME" 1000,
  .str "LETTERS" "abcdefghijklmnopqrstuvwxyz",
  .glo "RANGES"]
def tupA (K : PySem.W.Frag) (a : Addr) (vs : List V) : Bool := match K.lookup a with
  | some ⟨.type c, _, .seq its _, _⟩ => decide (c = "tuple") && (decide (its.size ≤ sizeLine) && He.relAll vs its.toList)
  | _ => false
theorem tupA_ok {K : PySem.W.Frag} {a : Addr} {vs : List V} (h : tupA K a vs = true) (H : Hp) : SqT K H a vs := by
  unfold tupA at h
  cases q : K.lookup a with
  | none => rw [q] at h; cases h
  | some o =>
    obtain ⟨oc, od, dt, osl⟩ := o
    rw [q] at h
    cases oc with
    | type c => cases dt with
      | seq its n =>
        have h' : (decide (c = "tuple") && (decide (its.size ≤ sizeLine) && He.relAll vs its.toList)) = true := h
        obtain ⟨h1, h2⟩ := He.ba h'
        obtain ⟨h3, h4⟩ := He.ba h2
        exact .inr ⟨_, its, n, q, congrArg Value.type (of_decide_eq_true h1), rfl, of_decide_eq_true h3, He.relAll_ok h4⟩
      | _ => cases h
    | _ => cases dt <;> cases h
/-- the i-th item of the tuple that the module's name x stands for -/
def itemA (K : PySem.W.Frag) (x : Str) (i : Nat) : Addr := match K.lookup (He.ga K x) with
  | some ⟨_, _, .seq its _, _⟩ => (match its.toList[i]? with
    | some (.ref b) => b
    | _ => 0)
  | _ => 0
def exL (K : PySem.W.Frag) : Bool := tupA K (He.ga K "RANGES") [.ref (itemA K "RANGES" 0), .ref (itemA K "RANGES" 1), .ref (itemA K "RANGES" 2), .ref (itemA K "RANGES" 3), .ref (itemA K "RANGES" 4), .ref (itemA K "RANGES" 5)] && (tupA K (itemA K "RANGES" 0) [.int 1, .int 64] && (tupA K (itemA K "RANGES" 1) [.int 0, .int 20] && (tupA K (itemA K "RANGES" 2) [.int 0, .int 20] && (tupA K (itemA K "RANGES" 3) [.int 1, .int 9] && (tupA K (itemA K "RANGES" 4) [.int 0, .int 40] && (tupA K (itemA K "RANGES" 5) [.int 0, .int 1000000]))))))
abbrev R : PySem.W.OpenRow := PySem.W.OpenLaw.row PySem.Challenge.rw_ebbkeep_k65_whole_records_are_checked
abbrev hk : PySem.W.Hook := He.hookX 5 faL fnL [] [] exL
def ob (s : PySem.W.SharedT) : He.AlX := He.obsX 5 faL fnL [] [] exL (HandSHeadRun.getT s)
theorem ob_eq (s : PySem.W.SharedT) : ob s = hk.obs s.abs := He.obsX_eq (HandSHeadRun.getT_eq s)
def nm0 : List Str := ["_wall", "limit", "EbbError", "InvalidSetting", "InvalidTariff", "InvalidRow", "MOST_RATES", "GREATEST", "check_tariff", "off", "rate", "wake", "state_cost", "idle_state", "LANES", "needed_lane", "idle_lane", "moved_lanes", "reserve_of", "Pool"]
def nm1 : List Str := ["Queue", "LETTERS", "MAX_LETTERS", "MAX_SERVICES", "MAX_QUOTA", "MAX_KEEPS", "MAX_MOST", "MAX_PERIOD", "RANGES", "is_word", "check_service", "check_keep", "check_house", "kept", "comes_before", "next_service", "shares", "is_fair", "accepts_shares", "MAX_PRICE"]
def nm2 : List Str := ["MAX_CAME", "wanted", "reason", "check_entry", "House", "has_shape", "are_shares", "is_deed", "are_deeds", "accepts_record", "_law_cell", "_law_draw", "_law_word", "_law_words", "_law_is_flag", "_law_rates", "_law_service", "_law_house", "_law_entry", "_law_ledger"]
def nm3 : List Str := ["_law_spoil_record"]
def looseL : List Str := nm0 ++ nm1 ++ nm2 ++ nm3
abbrev qv : Program := PySem.W.view R.prog [71]
theorem run (w : World) : HandSHeadRun.RunEq R qv hk ob 4000 looseL w := by
  intro os
  kernel_rfl
section
variable {K : PySem.W.Frag} {h : Heap} {mg : Str → Option Value}
noncomputable def mkCtx (X : K.In h) (G : h.Ns mainGlobals mg) (c : He.SaysD faL fnL K) (x : exL K = true) : Ctx K mg where
  a_limit := He.fAd K d_limit.at_
  fd_limit := Classical.choose (c.def_ 0 (d := d_limit) rfl)
  F_limit := Classical.choose_spec (c.def_ 0 (d := d_limit) rfl)
  b_limit := (Classical.choose_spec (c.def_ 0 (d := d_limit) rfl)).bindsN fun _ _ _ _ _ _ us hl => match us, hl with | [_, _, _, _], _ => rfl
  g_limit := He.glo_ok X G (c.fact 0 (f := .glo "limit") rfl)
  a_check_tariff := He.fAd K d_check_tariff.at_
  fd_check_tariff := Classical.choose (c.def_ 1 (d := d_check_tariff) rfl)
  F_check_tariff := Classical.choose_spec (c.def_ 1 (d := d_check_tariff) rfl)
  b_check_tariff := (Classical.choose_spec (c.def_ 1 (d := d_check_tariff) rfl)).bindsN fun _ _ _ _ _ _ us hl => match us, hl with | [_], _ => rfl
  g_check_tariff := He.glo_ok X G (c.fact 1 (f := .glo "check_tariff") rfl)
  a_off := He.fAd K d_off.at_
  fd_off := Classical.choose (c.def_ 2 (d := d_off) rfl)
  F_off := Classical.choose_spec (c.def_ 2 (d := d_off) rfl)
  b_off := (Classical.choose_spec (c.def_ 2 (d := d_off) rfl)).bindsN fun _ _ _ _ _ _ us hl => match us, hl with | [_], _ => rfl
  g_off := He.glo_ok X G (c.fact 2 (f := .glo "off") rfl)
  a_rate := He.fAd K d_rate.at_
  fd_rate := Classical.choose (c.def_ 3 (d := d_rate) rfl)
  F_rate := Classical.choose_spec (c.def_ 3 (d := d_rate) rfl)
  b_rate := (Classical.choose_spec (c.def_ 3 (d := d_rate) rfl)).bindsN fun _ _ _ _ _ _ us hl => match us, hl with | [_, _], _ => rfl
  g_rate := He.glo_ok X G (c.fact 3 (f := .glo "rate") rfl)
  a_wake := He.fAd K d_wake.at_
  fd_wake := Classical.choose (c.def_ 4 (d := d_wake) rfl)
  F_wake := Classical.choose_spec (c.def_ 4 (d := d_wake) rfl)
  b_wake := (Classical.choose_spec (c.def_ 4 (d := d_wake) rfl)).bindsN fun _ _ _ _ _ _ us hl => match us, hl with | [_, _], _ => rfl
  g_wake := He.glo_ok X G (c.fact 4 (f := .glo "wake") rfl)
  a_state_cost := He.fAd K d_state_cost.at_
  fd_state_cost := Classical.choose (c.def_ 5 (d := d_state_cost) rfl)
  F_state_cost := Classical.choose_spec (c.def_ 5 (d := d_state_cost) rfl)
  b_state_cost := (Classical.choose_spec (c.def_ 5 (d := d_state_cost) rfl)).bindsN fun _ _ _ _ _ _ us hl => match us, hl with | [_, _, _], _ => rfl
  g_state_cost := He.glo_ok X G (c.fact 5 (f := .glo "state_cost") rfl)
  a_idle_state := He.fAd K d_idle_state.at_
  fd_idle_state := Classical.choose (c.def_ 6 (d := d_idle_state) rfl)
  F_idle_state := Classical.choose_spec (c.def_ 6 (d := d_idle_state) rfl)
  b_idle_state := (Classical.choose_spec (c.def_ 6 (d := d_idle_state) rfl)).bindsN fun _ _ _ _ _ _ us hl => match us, hl with | [_, _], _ => rfl
  g_idle_state := He.glo_ok X G (c.fact 6 (f := .glo "idle_state") rfl)
  a_needed_lane := He.fAd K d_needed_lane.at_
  fd_needed_lane := Classical.choose (c.def_ 7 (d := d_needed_lane) rfl)
  F_needed_lane := Classical.choose_spec (c.def_ 7 (d := d_needed_lane) rfl)
  b_needed_lane := (Classical.choose_spec (c.def_ 7 (d := d_needed_lane) rfl)).bindsN fun _ _ _ _ _ _ us hl => match us, hl with | [_, _, _], _ => rfl
  g_needed_lane := He.glo_ok X G (c.fact 7 (f := .glo "needed_lane") rfl)
  a_idle_lane := He.fAd K d_idle_lane.at_
  fd_idle_lane := Classical.choose (c.def_ 8 (d := d_idle_lane) rfl)
  F_idle_lane := Classical.choose_spec (c.def_ 8 (d := d_idle_lane) rfl)
  b_idle_lane := (Classical.choose_spec (c.def_ 8 (d := d_idle_lane) rfl)).bindsN fun _ _ _ _ _ _ us hl => match us, hl with | [_, _, _], _ => rfl
  g_idle_lane := He.glo_ok X G (c.fact 8 (f := .glo "idle_lane") rfl)
  a_moved_lanes := He.fAd K d_moved_lanes.at_
  fd_moved_lanes := Classical.choose (c.def_ 9 (d := d_moved_lanes) rfl)
  F_moved_lanes := Classical.choose_spec (c.def_ 9 (d := d_moved_lanes) rfl)
  b_moved_lanes := (Classical.choose_spec (c.def_ 9 (d := d_moved_lanes) rfl)).bindsN fun _ _ _ _ _ _ us hl => match us, hl with | [_, _, _, _], _ => rfl
  g_moved_lanes := He.glo_ok X G (c.fact 9 (f := .glo "moved_lanes") rfl)
  a_reserve_of := He.fAd K d_reserve_of.at_
  fd_reserve_of := Classical.choose (c.def_ 10 (d := d_reserve_of) rfl)
  F_reserve_of := Classical.choose_spec (c.def_ 10 (d := d_reserve_of) rfl)
  b_reserve_of := (Classical.choose_spec (c.def_ 10 (d := d_reserve_of) rfl)).bindsN fun _ _ _ _ _ _ us hl => match us, hl with | [_, _], _ => rfl
  g_reserve_of := He.glo_ok X G (c.fact 10 (f := .glo "reserve_of") rfl)
  a_Pool_init := He.fAd K d_Pool_init.at_
  fd_Pool_init := Classical.choose (c.def_ 11 (d := d_Pool_init) rfl)
  F_Pool_init := Classical.choose_spec (c.def_ 11 (d := d_Pool_init) rfl)
  b_Pool_init := (Classical.choose_spec (c.def_ 11 (d := d_Pool_init) rfl)).bindsN fun _ _ _ _ _ _ us hl => match us, hl with | [_, _], _ => rfl
  a_Pool_step := He.fAd K d_Pool_step.at_
  fd_Pool_step := Classical.choose (c.def_ 12 (d := d_Pool_step) rfl)
  F_Pool_step := Classical.choose_spec (c.def_ 12 (d := d_Pool_step) rfl)
  b_Pool_step := (Classical.choose_spec (c.def_ 12 (d := d_Pool_step) rfl)).bindsN fun _ _ _ _ _ _ us hl => match us, hl with | [_, _, _], _ => rfl
  a_Pool_after := He.fAd K d_Pool_after.at_
  fd_Pool_after := Classical.choose (c.def_ 13 (d := d_Pool_after) rfl)
  F_Pool_after := Classical.choose_spec (c.def_ 13 (d := d_Pool_after) rfl)
  b_Pool_after := (Classical.choose_spec (c.def_ 13 (d := d_Pool_after) rfl)).bindsN fun _ _ _ _ _ _ us hl => match us, hl with | [_, _, _], _ => rfl
  a_Pool_end_break := He.fAd K d_Pool_end_break.at_
  fd_Pool_end_break := Classical.choose (c.def_ 14 (d := d_Pool_end_break) rfl)
  F_Pool_end_break := Classical.choose_spec (c.def_ 14 (d := d_Pool_end_break) rfl)
  b_Pool_end_break := (Classical.choose_spec (c.def_ 14 (d := d_Pool_end_break) rfl)).bindsN fun _ _ _ _ _ _ us hl => match us, hl with | [_], _ => rfl
  a_Pool_states := He.fAd K d_Pool_states.at_
  fd_Pool_states := Classical.choose (c.def_ 15 (d := d_Pool_states) rfl)
  F_Pool_states := Classical.choose_spec (c.def_ 15 (d := d_Pool_states) rfl)
  b_Pool_states := (Classical.choose_spec (c.def_ 15 (d := d_Pool_states) rfl)).bindsN fun _ _ _ _ _ _ us hl => match us, hl with | [_], _ => rfl
  a_Queue_init := He.fAd K d_Queue_init.at_
  fd_Queue_init := Classical.choose (c.def_ 16 (d := d_Queue_init) rfl)
  F_Queue_init := Classical.choose_spec (c.def_ 16 (d := d_Queue_init) rfl)
  b_Queue_init := (Classical.choose_spec (c.def_ 16 (d := d_Queue_init) rfl)).bindsN fun _ _ _ _ _ _ us hl => match us, hl with | [_, _, _], _ => rfl
  a_Queue_due := He.fAd K d_Queue_due.at_
  fd_Queue_due := Classical.choose (c.def_ 17 (d := d_Queue_due) rfl)
  F_Queue_due := Classical.choose_spec (c.def_ 17 (d := d_Queue_due) rfl)
  b_Queue_due := (Classical.choose_spec (c.def_ 17 (d := d_Queue_due) rfl)).bindsN fun _ _ _ _ _ _ us hl => match us, hl with | [_, _], _ => rfl
  a_Queue_take := He.fAd K d_Queue_take.at_
  fd_Queue_take := Classical.choose (c.def_ 18 (d := d_Queue_take) rfl)
  F_Queue_take := Classical.choose_spec (c.def_ 18 (d := d_Queue_take) rfl)
  b_Queue_take := (Classical.choose_spec (c.def_ 18 (d := d_Queue_take) rfl)).bindsN fun _ _ _ _ _ _ us hl => match us, hl with | [_, _], _ => rfl
  a_Queue_drop := He.fAd K d_Queue_drop.at_
  fd_Queue_drop := Classical.choose (c.def_ 19 (d := d_Queue_drop) rfl)
  F_Queue_drop := Classical.choose_spec (c.def_ 19 (d := d_Queue_drop) rfl)
  b_Queue_drop := (Classical.choose_spec (c.def_ 19 (d := d_Queue_drop) rfl)).bindsN fun _ _ _ _ _ _ us hl => match us, hl with | [_], _ => rfl
  a_Queue_step := He.fAd K d_Queue_step.at_
  fd_Queue_step := Classical.choose (c.def_ 20 (d := d_Queue_step) rfl)
  F_Queue_step := Classical.choose_spec (c.def_ 20 (d := d_Queue_step) rfl)
  b_Queue_step := (Classical.choose_spec (c.def_ 20 (d := d_Queue_step) rfl)).bindsN fun _ _ _ _ _ _ us hl => match us, hl with | [_, _, _], _ => rfl
  a_is_word := He.fAd K d_is_word.at_
  fd_is_word := Classical.choose (c.def_ 21 (d := d_is_word) rfl)
  F_is_word := Classical.choose_spec (c.def_ 21 (d := d_is_word) rfl)
  b_is_word := (Classical.choose_spec (c.def_ 21 (d := d_is_word) rfl)).bindsN fun _ _ _ _ _ _ us hl => match us, hl with | [_], _ => rfl
  g_is_word := He.glo_ok X G (c.fact 19 (f := .glo "is_word") rfl)
  a_check_service := He.fAd K d_check_service.at_
  fd_check_service := Classical.choose (c.def_ 22 (d := d_check_service) rfl)
  F_check_service := Classical.choose_spec (c.def_ 22 (d := d_check_service) rfl)
  b_check_service := (Classical.choose_spec (c.def_ 22 (d := d_check_service) rfl)).bindsN fun _ _ _ _ _ _ us hl => match us, hl with | [_], _ => rfl
  g_check_service := He.glo_ok X G (c.fact 20 (f := .glo "check_service") rfl)
  a_check_keep := He.fAd K d_check_keep.at_
  fd_check_keep := Classical.choose (c.def_ 23 (d := d_check_keep) rfl)
  F_check_keep := Classical.choose_spec (c.def_ 23 (d := d_check_keep) rfl)
  b_check_keep := (Classical.choose_spec (c.def_ 23 (d := d_check_keep) rfl)).bindsN fun _ _ _ _ _ _ us hl => match us, hl with | [_, _], _ => rfl
  g_check_keep := He.glo_ok X G (c.fact 21 (f := .glo "check_keep") rfl)
  a_check_house := He.fAd K d_check_house.at_
  fd_check_house := Classical.choose (c.def_ 24 (d := d_check_house) rfl)
  F_check_house := Classical.choose_spec (c.def_ 24 (d := d_check_house) rfl)
  b_check_house := (Classical.choose_spec (c.def_ 24 (d := d_check_house) rfl)).bindsN fun _ _ _ _ _ _ us hl => match us, hl with | [_], _ => rfl
  g_check_house := He.glo_ok X G (c.fact 22 (f := .glo "check_house") rfl)
  a_kept := He.fAd K d_kept.at_
  fd_kept := Classical.choose (c.def_ 25 (d := d_kept) rfl)
  F_kept := Classical.choose_spec (c.def_ 25 (d := d_kept) rfl)
  b_kept := (Classical.choose_spec (c.def_ 25 (d := d_kept) rfl)).bindsN fun _ _ _ _ _ _ us hl => match us, hl with | [_, _, _], _ => rfl
  g_kept := He.glo_ok X G (c.fact 23 (f := .glo "kept") rfl)
  a_comes_before := He.fAd K d_comes_before.at_
  fd_comes_before := Classical.choose (c.def_ 26 (d := d_comes_before) rfl)
  F_comes_before := Classical.choose_spec (c.def_ 26 (d := d_comes_before) rfl)
  b_comes_before := (Classical.choose_spec (c.def_ 26 (d := d_comes_before) rfl)).bindsN fun _ _ _ _ _ _ us hl => match us, hl with | [_, _, _, _], _ => rfl
  g_comes_before := He.glo_ok X G (c.fact 24 (f := .glo "comes_before") rfl)
  a_next_service := He.fAd K d_next_service.at_
  fd_next_service := Classical.choose (c.def_ 27 (d := d_next_service) rfl)
  F_next_service := Classical.choose_spec (c.def_ 27 (d := d_next_service) rfl)
  b_next_service := (Classical.choose_spec (c.def_ 27 (d := d_next_service) rfl)).bindsN fun _ _ _ _ _ _ us hl => match us, hl with | [_, _, _], _ => rfl
  g_next_service := He.glo_ok X G (c.fact 25 (f := .glo "next_service") rfl)
  a_shares := He.fAd K d_shares.at_
  fd_shares := Classical.choose (c.def_ 28 (d := d_shares) rfl)
  F_shares := Classical.choose_spec (c.def_ 28 (d := d_shares) rfl)
  b_shares := (Classical.choose_spec (c.def_ 28 (d := d_shares) rfl)).bindsN fun _ _ _ _ _ _ us hl => match us, hl with | [_, _, _], _ => rfl
  g_shares := He.glo_ok X G (c.fact 26 (f := .glo "shares") rfl)
  a_is_fair := He.fAd K d_is_fair.at_
  fd_is_fair := Classical.choose (c.def_ 29 (d := d_is_fair) rfl)
  F_is_fair := Classical.choose_spec (c.def_ 29 (d := d_is_fair) rfl)
  b_is_fair := (Classical.choose_spec (c.def_ 29 (d := d_is_fair) rfl)).bindsN fun _ _ _ _ _ _ us hl => match us, hl with | [_, _, _, _, _], _ => rfl
  g_is_fair := He.glo_ok X G (c.fact 27 (f := .glo "is_fair") rfl)
  a_accepts_shares := He.fAd K d_accepts_shares.at_
  fd_accepts_shares := Classical.choose (c.def_ 30 (d := d_accepts_shares) rfl)
  F_accepts_shares := Classical.choose_spec (c.def_ 30 (d := d_accepts_shares) rfl)
  b_accepts_shares := (Classical.choose_spec (c.def_ 30 (d := d_accepts_shares) rfl)).bindsN fun _ _ _ _ _ _ us hl => match us, hl with | [_, _, _, _], _ => rfl
  g_accepts_shares := He.glo_ok X G (c.fact 28 (f := .glo "accepts_shares") rfl)
  a_wanted := He.fAd K d_wanted.at_
  fd_wanted := Classical.choose (c.def_ 31 (d := d_wanted) rfl)
  F_wanted := Classical.choose_spec (c.def_ 31 (d := d_wanted) rfl)
  b_wanted := (Classical.choose_spec (c.def_ 31 (d := d_wanted) rfl)).bindsN fun _ _ _ _ _ _ us hl => match us, hl with | [_, _, _], _ => rfl
  g_wanted := He.glo_ok X G (c.fact 29 (f := .glo "wanted") rfl)
  a_reason := He.fAd K d_reason.at_
  fd_reason := Classical.choose (c.def_ 32 (d := d_reason) rfl)
  F_reason := Classical.choose_spec (c.def_ 32 (d := d_reason) rfl)
  b_reason := (Classical.choose_spec (c.def_ 32 (d := d_reason) rfl)).bindsN fun _ _ _ _ _ _ us hl => match us, hl with | [_, _, _, _, _], _ => rfl
  g_reason := He.glo_ok X G (c.fact 30 (f := .glo "reason") rfl)
  a_check_entry := He.fAd K d_check_entry.at_
  fd_check_entry := Classical.choose (c.def_ 33 (d := d_check_entry) rfl)
  F_check_entry := Classical.choose_spec (c.def_ 33 (d := d_check_entry) rfl)
  b_check_entry := (Classical.choose_spec (c.def_ 33 (d := d_check_entry) rfl)).bindsN fun _ _ _ _ _ _ us hl => match us, hl with | [_, _], _ => rfl
  g_check_entry := He.glo_ok X G (c.fact 31 (f := .glo "check_entry") rfl)
  a_House_init := He.fAd K d_House_init.at_
  fd_House_init := Classical.choose (c.def_ 34 (d := d_House_init) rfl)
  F_House_init := Classical.choose_spec (c.def_ 34 (d := d_House_init) rfl)
  b_House_init := (Classical.choose_spec (c.def_ 34 (d := d_House_init) rfl)).bindsN fun _ _ _ _ _ _ us hl => match us, hl with | [_, _], _ => rfl
  a_House_record := He.fAd K d_House_record.at_
  fd_House_record := Classical.choose (c.def_ 35 (d := d_House_record) rfl)
  F_House_record := Classical.choose_spec (c.def_ 35 (d := d_House_record) rfl)
  b_House_record := (Classical.choose_spec (c.def_ 35 (d := d_House_record) rfl)).bindsN fun _ _ _ _ _ _ us hl => match us, hl with | [_], _ => rfl
  a_House_now := He.fAd K d_House_now.at_
  fd_House_now := Classical.choose (c.def_ 36 (d := d_House_now) rfl)
  F_House_now := Classical.choose_spec (c.def_ 36 (d := d_House_now) rfl)
  b_House_now := (Classical.choose_spec (c.def_ 36 (d := d_House_now) rfl)).bindsN fun _ _ _ _ _ _ us hl => match us, hl with | [_], _ => rfl
  a_House_plan := He.fAd K d_House_plan.at_
  fd_House_plan := Classical.choose (c.def_ 37 (d := d_House_plan) rfl)
  F_House_plan := Classical.choose_spec (c.def_ 37 (d := d_House_plan) rfl)
  b_House_plan := (Classical.choose_spec (c.def_ 37 (d := d_House_plan) rfl)).bindsN fun _ _ _ _ _ _ us hl => match us, hl with | [_, _, _, _], _ => rfl
  a_House_do := He.fAd K d_House_do.at_
  fd_House_do := Classical.choose (c.def_ 38 (d := d_House_do) rfl)
  F_House_do := Classical.choose_spec (c.def_ 38 (d := d_House_do) rfl)
  b_House_do := (Classical.choose_spec (c.def_ 38 (d := d_House_do) rfl)).bindsN fun _ _ _ _ _ _ us hl => match us, hl with | [_, _, _, _, _], _ => rfl
  a_House_need := He.fAd K d_House_need.at_
  fd_House_need := Classical.choose (c.def_ 39 (d := d_House_need) rfl)
  F_House_need := Classical.choose_spec (c.def_ 39 (d := d_House_need) rfl)
  b_House_need := (Classical.choose_spec (c.def_ 39 (d := d_House_need) rfl)).bindsN fun _ _ _ _ _ _ us hl => match us, hl with | [_, _, _, _], _ => rfl
  a_House_moment := He.fAd K d_House_moment.at_
  fd_House_moment := Classical.choose (c.def_ 40 (d := d_House_moment) rfl)
  F_House_moment := Classical.choose_spec (c.def_ 40 (d := d_House_moment) rfl)
  b_House_moment := (Classical.choose_spec (c.def_ 40 (d := d_House_moment) rfl)).bindsN fun _ _ _ _ _ _ us hl => match us, hl with | [_, _], _ => rfl
  a_has_shape := He.fAd K d_has_shape.at_
  fd_has_shape := Classical.choose (c.def_ 41 (d := d_has_shape) rfl)
  F_has_shape := Classical.choose_spec (c.def_ 41 (d := d_has_shape) rfl)
  b_has_shape := (Classical.choose_spec (c.def_ 41 (d := d_has_shape) rfl)).bindsN fun _ _ _ _ _ _ us hl => match us, hl with | [_, _, _], _ => rfl
  g_has_shape := He.glo_ok X G (c.fact 38 (f := .glo "has_shape") rfl)
  a_are_shares := He.fAd K d_are_shares.at_
  fd_are_shares := Classical.choose (c.def_ 42 (d := d_are_shares) rfl)
  F_are_shares := Classical.choose_spec (c.def_ 42 (d := d_are_shares) rfl)
  b_are_shares := (Classical.choose_spec (c.def_ 42 (d := d_are_shares) rfl)).bindsN fun _ _ _ _ _ _ us hl => match us, hl with | [_, _], _ => rfl
  g_are_shares := He.glo_ok X G (c.fact 39 (f := .glo "are_shares") rfl)
  a_is_deed := He.fAd K d_is_deed.at_
  fd_is_deed := Classical.choose (c.def_ 43 (d := d_is_deed) rfl)
  F_is_deed := Classical.choose_spec (c.def_ 43 (d := d_is_deed) rfl)
  b_is_deed := (Classical.choose_spec (c.def_ 43 (d := d_is_deed) rfl)).bindsN fun _ _ _ _ _ _ us hl => match us, hl with | [_, _, _, _, _, _], _ => rfl
  g_is_deed := He.glo_ok X G (c.fact 40 (f := .glo "is_deed") rfl)
  a_are_deeds := He.fAd K d_are_deeds.at_
  fd_are_deeds := Classical.choose (c.def_ 44 (d := d_are_deeds) rfl)
  F_are_deeds := Classical.choose_spec (c.def_ 44 (d := d_are_deeds) rfl)
  b_are_deeds := (Classical.choose_spec (c.def_ 44 (d := d_are_deeds) rfl)).bindsN fun _ _ _ _ _ _ us hl => match us, hl with | [_, _, _, _], _ => rfl
  g_are_deeds := He.glo_ok X G (c.fact 41 (f := .glo "are_deeds") rfl)
  a_accepts_record := He.fAd K d_accepts_record.at_
  fd_accepts_record := Classical.choose (c.def_ 45 (d := d_accepts_record) rfl)
  F_accepts_record := Classical.choose_spec (c.def_ 45 (d := d_accepts_record) rfl)
  b_accepts_record := (Classical.choose_spec (c.def_ 45 (d := d_accepts_record) rfl)).bindsN fun _ _ _ _ _ _ us hl => match us, hl with | [_, _, _], _ => rfl
  g_accepts_record := He.glo_ok X G (c.fact 42 (f := .glo "accepts_record") rfl)
  a_l_cell := He.fAd K d_l_cell.at_
  fd_l_cell := Classical.choose (c.def_ 46 (d := d_l_cell) rfl)
  F_l_cell := Classical.choose_spec (c.def_ 46 (d := d_l_cell) rfl)
  b_l_cell := (Classical.choose_spec (c.def_ 46 (d := d_l_cell) rfl)).bindsN fun _ _ _ _ _ _ us hl => match us, hl with | [_, _], _ => rfl
  g_l_cell := He.glo_ok X G (c.fact 43 (f := .glo "_law_cell") rfl)
  a_l_draw := He.fAd K d_l_draw.at_
  fd_l_draw := Classical.choose (c.def_ 47 (d := d_l_draw) rfl)
  F_l_draw := Classical.choose_spec (c.def_ 47 (d := d_l_draw) rfl)
  b_l_draw := (Classical.choose_spec (c.def_ 47 (d := d_l_draw) rfl)).bindsN fun _ _ _ _ _ _ us hl => match us, hl with | [_, _, _], _ => rfl
  g_l_draw := He.glo_ok X G (c.fact 44 (f := .glo "_law_draw") rfl)
  a_l_word := He.fAd K d_l_word.at_
  fd_l_word := Classical.choose (c.def_ 48 (d := d_l_word) rfl)
  F_l_word := Classical.choose_spec (c.def_ 48 (d := d_l_word) rfl)
  b_l_word := (Classical.choose_spec (c.def_ 48 (d := d_l_word) rfl)).bindsN fun _ _ _ _ _ _ us hl => match us, hl with | [_], _ => rfl
  g_l_word := He.glo_ok X G (c.fact 45 (f := .glo "_law_word") rfl)
  a_l_words := He.fAd K d_l_words.at_
  fd_l_words := Classical.choose (c.def_ 49 (d := d_l_words) rfl)
  F_l_words := Classical.choose_spec (c.def_ 49 (d := d_l_words) rfl)
  b_l_words := (Classical.choose_spec (c.def_ 49 (d := d_l_words) rfl)).bindsN fun _ _ _ _ _ _ us hl => match us, hl with | [_, _], _ => rfl
  g_l_words := He.glo_ok X G (c.fact 46 (f := .glo "_law_words") rfl)
  a_l_is_flag := He.fAd K d_l_is_flag.at_
  fd_l_is_flag := Classical.choose (c.def_ 50 (d := d_l_is_flag) rfl)
  F_l_is_flag := Classical.choose_spec (c.def_ 50 (d := d_l_is_flag) rfl)
  b_l_is_flag := (Classical.choose_spec (c.def_ 50 (d := d_l_is_flag) rfl)).bindsN fun _ _ _ _ _ _ us hl => match us, hl with | [_], _ => rfl
  g_l_is_flag := He.glo_ok X G (c.fact 47 (f := .glo "_law_is_flag") rfl)
  a_l_rates := He.fAd K d_l_rates.at_
  fd_l_rates := Classical.choose (c.def_ 51 (d := d_l_rates) rfl)
  F_l_rates := Classical.choose_spec (c.def_ 51 (d := d_l_rates) rfl)
  b_l_rates := (Classical.choose_spec (c.def_ 51 (d := d_l_rates) rfl)).bindsN fun _ _ _ _ _ _ us hl => match us, hl with | [_, _], _ => rfl
  g_l_rates := He.glo_ok X G (c.fact 48 (f := .glo "_law_rates") rfl)
  a_l_service := He.fAd K d_l_service.at_
  fd_l_service := Classical.choose (c.def_ 52 (d := d_l_service) rfl)
  F_l_service := Classical.choose_spec (c.def_ 52 (d := d_l_service) rfl)
  b_l_service := (Classical.choose_spec (c.def_ 52 (d := d_l_service) rfl)).bindsN fun _ _ _ _ _ _ us hl => match us, hl with | [_, _], _ => rfl
  g_l_service := He.glo_ok X G (c.fact 49 (f := .glo "_law_service") rfl)
  a_l_house := He.fAd K d_l_house.at_
  fd_l_house := Classical.choose (c.def_ 53 (d := d_l_house) rfl)
  F_l_house := Classical.choose_spec (c.def_ 53 (d := d_l_house) rfl)
  b_l_house := (Classical.choose_spec (c.def_ 53 (d := d_l_house) rfl)).bindsN fun _ _ _ _ _ _ us hl => match us, hl with | [_], _ => rfl
  g_l_house := He.glo_ok X G (c.fact 50 (f := .glo "_law_house") rfl)
  a_l_entry := He.fAd K d_l_entry.at_
  fd_l_entry := Classical.choose (c.def_ 54 (d := d_l_entry) rfl)
  F_l_entry := Classical.choose_spec (c.def_ 54 (d := d_l_entry) rfl)
  b_l_entry := (Classical.choose_spec (c.def_ 54 (d := d_l_entry) rfl)).bindsN fun _ _ _ _ _ _ us hl => match us, hl with | [_, _], _ => rfl
  g_l_entry := He.glo_ok X G (c.fact 51 (f := .glo "_law_entry") rfl)
  a_l_ledger := He.fAd K d_l_ledger.at_
  fd_l_ledger := Classical.choose (c.def_ 55 (d := d_l_ledger) rfl)
  F_l_ledger := Classical.choose_spec (c.def_ 55 (d := d_l_ledger) rfl)
  b_l_ledger := (Classical.choose_spec (c.def_ 55 (d := d_l_ledger) rfl)).bindsN fun _ _ _ _ _ _ us hl => match us, hl with | [_, _], _ => rfl
  g_l_ledger := He.glo_ok X G (c.fact 52 (f := .glo "_law_ledger") rfl)
  a_l_spoil_record := He.fAd K d_l_spoil_record.at_
  fd_l_spoil_record := Classical.choose (c.def_ 56 (d := d_l_spoil_record) rfl)
  F_l_spoil_record := Classical.choose_spec (c.def_ 56 (d := d_l_spoil_record) rfl)
  b_l_spoil_record := (Classical.choose_spec (c.def_ 56 (d := d_l_spoil_record) rfl)).bindsN fun _ _ _ _ _ _ us hl => match us, hl with | [_, _], _ => rfl
  g_l_spoil_record := He.glo_ok X G (c.fact 53 (f := .glo "_law_spoil_record") rfl)
  a_law := He.fAd K d_law.at_
  fd_law := Classical.choose (c.def_ 57 (d := d_law) rfl)
  F_law := Classical.choose_spec (c.def_ 57 (d := d_law) rfl)
  b_law := (Classical.choose_spec (c.def_ 57 (d := d_law) rfl)).bindsN fun _ _ _ _ _ _ us hl => match us, hl with | [_], _ => rfl
  g_law := He.glo_ok X G (c.fact 54 (f := .glo "law") rfl)
  c_Pool := He.ga K "Pool"
  cl_Pool := He.cls_ok (c.fact 56 (f := .cls "Pool") rfl)
  g_Pool := He.glo_ok X G (c.fact 55 (f := .glo "Pool") rfl)
  mk_Pool := He.mkr_ok (c.fact 57 (f := .mkr "Pool") rfl)
  n_Pool_tariff := He.noat_ok (c.fact 58 (f := .noat "Pool" "tariff") rfl)
  n_Pool__lanes := He.noat_ok (c.fact 59 (f := .noat "Pool" "_lanes") rfl)
  n_Pool__spent := He.noat_ok (c.fact 60 (f := .noat "Pool" "_spent") rfl)
  c_Queue := He.ga K "Queue"
  cl_Queue := He.cls_ok (c.fact 62 (f := .cls "Queue") rfl)
  g_Queue := He.glo_ok X G (c.fact 61 (f := .glo "Queue") rfl)
  mk_Queue := He.mkr_ok (c.fact 63 (f := .mkr "Queue") rfl)
  n_Queue_lag := He.noat_ok (c.fact 64 (f := .noat "Queue" "lag") rfl)
  n_Queue_patience := He.noat_ok (c.fact 65 (f := .noat "Queue" "patience") rfl)
  n_Queue_waiting := He.noat_ok (c.fact 66 (f := .noat "Queue" "waiting") rfl)
  n_Queue_coming := He.noat_ok (c.fact 67 (f := .noat "Queue" "coming") rfl)
  c_House := He.ga K "House"
  cl_House := He.cls_ok (c.fact 69 (f := .cls "House") rfl)
  g_House := He.glo_ok X G (c.fact 68 (f := .glo "House") rfl)
  mk_House := He.mkr_ok (c.fact 70 (f := .mkr "House") rfl)
  n_House_told_setting := He.noat_ok (c.fact 71 (f := .noat "House" "told_setting") rfl)
  n_House_queues := He.noat_ok (c.fact 72 (f := .noat "House" "queues") rfl)
  n_House_pools := He.noat_ok (c.fact 73 (f := .noat "House" "pools") rfl)
  n_House_entries := He.noat_ok (c.fact 74 (f := .noat "House" "entries") rfl)
  n_House_deeds := He.noat_ok (c.fact 75 (f := .noat "House" "deeds") rfl)
  n_House_begun := He.noat_ok (c.fact 76 (f := .noat "House" "begun") rfl)
  m_Pool_step := He.meth_ok (c.fact 11 (f := .meth "Pool" "step") rfl)
  m_Pool_after := He.meth_ok (c.fact 12 (f := .meth "Pool" "after") rfl)
  m_Pool_end_break := He.meth_ok (c.fact 13 (f := .meth "Pool" "end_break") rfl)
  m_Pool_states := He.meth_ok (c.fact 14 (f := .meth "Pool" "states") rfl)
  m_Queue_due := He.meth_ok (c.fact 15 (f := .meth "Queue" "due") rfl)
  m_Queue_take := He.meth_ok (c.fact 16 (f := .meth "Queue" "take") rfl)
  m_Queue_drop := He.meth_ok (c.fact 17 (f := .meth "Queue" "drop") rfl)
  m_Queue_step := He.meth_ok (c.fact 18 (f := .meth "Queue" "step") rfl)
  m_House_record := He.meth_ok (c.fact 32 (f := .meth "House" "record") rfl)
  m_House_now := He.meth_ok (c.fact 33 (f := .meth "House" "now") rfl)
  m_House_plan := He.meth_ok (c.fact 34 (f := .meth "House" "plan") rfl)
  m_House_do := He.meth_ok (c.fact 35 (f := .meth "House" "do") rfl)
  m_House_need := He.meth_ok (c.fact 36 (f := .meth "House" "need") rfl)
  m_House_moment := He.meth_ok (c.fact 37 (f := .meth "House" "moment") rfl)
  n_abs := He.free_ok X G (c.fact 77 (f := .free "abs") rfl)
  n_all := He.free_ok X G (c.fact 78 (f := .free "all") rfl)
  n_enumerate := He.free_ok X G (c.fact 79 (f := .free "enumerate") rfl)
  n_int := He.free_ok X G (c.fact 80 (f := .free "int") rfl)
  n_len := He.free_ok X G (c.fact 81 (f := .free "len") rfl)
  n_list := He.free_ok X G (c.fact 82 (f := .free "list") rfl)
  n_max := He.free_ok X G (c.fact 83 (f := .free "max") rfl)
  n_min := He.free_ok X G (c.fact 84 (f := .free "min") rfl)
  n_range := He.free_ok X G (c.fact 85 (f := .free "range") rfl)
  n_sorted := He.free_ok X G (c.fact 86 (f := .free "sorted") rfl)
  n_sum := He.free_ok X G (c.fact 87 (f := .free "sum") rfl)
  n_tuple := He.free_ok X G (c.fact 88 (f := .free "tuple") rfl)
  n_zip := He.free_ok X G (c.fact 89 (f := .free "zip") rfl)
  t_LANES := Classical.choose (He.int_ok X G (c.fact 90 (f := .int "LANES" 40) rfl))
  i_LANES := Classical.choose_spec (He.int_ok X G (c.fact 90 (f := .int "LANES" 40) rfl))
  t_MOST_RATES := Classical.choose (He.int_ok X G (c.fact 91 (f := .int "MOST_RATES" 4) rfl))
  i_MOST_RATES := Classical.choose_spec (He.int_ok X G (c.fact 91 (f := .int "MOST_RATES" 4) rfl))
  t_GREATEST := Classical.choose (He.int_ok X G (c.fact 92 (f := .int "GREATEST" 10000) rfl))
  i_GREATEST := Classical.choose_spec (He.int_ok X G (c.fact 92 (f := .int "GREATEST" 10000) rfl))
  t_MAX_LETTERS := Classical.choose (He.int_ok X G (c.fact 93 (f := .int "MAX_LETTERS" 12) rfl))
  i_MAX_LETTERS := Classical.choose_spec (He.int_ok X G (c.fact 93 (f := .int "MAX_LETTERS" 12) rfl))
  t_MAX_SERVICES := Classical.choose (He.int_ok X G (c.fact 94 (f := .int "MAX_SERVICES" 6) rfl))
  i_MAX_SERVICES := Classical.choose_spec (He.int_ok X G (c.fact 94 (f := .int "MAX_SERVICES" 6) rfl))
  t_MAX_QUOTA := Classical.choose (He.int_ok X G (c.fact 95 (f := .int "MAX_QUOTA" 200) rfl))
  i_MAX_QUOTA := Classical.choose_spec (He.int_ok X G (c.fact 95 (f := .int "MAX_QUOTA" 200) rfl))
  t_MAX_KEEPS := Classical.choose (He.int_ok X G (c.fact 96 (f := .int "MAX_KEEPS" 12) rfl))
  i_MAX_KEEPS := Classical.choose_spec (He.int_ok X G (c.fact 96 (f := .int "MAX_KEEPS" 12) rfl))
  t_MAX_MOST := Classical.choose (He.int_ok X G (c.fact 97 (f := .int "MAX_MOST" 40) rfl))
  i_MAX_MOST := Classical.choose_spec (He.int_ok X G (c.fact 97 (f := .int "MAX_MOST" 40) rfl))
  t_MAX_PERIOD := Classical.choose (He.int_ok X G (c.fact 98 (f := .int "MAX_PERIOD" 100) rfl))
  i_MAX_PERIOD := Classical.choose_spec (He.int_ok X G (c.fact 98 (f := .int "MAX_PERIOD" 100) rfl))
  t_MAX_PRICE := Classical.choose (He.int_ok X G (c.fact 99 (f := .int "MAX_PRICE" 100) rfl))
  i_MAX_PRICE := Classical.choose_spec (He.int_ok X G (c.fact 99 (f := .int "MAX_PRICE" 100) rfl))
  t_MAX_CAME := Classical.choose (He.int_ok X G (c.fact 100 (f := .int "MAX_CAME" 1000) rfl))
  i_MAX_CAME := Classical.choose_spec (He.int_ok X G (c.fact 100 (f := .int "MAX_CAME" 1000) rfl))
  t_LETTERS := Classical.choose (He.str_ok X G (c.fact 101 (f := .str "LETTERS" "abcdefghijklmnopqrstuvwxyz") rfl))
  i_LETTERS := Classical.choose_spec (He.str_ok X G (c.fact 101 (f := .str "LETTERS" "abcdefghijklmnopqrstuvwxyz") rfl))
  r_RANGES := He.ga K "RANGES"
  i_RANGES := He.glo_ok X G (c.fact 102 (f := .glo "RANGES") rfl)
  r_RANGES0 := itemA K "RANGES" 0
  r_RANGES1 := itemA K "RANGES" 1
  r_RANGES2 := itemA K "RANGES" 2
  r_RANGES3 := itemA K "RANGES" 3
  r_RANGES4 := itemA K "RANGES" 4
  r_RANGES5 := itemA K "RANGES" 5
  q_RANGES := fun H => tupA_ok (He.ba x).1 H
  q_RANGES0 := fun H => tupA_ok (He.ba (He.ba x).2).1 H
  q_RANGES1 := fun H => tupA_ok (He.ba (He.ba (He.ba x).2).2).1 H
  q_RANGES2 := fun H => tupA_ok (He.ba (He.ba (He.ba (He.ba x).2).2).2).1 H
  q_RANGES3 := fun H => tupA_ok (He.ba (He.ba (He.ba (He.ba (He.ba x).2).2).2).2).1 H
  q_RANGES4 := fun H => tupA_ok (He.ba (He.ba (He.ba (He.ba (He.ba (He.ba x).2).2).2).2).2).1 H
  q_RANGES5 := fun H => tupA_ok (He.ba (He.ba (He.ba (He.ba (He.ba (He.ba x).2).2).2).2).2).2 H
end
end K65
set_option Elab.async false
set_option linter.all false
set_option maxRecDepth 100000
set_option maxHeartbeats 0
namespace K65
open PySem PySem.Spec PyProof.Rows L2
theorem facts {P : Program} {w : World} {K : PySem.W.Frag} {h : Heap} {mg : Str → Option Value} {f : Addr} (X : K.In h) (G : h.Ns mainGlobals mg) (hfa : mg ("law" : Str) = some (.ref f)) (c : He.SaysD faL fnL K) (x : exL K = true) :
    ∃ (fd : FuncData) (sp : Sp), (∀ (s : Shared) (v : Value), BindsTo s fd ⟨[v], []⟩ [("_law_script", v)]) ∧ (∀ (H : Hp) (a : Addr) (ns : List Int), SqL K H a (ns.map V.int) → sp [.ref a] H (fun v _ => v = .bl true) fun _ _ _ => False) ∧
      ∀ base : Heap, FnOk P w K mg base CX0 12 f fd ["_law_script"] sp := by
  have T : Ctx K mg := mkCtx X G c x
  have e := hfa.symm.trans T.g_law
  cases e
  have b := FunD.bindsA (ps := ["_law_script"]) T.F_law fun _ _ _ _ _ _ us hl => match us, hl with | [_], _ => rfl
  exact ⟨T.fd_law, sp_law T, fun s v => b s [v] rfl, fun H a ns hS => ⟨a, ns, rfl, hS, fun _ => rfl⟩, fun base => ok_law (P := P) (w := w) (base := base) T⟩
end K65
open PySem PySem.W PySem.Calls PyProof.Rows
theorem PySem.Challenge.cw_ebbkeep_k65_whole_records_are_checked_holds : PySem.Challenge.rw_ebbkeep_k65_whole_records_are_checked.Holds := by
  w_on; o_law
  refine HandSHeadRun.head_any (r := OpenLaw.row PySem.Challenge.rw_ebbkeep_k65_whole_records_are_checked) (q := K65.qv) (H := K65.hk) (ob := K65.ob) (M := 4000) (loose := K65.looseL) (d := HandSHeadRun.topDef (OpenLaw.row PySem.Challenge.rw_ebbkeep_k65_whole_records_are_checked).prog 71) (kwd := []) K65.ob_eq
    (by kernel_rfl) (fun s => by kernel_rfl) K65.run (by kernel_rfl) (by kernel_rfl) (by kernel_rfl) (by rfl) (by first | assumption | decide +kernel) (by decide +kernel) ⟨rfl, rfl, rfl, rfl, rfl, by decide +kernel⟩ ?hw ?hc
  case hw => w_witness2
  case hc =>
    refine L2.walk_ofE (l := PySem.Challenge.rw_ebbkeep_k65_whole_records_are_checked) (n := 63) (k := 12) (x := "_law_script") (CX := L2.CX0) rfl (by decide) (by kernel_rfl) ⟨rfl, by decide, by decide⟩ ?F (fun _ _ _ _ z => z)
    intro w mg fa h Y G hmg0
    obtain ⟨K, KX, c⟩ := Y
    have hmg : mg ("law" : PySem.Str) = some (.ref fa) := by
      have e : (HandSHeadRun.topDef (OpenLaw.row PySem.Challenge.rw_ebbkeep_k65_whole_records_are_checked).prog 71).name = ("law" : PySem.Str) := by kernel_rfl
      rw [← e]
      exact hmg0
    obtain ⟨fd, sp, hb, hsp, hF⟩ := K65.facts (P := (PySem.Challenge.rw_ebbkeep_k65_whole_records_are_checked).prog) (w := w) KX G hmg c.t.d c.more
    exact ⟨K, fd, sp, KX, hb, fun H a ns hl _ hS => hsp H a ns hS, fun base _ _ => hF base⟩
